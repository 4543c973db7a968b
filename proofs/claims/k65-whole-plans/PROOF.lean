import PyProof.Rows.All
import Wide.All
import OpenK.AllK
import Wide.FinOn
import KE.KStateDown
import HandS.ForMost
import HandS.Exc
import HandS.TryOnly
import HandS.ExcOwn
import HandS.WordsExc
import HandS.Codes
import HandS.Defaults
import HandS.Star
import HandS.IsInst
import HandS.MakeKwOnly
import HandS.Evl
import HandS.HeadHook4
import HandS.ExcField
import KE.KExcSuper
import HandS.Head0
import HandS.Head1
import HandS.Head2
import HandS.HeadEnd
import HandS.HeadHook1
import HandS.HeadHook2
import HandS.HeadHook3
import HandS.EndTab
import KE.KTupSum
import HandS.TupMul
import HandS.TupAny
import HandS.Walk
import HandS.Zip
import HandS.Deep
import KE.KDictKeyed
import KE.KDictDisplayH
import HandS.Lambda
import HandS.SortKw
import KE.SortKeyHeap
import HandS.SetFor
import KE.GoesEnum
import HandS.CallLocal
import HandS.ExcSuper
import HandS.ExcInit
import HandS.EndOwn
import HandS.HeadWalk
import PySem.Challenge.RW_widestparcels_k65_whole_plans_against_fo
set_option linter.all false
/-! WpM1: rows in plain Lean: what the program's row operations are, the law's own ones, and that they agree. -/
namespace WP

/-- a row without its b least widths -/
def wl : List Nat → Nat → List Nat
  | [], _ => []
  | n :: r, b => (n - b) :: wl r (b - n)
/-- the row behind a silence: r as it was, s what is left of it above the probe, c what came over from the need before -/
def sil0 : Nat → List Nat → List Nat → List Nat
  | c, n :: r, s :: t => (n - s + c) :: sil0 s r t
  | _, _, _ => []
def sil (r : List Nat) (b : Nat) : List Nat := sil0 0 r (wl r b)
def ans (q : Bool) (r : List Nat) (b : Nat) : List Nat := if q then (wl r b).sum :: List.replicate (r.length - 1) 0 else wl r b
def led (q : Bool) (r : List Nat) (b : Nat) (a : Bool) : List Nat := if a then ans q r b else sil r b
/-- weight: each width by the losses that it still bears, and one more -/
def spare : List Nat → Nat
  | [] => 0
  | n :: r => n * (r.length + 1) + spare r
def rank (r : List Nat) : Nat := 1000 * r.sum + spare r

theorem wl_len : ∀ (r : List Nat) (b : Nat), (wl r b).length = r.length
  | [], _ => rfl
  | n :: r, b => by simp [wl, wl_len r]
theorem wl_sum : ∀ (r : List Nat) (b : Nat), (wl r b).sum = r.sum - b
  | [], b => by simp [wl]
  | n :: r, b => by
    simp only [wl, List.sum_cons, wl_sum r]
    omega
theorem wl_zero : ∀ (r : List Nat), wl r 0 = r
  | [] => rfl
  | n :: r => by simp [wl, wl_zero r]
inductive Le2 : List Nat → List Nat → Prop where
  | nil : Le2 [] []
  | cons {s n : Nat} {t r : List Nat} : s ≤ n → Le2 t r → Le2 (s :: t) (n :: r)
theorem wl_le : ∀ (r : List Nat) (b : Nat), Le2 (wl r b) r
  | [], _ => .nil
  | n :: r, b => .cons (Nat.sub_le _ _) (wl_le r _)
theorem sil0_len {s r : List Nat} (h : Le2 s r) : ∀ c, (sil0 c r s).length = r.length := by
  induction h with
  | nil => intro c; rfl
  | cons _ _ ih => intro c; simp [sil0, ih]
theorem sil_len (r : List Nat) (b : Nat) : (sil r b).length = r.length := sil0_len (wl_le r b) 0
theorem sil0_sum {s r : List Nat} (h : Le2 s r) : ∀ c, (sil0 c r s).sum ≤ r.sum + c ∧ r.sum ≤ (sil0 c r s).sum + s.sum := by
  induction h with
  | nil => intro c; simp [sil0]
  | @cons s n t r hs _ ih =>
    intro c
    have := ih s
    simp only [sil0, List.sum_cons]
    omega
theorem sil_sum_le (r : List Nat) (b : Nat) : (sil r b).sum ≤ r.sum := by
  have := (sil0_sum (wl_le r b) 0).1
  exact this
theorem sil_sum_ge (r : List Nat) (b : Nat) (hb : b ≤ r.sum) : b ≤ (sil r b).sum := by
  have := (sil0_sum (wl_le r b) 0).2
  rw [wl_sum] at this
  unfold sil
  omega
theorem sil0_spare {s r : List Nat} (h : Le2 s r) : ∀ c, spare (sil0 c r s) + s.sum = spare r + c * r.length := by
  induction h with
  | nil => intro c; simp [sil0, spare]
  | @cons s n t r hs hl ih =>
    intro c
    have e := ih s
    have el : (sil0 s r t).length = r.length := sil0_len hl s
    simp only [sil0, spare, List.sum_cons, List.length_cons, el]
    have h1 : (n - s + c) * (r.length + 1) + s * (r.length + 1) = n * (r.length + 1) + c * (r.length + 1) := by
      rw [← Nat.add_mul, ← Nat.add_mul]
      congr 1
      omega
    rw [Nat.mul_add s, Nat.mul_one] at h1
    omega
theorem sil_spare (r : List Nat) (b : Nat) : spare (sil r b) + (r.sum - b) = spare r := by
  have := sil0_spare (wl_le r b) 0
  rw [wl_sum, Nat.zero_mul] at this
  exact this
theorem spare_le {s r : List Nat} (h : Le2 s r) : spare s ≤ spare r := by
  induction h with
  | nil => exact Nat.le_refl _
  | @cons s n t r hs hl ih =>
    have el : t.length = r.length := by
      clear ih hs
      induction hl with
      | nil => rfl
      | cons _ _ ih => simp [ih]
    simp only [spare, el]
    have := Nat.mul_le_mul_right (r.length + 1) hs
    omega
theorem spare_max : ∀ (r : List Nat), spare r ≤ r.sum * r.length
  | [] => Nat.zero_le _
  | n :: r => by
    have ih := spare_max r
    simp only [spare, List.sum_cons, List.length_cons, Nat.add_mul]
    have : r.sum * r.length ≤ r.sum * (r.length + 1) := Nat.mul_le_mul_left _ (Nat.le_succ _)
    omega
theorem ans_len (q : Bool) (r : List Nat) (b : Nat) (h : r ≠ []) : (ans q r b).length = r.length := by
  unfold ans
  have : 0 < r.length := List.length_pos_iff.mpr h
  cases q with
  | true => simp; omega
  | false => simp [wl_len]
theorem ans_sum (q : Bool) (r : List Nat) (b : Nat) : (ans q r b).sum = r.sum - b := by
  unfold ans
  cases q with
  | true => simp [List.sum_cons, wl_sum]
  | false => simp [wl_sum]
/-- the rows that can come on a road with L - 1 losses and at most 24 widths -/
structure Ok (L : Nat) (r : List Nat) : Prop where
  len : r.length = L
  pos : 1 ≤ r.sum
  top : r.sum ≤ 24
theorem Ok.ne {L : Nat} {r : List Nat} (h : Ok L r) : r ≠ [] := fun e => by
  have := h.pos
  rw [e] at this
  simp at this
theorem Ok.ans {L : Nat} {r : List Nat} (h : Ok L r) (q : Bool) {b : Nat} (hb : b < r.sum) : Ok L (ans q r b) :=
  ⟨(ans_len q r b h.ne).trans h.len, by rw [ans_sum]; omega, by rw [ans_sum]; have := h.top; omega⟩
theorem Ok.sil {L : Nat} {r : List Nat} (h : Ok L r) {b : Nat} (h1 : 1 ≤ b) (hb : b < r.sum) : Ok L (sil r b) :=
  ⟨(sil_len r b).trans h.len, Nat.le_trans h1 (sil_sum_ge r b (Nat.le_of_lt hb)), Nat.le_trans (sil_sum_le r b) h.top⟩
theorem Ok.led {L : Nat} {r : List Nat} (h : Ok L r) (q : Bool) {b : Nat} (h1 : 1 ≤ b) (hb : b < r.sum) (a : Bool) : Ok L (led q r b a) := by
  cases a with
  | true => exact h.ans q hb
  | false => exact h.sil h1 hb
theorem spare_rep : ∀ m, spare (List.replicate m 0) = 0
  | 0 => rfl
  | m + 1 => by simp [List.replicate_succ, spare, spare_rep m]
theorem rank_ans {L : Nat} {r : List Nat} (h : Ok L r) (hL : L ≤ 4) (q : Bool) {b : Nat} (h1 : 1 ≤ b) (hb : b < r.sum) : rank (ans q r b) < rank r := by
  unfold rank
  rw [ans_sum]
  cases q with
  | false =>
    have : spare (ans false r b) ≤ spare r := spare_le (wl_le r b)
    omega
  | true =>
    have e : spare (ans true r b) = (r.sum - b) * (r.length - 1 + 1) := by
      show spare ((wl r b).sum :: List.replicate (r.length - 1) 0) = _
      simp [spare, spare_rep, wl_sum]
    have hl := h.len
    have ht := h.top
    have : (r.sum - b) * (r.length - 1 + 1) ≤ 24 * 4 := Nat.mul_le_mul (by omega) (by
      have : 0 < r.length := List.length_pos_iff.mpr h.ne
      omega)
    omega
theorem rank_sil (r : List Nat) {b : Nat} (hb : b < r.sum) : rank (sil r b) < rank r := by
  unfold rank
  have h1 := sil_sum_le r b
  have h2 := sil_spare r b
  omega
theorem rank_led {L : Nat} {r : List Nat} (h : Ok L r) (hL : L ≤ 4) (q : Bool) {b : Nat} (h1 : 1 ≤ b) (hb : b < r.sum) (a : Bool) : rank (led q r b a) < rank r := by
  cases a with
  | true => exact rank_ans h hL q h1 hb
  | false => exact rank_sil r hb
theorem rank_bound {L : Nat} {r : List Nat} (h : Ok L r) (hL : L ≤ 4) : rank r < 24100 := by
  unfold rank
  have h1 := spare_max r
  have h2 : r.sum * r.length ≤ 24 * 4 := Nat.mul_le_mul h.top (by rw [h.len]; exact hL)
  have := h.top
  omega

/-! ### the law's own row operations -/
/-- the needs of a row, one a width: k first -/
def ndF : Nat → List Nat → List Nat
  | _, [] => []
  | k, n :: r => List.replicate n k ++ ndF (k + 1) r
/-- how many of each need from k on -/
def cntF : Nat → Nat → List Nat → List Nat
  | _, 0, _ => []
  | k, m + 1, l => l.count k :: cntF (k + 1) m l
theorem ndF_ge : ∀ (r : List Nat) (k x : Nat), x ∈ ndF k r → k ≤ x
  | [], k, x, h => by simp [ndF] at h
  | n :: r, k, x, h => by
    rcases List.mem_append.mp h with h | h
    · exact Nat.le_of_eq (List.eq_of_mem_replicate h).symm
    · exact Nat.le_of_succ_le (ndF_ge r (k + 1) x h)
theorem ndF_lt : ∀ (r : List Nat) (k x : Nat), x ∈ ndF k r → x < k + r.length
  | [], k, x, h => by simp [ndF] at h
  | n :: r, k, x, h => by
    rcases List.mem_append.mp h with h | h
    · rw [List.eq_of_mem_replicate h, List.length_cons]; omega
    · have := ndF_lt r (k + 1) x h
      rw [List.length_cons]; omega
theorem ndF_len : ∀ (r : List Nat) (k : Nat), (ndF k r).length = r.sum
  | [], _ => rfl
  | n :: r, k => by simp [ndF, ndF_len r]
theorem cntF_rep : ∀ (m j n k : Nat) (l : List Nat), k < j → cntF j m (List.replicate n k ++ l) = cntF j m l
  | 0, _, _, _, _, _ => rfl
  | m + 1, j, n, k, l, h => by
    have e : (List.replicate n k ++ l).count j = l.count j := by
      rw [List.count_append, List.count_eq_zero_of_not_mem (fun z => by have := List.eq_of_mem_replicate z; omega), Nat.zero_add]
    show (List.replicate n k ++ l).count j :: cntF (j + 1) m _ = l.count j :: cntF (j + 1) m l
    rw [e, cntF_rep m (j + 1) n k l (by omega)]
theorem cntF_nd : ∀ (r : List Nat) (k : Nat), cntF k r.length (ndF k r) = r
  | [], _ => rfl
  | n :: r, k => by
    have e : (ndF k (n :: r)).count k = n := by
      show (List.replicate n k ++ ndF (k + 1) r).count k = n
      rw [List.count_append, List.count_replicate_self, List.count_eq_zero_of_not_mem (fun z => by have := ndF_ge r (k + 1) k z; omega), Nat.add_zero]
    show (ndF k (n :: r)).count k :: cntF (k + 1) r.length (List.replicate n k ++ ndF (k + 1) r) = n :: r
    rw [e, cntF_rep _ _ _ _ _ (Nat.lt_succ_self k), cntF_nd r (k + 1)]
theorem nd_drop : ∀ (r : List Nat) (k b : Nat), (ndF k r).drop b = ndF k (wl r b)
  | [], k, b => by simp [ndF, wl]
  | n :: r, k, b => by
    show (List.replicate n k ++ ndF (k + 1) r).drop b = List.replicate (n - b) k ++ ndF (k + 1) (wl r (b - n))
    rw [List.drop_append, List.drop_replicate, List.length_replicate, nd_drop r]
/-- the b least ones -/
def tk : List Nat → Nat → List Nat
  | [], _ => []
  | n :: r, b => min n b :: tk r (b - n)
theorem tk_len : ∀ (r : List Nat) (b : Nat), (tk r b).length = r.length
  | [], _ => rfl
  | n :: r, b => by simp [tk, tk_len r]
theorem nd_take : ∀ (r : List Nat) (k b : Nat), (ndF k r).take b = ndF k (tk r b)
  | [], k, b => by simp [ndF, tk]
  | n :: r, k, b => by
    show (List.replicate n k ++ ndF (k + 1) r).take b = List.replicate (min n b) k ++ ndF (k + 1) (tk r (b - n))
    rw [List.take_append, List.take_replicate, List.length_replicate, nd_take r, Nat.min_comm]
theorem nd_map : ∀ (r : List Nat) (k : Nat), (ndF k r).map (· + 1) = ndF (k + 1) r
  | [], _ => rfl
  | n :: r, k => by simp [ndF, nd_map r]
theorem nd_filter : ∀ (r : List Nat) (k : Nat), (ndF k r).filter (fun x => decide (x + 1 < k + r.length)) = ndF k r.dropLast
  | [], _ => rfl
  | [n], k => by
    show (List.replicate n k ++ []).filter _ = []
    rw [List.append_nil, List.filter_eq_nil_iff]
    intro x hx
    rw [List.eq_of_mem_replicate hx]
    simp
  | n :: m :: r, k => by
    have ih := nd_filter (m :: r) (k + 1)
    show (List.replicate n k ++ ndF (k + 1) (m :: r)).filter _ = List.replicate n k ++ ndF (k + 1) ((m :: r).dropLast)
    rw [List.filter_append, ← ih]
    congr 1
    · rw [List.filter_eq_self]
      intro x hx
      rw [List.eq_of_mem_replicate hx]
      simp
    · apply List.filter_congr
      intro x _
      simp only [List.length_cons]
      congr 1
      apply propext
      omega
theorem cntF_append : ∀ (m k : Nat) (a b : List Nat), cntF k m (a ++ b) = List.zipWith (· + ·) (cntF k m a) (cntF k m b)
  | 0, _, _, _ => rfl
  | m + 1, k, a, b => by
    show (a ++ b).count k :: cntF (k + 1) m (a ++ b) = (a.count k + b.count k) :: List.zipWith (· + ·) (cntF (k + 1) m a) (cntF (k + 1) m b)
    rw [List.count_append, cntF_append m]
theorem cntF_up (r : List Nat) (k : Nat) : cntF k (r.length + 1) (ndF (k + 1) r) = 0 :: r := by
  show (ndF (k + 1) r).count k :: cntF (k + 1) r.length (ndF (k + 1) r) = 0 :: r
  rw [cntF_nd, List.count_eq_zero_of_not_mem (fun z => by have := ndF_ge r (k + 1) k z; omega)]
theorem sil0_zip : ∀ (r : List Nat) (c b : Nat), r ≠ [] → sil0 c r (wl r b) = List.zipWith (· + ·) (tk r b) (c :: (wl r b).dropLast)
  | [], _, _, h => absurd rfl h
  | [n], c, b, _ => by
    simp only [wl, sil0, tk, List.dropLast, List.zipWith]
    congr 1
    omega
  | n :: m :: r, c, b, _ => by
    have ih := sil0_zip (m :: r) (n - b) (b - n) (by simp)
    show (n - (n - b) + c) :: sil0 (n - b) (m :: r) (wl (m :: r) (b - n)) = (min n b + c) :: List.zipWith (· + ·) (tk (m :: r) (b - n)) ((n - b) :: (wl (m :: r) (b - n)).dropLast)
    rw [ih]
    congr 1
    omega
/-- what the law's _law_led reckons from the needs: an answer, a silence -/
def lawAns (q : Bool) (L : Nat) (nd : List Nat) (b : Nat) : List Nat := cntF 0 L (if q then List.replicate (nd.drop b).length 0 else nd.drop b)
def lawSil (L : Nat) (nd : List Nat) (b : Nat) : List Nat := cntF 0 L (nd.take b ++ ((nd.drop b).filter fun x => decide (x + 1 < L)).map (· + 1))
theorem cntF_zeros : ∀ (m k n : Nat), 0 < k → cntF k m (List.replicate n 0) = List.replicate m 0
  | 0, _, _, _ => rfl
  | m + 1, k, n, h => by
    show (List.replicate n 0).count k :: cntF (k + 1) m _ = 0 :: List.replicate m 0
    rw [cntF_zeros m (k + 1) n (by omega), List.count_eq_zero_of_not_mem (fun z => by have := List.eq_of_mem_replicate z; omega)]
theorem lawAns_eq (q : Bool) {r : List Nat} {L : Nat} (hl : r.length = L) (hne : r ≠ []) (b : Nat) : lawAns q L (ndF 0 r) b = ans q r b := by
  unfold lawAns ans
  rw [nd_drop]
  cases q with
  | false =>
    show cntF 0 L (ndF 0 (wl r b)) = wl r b
    have e := cntF_nd (wl r b) 0
    rw [wl_len, hl] at e
    exact e
  | true =>
    show cntF 0 L (List.replicate (ndF 0 (wl r b)).length 0) = _
    rw [ndF_len]
    cases L with
    | zero => exact absurd (List.length_eq_zero_iff.mp hl) hne
    | succ L =>
      show (List.replicate (wl r b).sum 0).count 0 :: cntF 1 L _ = _
      rw [List.count_replicate_self, cntF_zeros L 1 _ (by omega), hl]
      rfl
theorem lawSil_eq {r : List Nat} {L : Nat} (hl : r.length = L) (hne : r ≠ []) (b : Nat) : lawSil L (ndF 0 r) b = sil r b := by
  unfold lawSil sil
  rw [sil0_zip r 0 b hne, nd_take, nd_drop]
  have e1 : ((ndF 0 (wl r b)).filter fun x => decide (x + 1 < L)) = ndF 0 (wl r b).dropLast := by
    have := nd_filter (wl r b) 0
    rw [wl_len, hl, Nat.zero_add] at this
    exact this
  rw [e1, nd_map, cntF_append]
  congr 1
  · have e := cntF_nd (tk r b) 0
    rw [tk_len, hl] at e
    exact e
  · have e := cntF_up (wl r b).dropLast 0
    have h0 : 0 < r.length := List.length_pos_iff.mpr hne
    rw [List.length_dropLast, wl_len, hl, Nat.sub_add_cancel (by omega)] at e
    exact e
/-! ### few rows: a list of rows without repetition is short -/
def code : List Nat → Nat
  | [] => 0
  | n :: r => n + 25 * code r
theorem mem_le_sum : ∀ {r : List Nat} {x : Nat}, x ∈ r → x ≤ r.sum
  | n :: r, x, h => by
    rw [List.sum_cons]
    rcases List.mem_cons.mp h with rfl | h
    · omega
    · have := mem_le_sum h
      omega
theorem code_inj : ∀ (r s : List Nat), r.length = s.length → (∀ x ∈ r, x ≤ 24) → (∀ x ∈ s, x ≤ 24) → code r = code s → r = s
  | [], [], _, _, _, _ => rfl
  | n :: r, m :: s, hl, h1, h2, e => by
    have a := h1 n (List.mem_cons_self ..)
    have b := h2 m (List.mem_cons_self ..)
    simp only [code] at e
    have e1 : n = m := by omega
    have e2 : code r = code s := by omega
    rw [e1, code_inj r s (by simpa using hl) (fun x hx => h1 x (List.mem_cons_of_mem _ hx)) (fun x hx => h2 x (List.mem_cons_of_mem _ hx)) e2]
  | [], _ :: _, hl, _, _, _ => by simp at hl
  | _ :: _, [], hl, _, _, _ => by simp at hl
theorem code_lt : ∀ (r : List Nat), (∀ x ∈ r, x ≤ 24) → code r < 25 ^ r.length
  | [], _ => by simp [code]
  | n :: r, h => by
    have a := h n (List.mem_cons_self ..)
    have b := code_lt r fun x hx => h x (List.mem_cons_of_mem _ hx)
    simp only [code, List.length_cons, Nat.pow_succ]
    omega
theorem nodup_lt : ∀ (M : Nat) (l : List Nat), l.Nodup → (∀ x ∈ l, x < M) → l.length ≤ M
  | 0, l, _, h => by
    cases l with
    | nil => exact Nat.le_refl _
    | cons x r => exact absurd (h x (List.mem_cons_self ..)) (Nat.not_lt_zero _)
  | M + 1, l, hn, h => by
    have h1 : (l.erase M).Nodup := hn.erase M
    have h2 : ∀ x ∈ l.erase M, x < M := fun x hx => by
      have a := h x (List.mem_of_mem_erase hx)
      have b : x ≠ M := fun e => by
        subst e
        exact (List.Nodup.mem_erase_iff hn).mp hx |>.1 rfl
      omega
    have := nodup_lt M _ h1 h2
    have := List.length_erase (a := M) (l := l)
    split at this <;> omega
theorem few {L : Nat} (hL : L ≤ 4) {l : List (List Nat)} (hn : l.Nodup) (h : ∀ r ∈ l, Ok L r) : l.length ≤ 390625 := by
  have h1 : (l.map code).Nodup := by
    rw [List.Nodup, List.pairwise_map]
    refine hn.imp_of_mem fun {a b} ha hb hab e => hab ?_
    exact code_inj a b ((h a ha).len.trans (h b hb).len.symm) (fun x hx => Nat.le_trans (mem_le_sum hx) (h a ha).top) (fun x hx => Nat.le_trans (mem_le_sum hx) (h b hb).top) e
  have := nodup_lt 390625 (l.map code) h1 fun x hx => by
    obtain ⟨r, hr, rfl⟩ := List.mem_map.mp hx
    have := code_lt r fun y hy => Nat.le_trans (mem_le_sum hy) (h r hr).top
    have e : 25 ^ r.length ≤ 25 ^ 4 := Nat.pow_le_pow_right (by omega) (by rw [(h r hr).len]; exact hL)
    have : (25 : Nat) ^ 4 = 390625 := by decide
    omega
  rwa [List.length_map] at this
end WP
set_option linter.all false
/-! WpM2: costs of rows, of plans, against foes, of a play; the inequalities of the law. -/
namespace WP
/-- the numbers below of a row -/
def bs (r : List Nat) : List Nat := List.range' 1 (r.sum - 1)
theorem mem_bs {r : List Nat} {b : Nat} : b ∈ bs r ↔ 1 ≤ b ∧ b < r.sum := by
  unfold bs
  rw [List.mem_range'_1]
  omega
theorem bs_len (r : List Nat) : (bs r).length = r.sum - 1 := by
  unfold bs
  rw [List.length_range']
theorem bs_get {r : List Nat} {i : Nat} (h : i < r.sum - 1) : (bs r)[i]? = some (1 + i) := by
  unfold bs
  rw [List.getElem?_range' h, Nat.one_mul]
/-- the least of a list, 0 of none -/
def minL : List Nat → Nat
  | [] => 0
  | [x] => x
  | x :: y :: r => min x (minL (y :: r))
theorem minL_mem : ∀ {l : List Nat}, l ≠ [] → minL l ∈ l
  | [], h => absurd rfl h
  | [x], _ => by simp [minL]
  | x :: y :: r, _ => by
    have ih := minL_mem (l := y :: r) (by simp)
    have : minL (x :: y :: r) = x ∨ minL (x :: y :: r) = minL (y :: r) := by
      simp only [minL]
      omega
    rcases this with e | e
    · rw [e]; exact List.mem_cons_self ..
    · rw [e]; exact List.mem_cons_of_mem _ ih
theorem minL_le : ∀ {l : List Nat} {x : Nat}, x ∈ l → minL l ≤ x
  | [y], x, h => by
    rw [List.mem_singleton.mp h]
    exact Nat.le_refl _
  | z :: y :: r, x, h => by
    simp only [minL]
    rcases List.mem_cons.mp h with rfl | h
    · omega
    · have := minL_le h
      omega
theorem minL_eq {l : List Nat} {m : Nat} (h1 : m ∈ l) (h2 : ∀ y ∈ l, m ≤ y) : minL l = m := by
  have a := minL_le h1
  have b := h2 _ (minL_mem (List.ne_nil_of_mem h1))
  omega
theorem le_minL {l : List Nat} (h : l ≠ []) {m : Nat} (h2 : ∀ y ∈ l, m ≤ y) : m ≤ minL l := h2 _ (minL_mem h)
/-! ### functions of rows by the rank -/
section
variable {α : Type}
def fixN (z : α) (step : (List Nat → α) → List Nat → α) : Nat → List Nat → α
  | 0, _ => z
  | n + 1, r => step (fixN z step n) r
def fix (z : α) (step : (List Nat → α) → List Nat → α) (r : List Nat) : α := fixN z step (rank r + 1) r
def Loc (q : Bool) (L : Nat) (step : (List Nat → α) → List Nat → α) : Prop :=
  ∀ (g g' : List Nat → α) (r : List Nat), Ok L r → (∀ b a, 1 ≤ b → b < r.sum → g (led q r b a) = g' (led q r b a)) → step g r = step g' r
variable {q : Bool} {L : Nat} {z : α} {step : (List Nat → α) → List Nat → α}
theorem fixN_any (hL : L ≤ 4) (h : Loc q L step) : ∀ (k : Nat) (r : List Nat), Ok L r → rank r < k → ∀ n m, rank r < n → rank r < m → fixN z step n r = fixN z step m r
  | 0, _, _, hk, _, _, _, _ => absurd hk (Nat.not_lt_zero _)
  | k + 1, r, ho, hk, n, m, hn, hm => by
    cases n with
    | zero => exact absurd hn (Nat.not_lt_zero _)
    | succ n =>
      cases m with
      | zero => exact absurd hm (Nat.not_lt_zero _)
      | succ m =>
        refine h _ _ r ho fun b a h1 hb => ?_
        have hr := rank_led ho hL q h1 hb a
        exact fixN_any hL h k _ (ho.led q h1 hb a) (by omega) n m (by omega) (by omega)
theorem fix_eq (hL : L ≤ 4) (h : Loc q L step) {r : List Nat} (ho : Ok L r) : fix z step r = step (fix z step) r := by
  refine h _ _ r ho fun b a h1 hb => ?_
  have hr := rank_led ho hL q h1 hb a
  exact fixN_any hL h _ _ (ho.led q h1 hb a) (Nat.lt_succ_self _) _ _ hr (Nat.lt_succ_self _)
theorem rank_ind (hL : L ≤ 4) {P : List Nat → Prop} (h : ∀ r, Ok L r → (∀ b a, 1 ≤ b → b < r.sum → P (led q r b a)) → P r) : ∀ r, Ok L r → P r := by
  have key : ∀ (k : Nat) (r : List Nat), Ok L r → rank r < k → P r := by
    intro k
    induction k with
    | zero => intro r _ hk; exact absurd hk (Nat.not_lt_zero _)
    | succ k ih =>
      intro r ho hk
      refine h r ho fun b a h1 hb => ih _ (ho.led q h1 hb a) ?_
      have hr := rank_led ho hL q h1 hb a
      omega
  exact fun r ho => key _ r ho (Nat.lt_succ_self _)
end
/-- the prices and the way of the losses -/
structure Par where
  pa : Nat
  ps : Nat
  q : Bool
def Par.price (p : Par) (a : Bool) : Nat := if a then p.pa else p.ps
def branch (p : Par) (g : List Nat → Nat) (r : List Nat) (b : Nat) (a : Bool) : Nat := p.price a + g (led p.q r b a)
def costStep (p : Par) (g : List Nat → Nat) (r : List Nat) : Nat := minL ((bs r).map fun b => max (branch p g r b true) (branch p g r b false))
def planStep (p : Par) (pl : List Nat → Nat) (g : List Nat → Nat) (r : List Nat) : Nat := if r.sum ≤ 1 then 0 else max (branch p g r (pl r) true) (branch p g r (pl r) false)
def foeStep (p : Par) (fo : List Nat → Nat → Bool) (g : List Nat → Nat) (r : List Nat) : Nat := minL ((bs r).map fun b => branch p g r b (fo r b))
def playStep (p : Par) (pl : List Nat → Nat) (fo : List Nat → Nat → Bool) (g : List Nat → Nat) (r : List Nat) : Nat := if r.sum ≤ 1 then 0 else branch p g r (pl r) (fo r (pl r))
def courseStep (q : Bool) (pl : List Nat → Nat) (fo : List Nat → Nat → Bool) (g : List Nat → List Nat → List (Nat × Bool)) (r : List Nat) (ws : List Nat) : List (Nat × Bool) :=
  if r.sum ≤ 1 then [] else (ws.getD (pl r) 0, fo r (pl r)) :: g (led q r (pl r) (fo r (pl r))) (if fo r (pl r) then ws.drop (pl r) else ws.take (led q r (pl r) (fo r (pl r))).sum)
def cost (p : Par) : List Nat → Nat := fix 0 (costStep p)
def planC (p : Par) (pl : List Nat → Nat) : List Nat → Nat := fix 0 (planStep p pl)
def foeC (p : Par) (fo : List Nat → Nat → Bool) : List Nat → Nat := fix 0 (foeStep p fo)
def playC (p : Par) (pl : List Nat → Nat) (fo : List Nat → Nat → Bool) : List Nat → Nat := fix 0 (playStep p pl fo)
def course (q : Bool) (pl : List Nat → Nat) (fo : List Nat → Nat → Bool) : List Nat → List Nat → List (Nat × Bool) := fix (fun _ => []) (courseStep q pl fo)
/-- a plan in plain Lean: right wherever a probe is wanted -/
def Good (pl : List Nat → Nat) : Prop := ∀ r, 1 < r.sum → 1 ≤ pl r ∧ pl r < r.sum
section
variable {p : Par} {L : Nat} {pl : List Nat → Nat} {fo : List Nat → Nat → Bool}
theorem loc_cost : Loc p.q L (costStep p) := fun g g' r _ h => by
  unfold costStep
  congr 1
  apply List.map_congr_left
  intro b hb
  obtain ⟨h1, h2⟩ := mem_bs.mp hb
  unfold branch
  rw [h b true h1 h2, h b false h1 h2]
theorem loc_plan (hp : Good pl) : Loc p.q L (planStep p pl) := fun g g' r _ h => by
  unfold planStep branch
  split
  · rfl
  · obtain ⟨h1, h2⟩ := hp r (by omega)
    rw [h _ true h1 h2, h _ false h1 h2]
theorem loc_foe : Loc p.q L (foeStep p fo) := fun g g' r _ h => by
  unfold foeStep
  congr 1
  apply List.map_congr_left
  intro b hb
  obtain ⟨h1, h2⟩ := mem_bs.mp hb
  unfold branch
  rw [h b _ h1 h2]
theorem loc_play (hp : Good pl) : Loc p.q L (playStep p pl fo) := fun g g' r _ h => by
  unfold playStep branch
  split
  · rfl
  · obtain ⟨h1, h2⟩ := hp r (by omega)
    rw [h _ _ h1 h2]
theorem loc_course {q : Bool} (hp : Good pl) : Loc q L (courseStep q pl fo) := fun g g' r _ h => by
  funext ws
  unfold courseStep
  split
  · rfl
  · obtain ⟨h1, h2⟩ := hp r (by omega)
    rw [h _ _ h1 h2]
theorem cost_eq (hL : L ≤ 4) {r : List Nat} (ho : Ok L r) : cost p r = minL ((bs r).map fun b => max (branch p (cost p) r b true) (branch p (cost p) r b false)) := fix_eq hL loc_cost ho
theorem planC_eq (hL : L ≤ 4) (hp : Good pl) {r : List Nat} (ho : Ok L r) : planC p pl r = if r.sum ≤ 1 then 0 else max (branch p (planC p pl) r (pl r) true) (branch p (planC p pl) r (pl r) false) := fix_eq hL (loc_plan hp) ho
theorem foeC_eq (hL : L ≤ 4) {r : List Nat} (ho : Ok L r) : foeC p fo r = minL ((bs r).map fun b => branch p (foeC p fo) r b (fo r b)) := fix_eq hL loc_foe ho
theorem playC_eq (hL : L ≤ 4) (hp : Good pl) {r : List Nat} (ho : Ok L r) : playC p pl fo r = if r.sum ≤ 1 then 0 else branch p (playC p pl fo) r (pl r) (fo r (pl r)) := fix_eq hL (loc_play hp) ho
theorem course_eq (hL : L ≤ 4) {q : Bool} (hp : Good pl) {r : List Nat} (ho : Ok L r) (ws : List Nat) : course q pl fo r ws =
    if r.sum ≤ 1 then [] else (ws.getD (pl r) 0, fo r (pl r)) :: course q pl fo (led q r (pl r) (fo r (pl r))) (if fo r (pl r) then ws.drop (pl r) else ws.take (led q r (pl r) (fo r (pl r))).sum) :=
  congrFun (fix_eq hL (loc_course hp) ho) ws
theorem bs_one {r : List Nat} (h : r.sum ≤ 1) : bs r = [] := by
  unfold bs
  rw [show r.sum - 1 = 0 by omega]
  rfl
theorem bs_ne {r : List Nat} (h : 1 < r.sum) : bs r ≠ [] := fun e => by
  have : (1 : Nat) ∈ bs r := mem_bs.mpr ⟨Nat.le_refl _, h⟩
  rw [e] at this
  simp at this
theorem cost_one (hL : L ≤ 4) {r : List Nat} (ho : Ok L r) (h : r.sum ≤ 1) : cost p r = 0 := by
  rw [cost_eq hL ho, bs_one h]
  rfl
theorem foe_le_cost (hL : L ≤ 4) : ∀ r, Ok L r → foeC p fo r ≤ cost p r := by
  refine rank_ind (q := p.q) hL fun r ho ih => ?_
  by_cases h1 : r.sum ≤ 1
  · rw [foeC_eq hL ho, cost_eq hL ho, bs_one h1]
    exact Nat.le_refl _
  · rw [foeC_eq hL ho, cost_eq hL ho]
    refine le_minL (by simpa using bs_ne (by omega)) fun y hy => ?_
    obtain ⟨b, hb, rfl⟩ := List.mem_map.mp hy
    obtain ⟨k1, k2⟩ := mem_bs.mp hb
    have a1 : minL ((bs r).map fun b => branch p (foeC p fo) r b (fo r b)) ≤ branch p (foeC p fo) r b (fo r b) := minL_le (List.mem_map.mpr ⟨b, hb, rfl⟩)
    have a2 := ih b (fo r b) k1 k2
    have a3 : branch p (foeC p fo) r b (fo r b) ≤ branch p (cost p) r b (fo r b) := Nat.add_le_add_left a2 _
    cases e : fo r b with
    | true => rw [e] at a3 a1; omega
    | false => rw [e] at a3 a1; omega
theorem cost_le_plan (hL : L ≤ 4) (hp : Good pl) : ∀ r, Ok L r → cost p r ≤ planC p pl r := by
  refine rank_ind (q := p.q) hL fun r ho ih => ?_
  rw [planC_eq hL hp ho]
  by_cases h1 : r.sum ≤ 1
  · rw [cost_one hL ho h1]
    exact Nat.zero_le _
  · rw [if_neg h1, cost_eq hL ho]
    obtain ⟨k1, k2⟩ := hp r (by omega)
    have a1 : minL ((bs r).map fun b => max (branch p (cost p) r b true) (branch p (cost p) r b false)) ≤ max (branch p (cost p) r (pl r) true) (branch p (cost p) r (pl r) false) := minL_le (List.mem_map.mpr ⟨_, mem_bs.mpr ⟨k1, k2⟩, rfl⟩)
    have a2 : branch p (cost p) r (pl r) true ≤ branch p (planC p pl) r (pl r) true := Nat.add_le_add_left (ih _ true k1 k2) _
    have a3 : branch p (cost p) r (pl r) false ≤ branch p (planC p pl) r (pl r) false := Nat.add_le_add_left (ih _ false k1 k2) _
    omega
theorem foe_le_play (hL : L ≤ 4) (hp : Good pl) : ∀ r, Ok L r → foeC p fo r ≤ playC p pl fo r := by
  refine rank_ind (q := p.q) hL fun r ho ih => ?_
  rw [playC_eq hL hp ho, foeC_eq hL ho]
  by_cases h1 : r.sum ≤ 1
  · rw [bs_one h1]
    exact Nat.zero_le _
  · rw [if_neg h1]
    obtain ⟨k1, k2⟩ := hp r (by omega)
    have a1 : minL ((bs r).map fun b => branch p (foeC p fo) r b (fo r b)) ≤ branch p (foeC p fo) r (pl r) (fo r (pl r)) := minL_le (List.mem_map.mpr ⟨_, mem_bs.mpr ⟨k1, k2⟩, rfl⟩)
    have a2 : branch p (foeC p fo) r (pl r) (fo r (pl r)) ≤ branch p (playC p pl fo) r (pl r) (fo r (pl r)) := Nat.add_le_add_left (ih _ _ k1 k2) _
    omega
theorem play_le_plan (hL : L ≤ 4) (hp : Good pl) : ∀ r, Ok L r → playC p pl fo r ≤ planC p pl r := by
  refine rank_ind (q := p.q) hL fun r ho ih => ?_
  rw [playC_eq hL hp ho, planC_eq hL hp ho]
  by_cases h1 : r.sum ≤ 1
  · rw [if_pos h1, if_pos h1]
    exact Nat.le_refl _
  · rw [if_neg h1, if_neg h1]
    obtain ⟨k1, k2⟩ := hp r (by omega)
    have a2 : branch p (playC p pl fo) r (pl r) (fo r (pl r)) ≤ branch p (planC p pl) r (pl r) (fo r (pl r)) := Nat.add_le_add_left (ih _ _ k1 k2) _
    cases e : fo r (pl r) with
    | true => rw [e] at a2; omega
    | false => rw [e] at a2; omega
/-- the told plan's number: the least of the best ones -/
def greater (p : Par) (r : List Nat) (b : Nat) : Nat := max (branch p (cost p) r b true) (branch p (cost p) r b false)
def best (p : Par) (r : List Nat) : List Nat := (bs r).filter fun b => decide (greater p r b = cost p r)
def toldPl (p : Par) (r : List Nat) : Nat := (best p r).headD 1
def toldFo (p : Par) (r : List Nat) (b : Nat) : Bool := decide (branch p (cost p) r b false ≤ branch p (cost p) r b true)
theorem best_ne (hL : L ≤ 4) {r : List Nat} (ho : Ok L r) (h : 1 < r.sum) : best p r ≠ [] := by
  have e : cost p r = minL ((bs r).map (greater p r)) := cost_eq hL ho
  have hm := minL_mem (l := (bs r).map (greater p r)) (by simpa using bs_ne h)
  rw [← e] at hm
  obtain ⟨b, hb, e2⟩ := List.mem_map.mp hm
  exact List.ne_nil_of_mem (List.mem_filter.mpr ⟨hb, decide_eq_true e2⟩)
theorem told_best (hL : L ≤ 4) {r : List Nat} (ho : Ok L r) (h : 1 < r.sum) : toldPl p r ∈ bs r ∧ greater p r (toldPl p r) = cost p r := by
  have hne := best_ne (p := p) hL ho h
  unfold toldPl
  cases e : best p r with
  | nil => exact absurd e hne
  | cons b t =>
    have hb : b ∈ best p r := by rw [e]; exact List.mem_cons_self ..
    obtain ⟨h1, h2⟩ := List.mem_filter.mp hb
    exact ⟨h1, of_decide_eq_true h2⟩
theorem told_pays (hL : L ≤ 4) (hp : Good pl) (e1 : ∀ r, Ok L r → 1 < r.sum → pl r = toldPl p r) (e2 : ∀ r, Ok L r → ∀ b, 1 ≤ b → b < r.sum → fo r b = toldFo p r b) : ∀ r, Ok L r → playC p pl fo r = cost p r := by
  refine rank_ind (q := p.q) hL fun r ho ih => ?_
  rw [playC_eq hL hp ho]
  by_cases h1 : r.sum ≤ 1
  · rw [if_pos h1, cost_one hL ho h1]
  · rw [if_neg h1]
    obtain ⟨k1, k2⟩ := hp r (by omega)
    have a1 := ih (pl r) (fo r (pl r)) k1 k2
    have a2 := (told_best (p := p) hL ho (by omega)).2
    rw [← e1 r ho (by omega)] at a2
    have a3 : branch p (playC p pl fo) r (pl r) (fo r (pl r)) = branch p (cost p) r (pl r) (fo r (pl r)) := congrArg (p.price (fo r (pl r)) + ·) a1
    rw [a3, ← a2, e2 r ho _ k1 k2]
    unfold greater toldFo
    by_cases hc : branch p (cost p) r (pl r) false ≤ branch p (cost p) r (pl r) true
    · rw [decide_eq_true hc]
      omega
    · rw [decide_eq_false hc]
      omega
end
end WP
set_option linter.all false
/-! WpM3: the machine of Costs.fill ends; walks in breadth. -/
namespace WP
/-- the branches behind r that are not found yet, in the order of the program -/
def missing (q : Bool) (fd : List (List Nat)) (r : List Nat) : List (List Nat) := (bs r).flatMap fun b => [ans q r b, sil r b].filter fun x => decide (x ∉ fd)
/-- so many turns are left (the stack with its top ahead); B bounds the stack -/
inductive Runs (q : Bool) (B : Nat) : Nat → List (List Nat) → List (List Nat) → Prop where
  | done {fd : List (List Nat)} : Runs q B 0 [] fd
  | hit {n : Nat} {now : List Nat} {st fd : List (List Nat)} : now ∈ fd → st.length < B → Runs q B n st fd → Runs q B (n + 1) (now :: st) fd
  | push {n : Nat} {now : List Nat} {st fd : List (List Nat)} : now ∉ fd → missing q fd now ≠ [] → st.length + 1 + (missing q fd now).length ≤ B → Runs q B n ((missing q fd now).reverse ++ now :: st) fd → Runs q B (n + 1) (now :: st) fd
  | add {n : Nat} {now : List Nat} {st fd : List (List Nat)} : now ∉ fd → missing q fd now = [] → st.length < B → Runs q B n st (fd ++ [now]) → Runs q B (n + 1) (now :: st) fd
def Ends (q : Bool) (B : Nat) (st fd : List (List Nat)) : Prop := ∃ n, Runs q B n st fd
theorem mem_missing {q : Bool} {fd : List (List Nat)} {r x : List Nat} : x ∈ missing q fd r ↔ x ∉ fd ∧ ∃ b a, 1 ≤ b ∧ b < r.sum ∧ x = led q r b a := by
  unfold missing
  rw [List.mem_flatMap]
  constructor
  · rintro ⟨b, hb, h⟩
    obtain ⟨h1, h2⟩ := List.mem_filter.mp h
    obtain ⟨k1, k2⟩ := mem_bs.mp hb
    refine ⟨of_decide_eq_true h2, b, ?_⟩
    rcases List.mem_cons.mp h1 with e | e
    · exact ⟨true, k1, k2, e⟩
    · exact ⟨false, k1, k2, List.mem_singleton.mp e⟩
  · rintro ⟨h, b, a, k1, k2, e⟩
    refine ⟨b, mem_bs.mpr ⟨k1, k2⟩, List.mem_filter.mpr ⟨?_, decide_eq_true h⟩⟩
    cases a with
    | true => rw [e]; exact List.mem_cons_self ..
    | false => rw [e]; exact List.mem_cons_of_mem _ (List.mem_cons_self ..)
theorem missing_len (q : Bool) (fd : List (List Nat)) (r : List Nat) : (missing q fd r).length ≤ 2 * (r.sum - 1) := by
  unfold missing
  rw [← bs_len r]
  generalize bs r = l
  induction l with
  | nil => exact Nat.le_refl _
  | cons b l ih =>
    rw [List.flatMap_cons, List.length_append, List.length_cons]
    have : ([ans q r b, sil r b].filter fun x => decide (x ∉ fd)).length ≤ 2 := List.length_filter_le _ _
    omega
theorem ends_all {q : Bool} {L B : Nat} {k : Nat}
    (one : ∀ (r : List Nat) (st fd : List (List Nat)), Ok L r → rank r < k → st.length + 50 * (rank r + 1) ≤ B → (∀ fd', (∀ x ∈ fd, x ∈ fd') → r ∈ fd' → Ends q B st fd') → Ends q B (r :: st) fd) :
    ∀ (ms st fd : List (List Nat)), (∀ m ∈ ms, Ok L m ∧ rank m < k) → st.length + ms.length + 50 * k ≤ B → (∀ fd', (∀ x ∈ fd, x ∈ fd') → (∀ m ∈ ms, m ∈ fd') → Ends q B st fd') → Ends q B (ms ++ st) fd
  | [], st, fd, _, _, h => h fd (fun _ z => z) fun m hm => by simp at hm
  | m :: ms, st, fd, ho, hl, h => by
    obtain ⟨o1, o2⟩ := ho m (List.mem_cons_self ..)
    rw [List.length_cons] at hl
    refine one m (ms ++ st) fd o1 o2 (by rw [List.length_append]; omega) fun fd1 e1 m1 => ?_
    refine ends_all one ms st fd1 (fun x hx => ho x (List.mem_cons_of_mem _ hx)) (by omega) fun fd2 e2 m2 => h fd2 (fun x hx => e2 x (e1 x hx)) fun x hx => ?_
    rcases List.mem_cons.mp hx with rfl | hx
    · exact e2 _ m1
    · exact m2 x hx
theorem ends_one {q : Bool} {L B : Nat} (hL : L ≤ 4) : ∀ (k : Nat) (r : List Nat) (st fd : List (List Nat)), Ok L r → rank r < k → st.length + 50 * (rank r + 1) ≤ B →
    (∀ fd', (∀ x ∈ fd, x ∈ fd') → r ∈ fd' → Ends q B st fd') → Ends q B (r :: st) fd
  | 0, _, _, _, _, hk, _, _ => absurd hk (Nat.not_lt_zero _)
  | k + 1, r, st, fd, ho, hk, hl, h => by
    by_cases hm : r ∈ fd
    · obtain ⟨n, hn⟩ := h fd (fun _ z => z) hm
      exact ⟨n + 1, .hit hm (by omega) hn⟩
    · have fin : ∀ fd', (∀ x ∈ fd, x ∈ fd') → missing q fd' r = [] → Ends q B (r :: st) fd' := fun fd' e hz => by
        by_cases hm' : r ∈ fd'
        · obtain ⟨n, hn⟩ := h fd' e hm'
          exact ⟨n + 1, .hit hm' (by omega) hn⟩
        · obtain ⟨n, hn⟩ := h (fd' ++ [r]) (fun x hx => List.mem_append_left _ (e x hx)) (List.mem_append_right _ (List.mem_cons_self ..))
          exact ⟨n + 1, .add hm' hz (by omega) hn⟩
      by_cases hz : missing q fd r = []
      · exact fin fd (fun _ z => z) hz
      · have hlen := missing_len q fd r
        have htop := ho.top
        have hms : ∀ m ∈ (missing q fd r).reverse, Ok L m ∧ rank m < rank r := fun m hm2 => by
          obtain ⟨_, b, a, k1, k2, e⟩ := mem_missing.mp (List.mem_reverse.mp hm2)
          rw [e]
          exact ⟨ho.led q k1 k2 a, rank_led ho hL q k1 k2 a⟩
        have : Ends q B ((missing q fd r).reverse ++ r :: st) fd := by
          refine ends_all (L := L) (k := rank r) (fun r' st' fd' o1 o2 o3 o4 => ends_one hL k r' st' fd' o1 (by omega) o3 o4) _ _ _ hms ?_ fun fd1 e1 m1 => fin fd1 e1 ?_
          · rw [List.length_reverse, List.length_cons]
            omega
          · apply List.eq_nil_iff_forall_not_mem.mpr
            intro x hx
            obtain ⟨h1, b, a, k1, k2, e⟩ := mem_missing.mp hx
            by_cases hx0 : x ∈ fd
            · exact h1 (e1 x hx0)
            · exact h1 (m1 x (List.mem_reverse.mpr (mem_missing.mpr ⟨hx0, b, a, k1, k2, e⟩)))
        obtain ⟨n, hn⟩ := this
        exact ⟨n + 1, .push hm hz (by omega) hn⟩
theorem fill_ends (q : Bool) {L : Nat} (hL : L ≤ 4) {r : List Nat} (ho : Ok L r) (fd : List (List Nat)) : Ends q 2000000 [r] fd := by
  have hb := rank_bound ho hL
  refine ends_one hL _ r [] fd ho (Nat.lt_succ_self _) (by simp; omega) fun fd' _ _ => ⟨0, .done⟩
/-- what is found: rows that can come, each with all rows behind it -/
structure Fd (q : Bool) (L : Nat) (fd : List (List Nat)) : Prop where
  nd : fd.Nodup
  ok : ∀ r ∈ fd, Ok L r
  cl : ∀ r ∈ fd, ∀ b a, 1 ≤ b → b < r.sum → led q r b a ∈ fd
theorem Fd.nil {q : Bool} {L : Nat} : Fd q L [] := ⟨List.nodup_nil, fun _ h => by simp at h, fun _ h => by simp at h⟩
theorem Fd.add {q : Bool} {L : Nat} {fd : List (List Nat)} {r : List Nat} (h : Fd q L fd) (ho : Ok L r) (hn : r ∉ fd) (hm : missing q fd r = []) : Fd q L (fd ++ [r]) := by
  refine ⟨?_, fun x hx => ?_, fun x hx b a h1 h2 => ?_⟩
  · rw [List.nodup_append]
    exact ⟨h.nd, (by simp), fun a ha b hb e => hn (by rw [List.mem_singleton] at hb; rw [← hb, ← e]; exact ha)⟩
  · rcases List.mem_append.mp hx with hx | hx
    · exact h.ok x hx
    · rw [List.mem_singleton.mp hx]; exact ho
  · rcases List.mem_append.mp hx with hx | hx
    · exact List.mem_append_left _ (h.cl x hx b a h1 h2)
    · rw [List.mem_singleton.mp hx] at h2 ⊢
      refine List.mem_append_left _ ?_
      by_cases hz : led q r b a ∈ fd
      · exact hz
      · have : led q r b a ∈ missing q fd r := mem_missing.mpr ⟨hz, b, a, h1, h2, rfl⟩
        rw [hm] at this
        simp at this
/-! ### rows in the order in which they are reached -/
/-- one more row, unless it stands there -/
def addR (rows : List (List Nat)) (x : List Nat) : List (List Nat) := if x ∈ rows then rows else rows ++ [x]
theorem addR_mem {rows : List (List Nat)} {x y : List Nat} : y ∈ addR rows x ↔ y ∈ rows ∨ y = x := by
  unfold addR
  split
  · rename_i h
    exact ⟨.inl, fun z => z.elim id fun e => e ▸ h⟩
  · rw [List.mem_append, List.mem_singleton]
theorem addR_nd {rows : List (List Nat)} {x : List Nat} (h : rows.Nodup) : (addR rows x).Nodup := by
  unfold addR
  split
  · exact h
  · rename_i hn
    rw [List.nodup_append]
    exact ⟨h, (by simp), fun a ha b hb e => hn (by rw [List.mem_singleton] at hb; rw [← hb, ← e]; exact ha)⟩
theorem addR_pre {rows : List (List Nat)} {x : List Nat} : ∃ more, addR rows x = rows ++ more := by
  unfold addR
  split
  · exact ⟨[], (List.append_nil _).symm⟩
  · exact ⟨[x], rfl⟩
end WP
set_option Elab.async false
set_option linter.all false
set_option maxRecDepth 100000
set_option maxHeartbeats 2000000
/-! WpB: the text by places, what the top has written, promises by names. -/
namespace Wp
open PySem PySem.Spec PyProof.Rows L2
/-! ### the text -/
def topS (i : Nat) : Stmt := PySem.Challenge.pw_widestparcels_k65_whole_plans_against_fo.main.body.getD i (.Pass ⟨0, 0, 0, 0⟩)
abbrev metS (i j : Nat) : Stmt := inClass (topS i) j
/-- a def of the module, the i-th statement of the top -/
structure DefAt (K : PySem.W.Frag) (mg : Str → Option Value) (x : Str) (i : Nat) : Prop where
  fn : ∃ (f : Addr) (fd : FuncData), FunD K x x (defArgs (topS i)) (defBody (topS i)) (defScope (topS i)) [] [] f fd ∧ mg x = some (.ref f)
/-- a method of the class at C, the j-th statement of the class's block -/
structure MetAt (K : PySem.W.Frag) (C : Addr) (m q : Str) (i j : Nat) : Prop where
  fn : ∃ (f : Addr) (fd : FuncData), FunD K m q (defArgs (metS i j)) (defBody (metS i j)) (defScope (metS i j)) [] [] f fd ∧ Meth K C m f
section
variable {P : Program} {w : World} {K : PySem.W.Frag} {mg : Str → Option Value} {base : Heap}
/-- how a def's values bind -/
def BindsBy (x q : Str) (st : Stmt) (ps : List Str) : Prop :=
  ∀ (kV doc pm : Value) (an : Option Addr) (cdv ct : Value) (us : List Value), us.length = ps.length → bindArgs (PySem.W.fnOf x q (defArgs st) (defBody st) (defScope st) .none kV doc pm an cdv ct) ⟨us, []⟩ = pure (ps.zip us)
/-- a def that raises nothing, by its body -/
theorem cal_mk {x : Str} {i : Nat} {N ps : List Str} {k : Nat} {sp : Sp} (D : DefAt K mg x i) (S : FnScope N ps (defScope (topS i))) (hb : BindsBy x x (topS i) ps) (len : ∀ vs H Q E, sp vs H Q E → vs.length = ps.length)
    (hbody : ∀ (f : Addr) (cdv : Value) (A : Around) (outer : List Env) (s : Shared) (H : Hp) (vs : List V) (Q : VK) (E : XK), Room k (A.deeper (envOfC x (defScope (topS i)) s.heap.objs.size f cdv)) → sp vs H Q E →
      ∃ t, PSs (cxOf CX0 P w K mg base N x (defScope (topS i)) f cdv A outer s H E).nox (defBody (topS i)) t ∧ t { nx := fun _ H' => Q .non H', rt := Q } (start N vs) H) : C8.Cal P w K mg base (k + 1) x sp [] := by
  obtain ⟨f, fd, F, hm⟩ := D.fn
  refine ⟨f, fd, ps, [], F.ok S len fun cdv A outer s H vs Q E hr hs => ?_, hm, F.kp, F.bindsN hb, .nil⟩
  obtain ⟨t, h, q⟩ := hbody f cdv A outer s H vs Q E hr hs
  exact ⟨t, h.nox, q⟩
/-- a method that raises nothing, by its body -/
theorem met_mk {m q : Str} {C : Addr} {i j : Nat} {N ps : List Str} {k : Nat} {sp : Sp} (c : Cls K C) (D : MetAt K C m q i j) (S : FnScope N ps (defScope (metS i j))) (hb : BindsBy m q (metS i j) ps) (len : ∀ vs H Q E, sp vs H Q E → vs.length = ps.length)
    (hbody : ∀ (f : Addr) (cdv : Value) (A : Around) (outer : List Env) (s : Shared) (H : Hp) (vs : List V) (Q : VK) (E : XK), Room k (A.deeper (envOfC q (defScope (metS i j)) s.heap.objs.size f cdv)) → sp vs H Q E →
      ∃ t, PSs (cxOf CX0 P w K mg base N q (defScope (metS i j)) f cdv A outer s H E).nox (defBody (metS i j)) t ∧ t { nx := fun _ H' => Q .non H', rt := Q } (start N vs) H) : C8.Met P w K mg base (k + 1) C m sp [] := by
  obtain ⟨f, fd, F, hm⟩ := D.fn
  refine ⟨f, fd, ps, [], c, hm, F.ok S len fun cdv A outer s H vs Q E hr hs => ?_, F.bindsN hb, .nil⟩
  obtain ⟨t, h, q⟩ := hbody f cdv A outer s H vs Q E hr hs
  exact ⟨t, h.nox, q⟩
end
/-- a method with keyword-only defaults -/
structure MetAtK (K : PySem.W.Frag) (C : Addr) (m q : Str) (i j : Nat) (kws : List (Str × V)) : Prop where
  fn : ∃ (f : Addr) (fd : FuncData), FunD K m q (defArgs (metS i j)) (defBody (metS i j)) (defScope (metS i j)) [] kws f fd ∧ Meth K C m f
/-- a class of the module -/
structure ClsT (K : PySem.W.Frag) (mg : Str → Option Value) (x : Str) (C : Addr) : Prop where
  g : mg x = some (.ref C)
  cl : Cls K C
  mks : PySem.W.makesIn K C = true
  kp : PySem.W.keepIn K (.ref C) = true
/-- where the classes stand -/
structure Cs where
  prices : Addr
  costs : Addr
  log : Addr
  road : Addr
  widths : Addr
  badPlan : Addr
  badFoe : Addr
/-- what the top has written, as the walks ask it -/
structure Txt (K : PySem.W.Frag) (mg : Str → Option Value) (c : Cs) : Prop where
  bLen : mg "len" = none
  bSum : mg "sum" = none
  bMin : mg "min" = none
  bMax : mg "max" = none
  bInt : mg "int" = none
  bStr : mg "str" = none
  bBool : mg "bool" = none
  bAbs : mg "abs" = none
  bIsi : mg "isinstance" = none
  bTuple : mg "tuple" = none
  bList : mg "list" = none
  bRange : mg "range" = none
  bZip : mg "zip" = none
  bEnum : mg "enumerate" = none
  bSorted : mg "sorted" = none
  bSuper : mg "super" = none
  is_integer : DefAt K mg "is_integer" 13
  check_number : DefAt K mg "check_number" 14
  is_row : DefAt K mg "is_row" 18
  check_row : DefAt K mg "check_row" 19
  without_least : DefAt K mg "without_least" 20
  after_answer : DefAt K mg "after_answer" 21
  after_silence : DefAt K mg "after_silence" 22
  costs_of : DefAt K mg "costs_of" 29
  least_cost : DefAt K mg "least_cost" 30
  branches_of : DefAt K mg "branches_of" 32
  number_for : DefAt K mg "number_for" 33
  reached_rows : DefAt K mg "reached_rows" 34
  rank_of : DefAt K mg "rank_of" 35
  cost_table : DefAt K mg "cost_table" 37
  check_plan : DefAt K mg "check_plan" 38
  greatest_of : DefAt K mg "greatest_of" 39
  told_plan : DefAt K mg "told_plan" 40
  answer_at : DefAt K mg "answer_at" 42
  led_row : DefAt K mg "led_row" 43
  met_rows : DefAt K mg "met_rows" 44
  price_of : DefAt K mg "price_of" 45
  check_foe : DefAt K mg "check_foe" 46
  told_foe : DefAt K mg "told_foe" 47
  play_foe : DefAt K mg "play_foe" 48
  check_pairs : DefAt K mg "check_pairs" 51
  need_of : DefAt K mg "need_of" 52
  widths_left : DefAt K mg "widths_left" 53
  l_start : DefAt K mg "_law_start" 63
  l_draw : DefAt K mg "_law_draw" 64
  l_numbers : DefAt K mg "_law_numbers" 65
  l_widths : DefAt K mg "_law_widths" 66
  l_need : DefAt K mg "_law_need" 67
  l_can : DefAt K mg "_law_can" 68
  l_road : DefAt K mg "_law_road" 69
  l_made : DefAt K mg "_law_made" 70
  l_true_pairs : DefAt K mg "_law_true_pairs" 71
  l_log : DefAt K mg "_law_log" 72
  l_prices : DefAt K mg "_law_prices" 73
  l_needs_of : DefAt K mg "_law_needs_of" 74
  l_counts : DefAt K mg "_law_counts" 75
  l_led : DefAt K mg "_law_led" 76
  l_row : DefAt K mg "_law_row" 77
  l_field : DefAt K mg "_law_field" 78
  l_drawn_foe : DefAt K mg "_law_drawn_foe" 79
  l_price : DefAt K mg "_law_price" 80
  l_drawn_plan : DefAt K mg "_law_drawn_plan" 82
  l_course : DefAt K mg "_law_course" 83
  l_errors : DefAt K mg "_law_errors" 84
  law_ : DefAt K mg "law" 85
  gLen : ∃ t, mg "MOST_LENGTH" = some (.int 4 t)
  gSum : ∃ t, mg "MOST_SUM" = some (.int 24 t)
  gPrice : ∃ t, mg "MOST_PRICE" = some (.int 100 t)
  gLossC : ∃ t, mg "MOST_LOSSES_costs" = some (.int 3 t)
  gPairs : ∃ t, mg "MOST_PAIRS" = some (.int 100 t)
  gLossR : ∃ t, mg "MOST_LOSSES_road" = some (.int 3 t)
  gWidths : ∃ t, mg "MOST_WIDTHS" = some (.int 24 t)
  gWidth : ∃ t, mg "MOST_WIDTH" = some (.int 100000 t)
  prices : ClsT K mg "Prices" c.prices
  pInit : MetAt K c.prices "__init__" "Prices.__init__" 26 0
  pN_answer : NoAttr K c.prices "answer"
  pN_silence : NoAttr K c.prices "silence"
  costs : ClsT K mg "Costs" c.costs
  cCheck : MetAt K c.costs "check" "Costs.check" 27 1
  cBranches : MetAt K c.costs "branches" "Costs.branches" 27 2
  cGreater : MetAt K c.costs "greater" "Costs.greater" 27 3
  cMissing : MetAt K c.costs "missing" "Costs.missing" 27 4
  cFill : MetAt K c.costs "fill" "Costs.fill" 27 5
  cBest : MetAt K c.costs "best" "Costs.best" 27 7
  cN_losses : NoAttr K c.costs "losses"
  cN_prices : NoAttr K c.costs "prices"
  cN_in_a_row : NoAttr K c.costs "in_a_row"
  cN_found : NoAttr K c.costs "found"
  log : ClsT K mg "Log" c.log
  gInit : MetAt K c.log "__init__" "Log.__init__" 54 0
  gTold : MetAt K c.log "told" "Log.told" 54 7
  gCan : MetAt K c.log "can_be" "Log.can_be" 54 10
  gPoss : MetAt K c.log "check_possible" "Log.check_possible" 54 13
  gRow : MetAt K c.log "row" "Log.row" 54 14
  gN_road : NoAttr K c.log "road"
  gN_pairs : NoAttr K c.log "pairs"
  road : ClsT K mg "Road" c.road
  rN_widths : NoAttr K c.road "widths"
  rN_losses : NoAttr K c.road "losses"
  rN_in_a_row : NoAttr K c.road "in_a_row"
  widths : ClsT K mg "Widths" c.widths
  wInit : MetAt K c.widths "__init__" "Widths.__init__" 61 0
  wCont : MetAt K c.widths "__contains__" "Widths.__contains__" 61 4
  wN_numbers : NoAttr K c.widths "numbers"
  cInit : MetAtK K c.costs "__init__" "Costs.__init__" 27 0 [("in_a_row", .bl false)]
  rInit : MetAtK K c.road "__init__" "Road.__init__" 57 0 [("in_a_row", .bl false)]
  cCall : ∃ (f : Addr) (fd : FuncData), FunD K "__call__" "Costs.__call__" (defArgs (metS 27 6)) (defBody (metS 27 6)) (defScope (metS 27 6)) [] [] f fd ∧ Meth K c.costs "__call__" f ∧ PySem.W.fnIn K f = true
end Wp
set_option Elab.async false
set_option linter.all false
set_option maxRecDepth 100000
set_option maxHeartbeats 2000000
/-! WpH1: what the head tells: the facts as data, the Hook. -/
namespace Wp
open PySem PySem.Spec PyProof.Rows L2 He
/-! ### an own class of error over an own class over ValueError, by a Bool -/
def oexB (K : PySem.W.Frag) (C : Addr) : Bool := match K.lookup C with
  | some ⟨.type t, _, .cls cd, sl⟩ => decide (t = "type") && match cd.mro, sl.toList with
    | .ref C' :: bm, [_, _, _, _, some (.builtin n), _] => decide (C' = C) && (decide (n = "ValueError.__new__") && (!cd.hasDel && (cd.hasDict && PySem.HandSPX.refsVE bm)))
    | _, _ => false
  | _ => false
theorem oexB_ok {K : PySem.W.Frag} {C : Addr} (h : oexB K C = true) : ∃ nm q N bs bm sn sub ab col dd k0 k1 k2 k3 k5, K.lookup C = some (excClassObj nm q C N bs bm true sn sub ab col dd k0 k1 k2 k3 k5 "ValueError.__new__") ∧ PySem.HandSPX.refsVE bm = true := by
  unfold oexB at h
  split at h
  · rename_i t dd cd sl hk
    obtain ⟨h1, h2⟩ := ba h
    split at h2
    · rename_i C' bm k0 k1 k2 k3 n k5 hm hs
      obtain ⟨a1, h3⟩ := ba h2
      obtain ⟨a2, h4⟩ := ba h3
      obtain ⟨a3, h5⟩ := ba h4
      obtain ⟨a4, a5⟩ := ba h5
      obtain ⟨nm, bs, mro, ns, qn, hd, sn, sub, ab, col, del⟩ := cd
      dsimp only at hm a3 a4
      have e1 := of_decide_eq_true a1
      have e2 := of_decide_eq_true a2
      have e3 : del = false := by simpa using a3
      have e4 := of_decide_eq_true h1
      subst e1 e2 e3 a4 hm e4
      have e5 : sl = #[k0, k1, k2, k3, some (.builtin "ValueError.__new__"), k5] := by
        obtain ⟨l⟩ := sl
        have z : l = _ := hs
        rw [z]
      subst e5
      exact ⟨nm, qn, ns, bs, bm, sn, sub, ab, col, dd, k0, k1, k2, k3, k5, hk, a5⟩
    · cases h2
  · cases h
def fileB (P : Program) (K : PySem.W.Frag) : Value → Bool
  | .ref c => (match K.lookup c with
    | some ⟨_, _, .fields vs, _⟩ => (match (vs[2]? : Option Value) with
      | some (Value.str fl _) => ((P.main.file : Str) == fl)
      | _ => false)
    | _ => false)
  | _ => false
theorem fileB_ok {P : Program} {K : PySem.W.Frag} {c : Addr} (h : fileB P K (.ref c) = true) : ∃ ccl cdd vs ccs fl tf, K.lookup c = some ⟨ccl, cdd, .fields vs, ccs⟩ ∧ vs[2]? = some (.str fl tf) ∧ ((P.main.file : Str) == fl) = true := by
  have h' : (match K.lookup c with
    | some ⟨_, _, .fields vs, _⟩ => (match (vs[2]? : Option Value) with
      | some (Value.str fl _) => ((P.main.file : Str) == fl)
      | _ => false)
    | _ => false) = true := h
  split at h'
  · rename_i hk
    split at h'
    · rename_i hv
      exact ⟨_, _, _, _, _, _, hk, hv, h'⟩
    · cases h'
  · cases h'
def cellB (K : PySem.W.Frag) (C : Addr) : List (Str × Addr) → Bool
  | [(_, cc)] => (match K.lookup cc with
    | some ⟨_, _, .cell (some (.ref D)), _⟩ => decide (D = C)
    | _ => false)
  | _ => false
theorem cellB_ok {K : PySem.W.Frag} {C cc : Addr} {x : Str} (h : cellB K C [(x, cc)] = true) : ∃ cl cld csl, K.lookup cc = some ⟨cl, cld, .cell (some (.ref C)), csl⟩ := by
  have h' : (match K.lookup cc with
    | some ⟨_, _, .cell (some (.ref D)), _⟩ => decide (D = C)
    | _ => false) = true := h
  split at h'
  · rename_i hk
    have e := of_decide_eq_true h'
    subst e
    exact ⟨_, _, _, hk⟩
  · cases h'
/-- a method with a closure, as data -/
abbrev FnC : Type := Option (Str × Str × Arguments × FuncBody × Scope × Addr × List Str × Value × Addr)
def fnC (K : PySem.W.Frag) (p : Str × Option Str) : FnC := match K.lookup (fAd K p) with
  | some ⟨_, _, .func fd, _⟩ => some (fd.name, fd.qualname, fd.params, fd.body, fd.scope, fd.globals, fd.closure.map (·.1), fd.defaults, fd.builtins)
  | _ => none
def errV (q : Str) (i : Nat) : FnC := some ("__init__", q, defArgs (metS i 0), .stmts (defBody (metS i 0)), defScope (metS i 0), mainGlobals, ["__class__"], .none, builtinsNs)
def errB (P : Program) (K : PySem.W.Frag) (x q : Str) : Bool :=
  oexB K (ga K x) && (xfB K (ga K x) && (eqO (PySem.W.findIn K (.ref (ga K x)) "__setattr__") (some (some (.builtin "object.__setattr__"))) && (decide (PySem.W.subIn K (.ref (ga K x)) (.type "BaseException") = some true) &&
  (decide (PySem.W.typeIn K (.ref (ga K x)) = some (.type "type")) && (PySem.W.keepIn K (.ref (ga K x)) && (eqO (PySem.W.findIn K (.ref (ga K x)) "__init__") (some (some (.ref (ma K (ga K x) "__init__")))) &&
  (decide (PySem.W.typeIn K (.ref (ma K (ga K x) "__init__")) = some (.type "function")) && (eqO (PySem.W.nsIn K cStatics "thirdparty.any") (some none) && (eqO (PySem.W.ks_superIn K (ga K x) (ga K x) "__init__") (some (some (.builtin "ValueError.__init__"))) &&
  (decide (PySem.W.subIn K (.ref (ga K x)) (.type "ValueError") = some true) && (match K.lookup (ma K (ga K x) "__init__") with
    | some ⟨_, _, .func fd, _⟩ => PySem.W.codeIn K fd.code q && (fileB P K fd.code && cellB K (ga K x) fd.closure)
    | _ => false)))))))))))
/-! ### the lists -/
def defsL : List (Str × Nat) := ([("is_integer", 13), ("check_number", 14), ("is_row", 18), ("check_row", 19), ("without_least", 20), ("after_answer", 21), ("after_silence", 22), ("costs_of", 29), ("least_cost", 30), ("branches_of", 32), ("number_for", 33), ("reached_rows", 34)] : List (Str × Nat)) ++
  ([("rank_of", 35), ("cost_table", 37), ("check_plan", 38), ("greatest_of", 39), ("told_plan", 40), ("answer_at", 42), ("led_row", 43), ("met_rows", 44), ("price_of", 45), ("check_foe", 46), ("told_foe", 47), ("play_foe", 48)] : List (Str × Nat)) ++
  ([("check_pairs", 51), ("need_of", 52), ("widths_left", 53), ("_law_start", 63), ("_law_draw", 64), ("_law_numbers", 65), ("_law_widths", 66), ("_law_need", 67), ("_law_can", 68), ("_law_road", 69), ("_law_made", 70), ("_law_true_pairs", 71)] : List (Str × Nat)) ++
  ([("_law_log", 72), ("_law_prices", 73), ("_law_needs_of", 74), ("_law_counts", 75), ("_law_led", 76), ("_law_row", 77), ("_law_field", 78), ("_law_drawn_foe", 79), ("_law_price", 80), ("_law_drawn_plan", 82), ("_law_course", 83), ("_law_errors", 84)] : List (Str × Nat)) ++
  ([("law", 85), ("by_rank", 36)] : List (Str × Nat))
def metsL : List (Str × Str × Str × Nat × Nat) := ([("Prices", "__init__", "Prices.__init__", 26, 0), ("Costs", "check", "Costs.check", 27, 1), ("Costs", "branches", "Costs.branches", 27, 2), ("Costs", "greater", "Costs.greater", 27, 3), ("Costs", "missing", "Costs.missing", 27, 4), ("Costs", "fill", "Costs.fill", 27, 5)] : List (Str × Str × Str × Nat × Nat)) ++
  ([("Costs", "best", "Costs.best", 27, 7), ("Log", "__init__", "Log.__init__", 54, 0), ("Log", "told", "Log.told", 54, 7), ("Log", "can_be", "Log.can_be", 54, 10), ("Log", "check_possible", "Log.check_possible", 54, 13), ("Log", "row", "Log.row", 54, 14)] : List (Str × Str × Str × Nat × Nat)) ++
  ([("Widths", "__init__", "Widths.__init__", 61, 0), ("Widths", "__contains__", "Widths.__contains__", 61, 4), ("Costs", "__call__", "Costs.__call__", 27, 6)] : List (Str × Str × Str × Nat × Nat))
def kwL : List (Str × Str × Str × Nat × Nat) := ([("Costs", "__init__", "Costs.__init__", 27, 0), ("Road", "__init__", "Road.__init__", 57, 0)] : List (Str × Str × Str × Nat × Nat))
def noL : List (Str × Str) := ([("Prices", "answer"), ("Prices", "silence"), ("Costs", "losses"), ("Costs", "prices"), ("Costs", "in_a_row"), ("Costs", "found"), ("Log", "road"), ("Log", "pairs"), ("Road", "widths"), ("Road", "losses"), ("Road", "in_a_row"), ("Widths", "numbers")] : List (Str × Str)) ++
  ([("BadPlan", "state"), ("BadPlan", "reason"), ("BadFoe", "state"), ("BadFoe", "number"), ("BadFoe", "reason")] : List (Str × Str))
def freeL : List Str := (["len", "sum", "min", "max", "int", "str", "bool", "abs", "isinstance", "tuple", "list", "range"] : List (Str)) ++
  (["zip", "enumerate", "sorted", "super"] : List (Str))
def intL : List (Str × Int) := ([("MOST_LENGTH", 4), ("MOST_SUM", 24), ("MOST_PRICE", 100), ("MOST_LOSSES_costs", 3), ("MOST_PAIRS", 100), ("MOST_LOSSES_road", 3), ("MOST_WIDTHS", 24), ("MOST_WIDTH", 100000)] : List (Str × Int))
def clsL : List Str := (["Prices", "Costs", "Log", "Road", "Widths"] : List (Str))
def errL : List (Str × Str × Nat) := [("BadPlan", "BadPlan.__init__", 7), ("BadFoe", "BadFoe.__init__", 8)]
def dOf (p : Str × Nat) : He.DefD := ⟨(p.1, none), p.1, p.1, defArgs (topS p.2), defBody (topS p.2), defScope (topS p.2), [], []⟩
def mOf (p : Str × Str × Str × Nat × Nat) : He.DefD := ⟨(p.1, some p.2.1), p.2.1, p.2.2.1, defArgs (metS p.2.2.2.1 p.2.2.2.2), defBody (metS p.2.2.2.1 p.2.2.2.2), defScope (metS p.2.2.2.1 p.2.2.2.2), [], []⟩
def kOf (p : Str × Str × Str × Nat × Nat) : He.DefD := ⟨(p.1, some p.2.1), p.2.1, p.2.2.1, defArgs (metS p.2.2.2.1 p.2.2.2.2), defBody (metS p.2.2.2.1 p.2.2.2.2), defScope (metS p.2.2.2.1 p.2.2.2.2), [], [("in_a_row", .bl false)]⟩
def fnL : List He.DefD := defsL.map dOf ++ (metsL.map mOf ++ kwL.map kOf)
def faL : List He.Fa := defsL.map (fun p => .glo p.1) ++ (clsL.map .glo ++ (errL.map (fun p => .glo p.1) ++ (freeL.map .free ++ (intL.map (fun p => .int p.1 p.2) ++ (clsL.map .cls ++ (clsL.map .mkr ++ (noL.map (fun p => .noat p.1 p.2) ++ (metsL.map (fun p => .meth p.1 p.2.1) ++ (kwL.map (fun p => .meth p.1 p.2.1) ++ errL.map fun p => .exm p.1 p.1 true)))))))))
def tfL : List He.Defn := [("by_rank", none)]
abbrev Pg : Program := PySem.Challenge.pw_widestparcels_k65_whole_plans_against_fo
def exL (K : PySem.W.Frag) : Bool := PySem.W.fnIn K (ma K (ga K "Costs") "__call__") && errL.all fun p => errB Pg K p.1 p.2.1
/-! ### the Hook -/
/-- the part of the heap that is looked at: what the module names, what that names; the classes' dicts, their methods, the methods' code and cells -/
def objR (g : Addr → Option Obj) (a : Addr) : List Addr := match g a with
  | some o => He.refsD o
  | none => []
def isDictR (g : Addr → Option Obj) (a : Addr) : Bool := match g a with
  | some ⟨_, _, .dict _ _, _⟩ => true
  | _ => false
def reach1 (g : Addr → Option Obj) : List Addr := objR g mainGlobals
def reach2 (g : Addr → Option Obj) : List Addr := (reach1 g).flatMap (objR g)
def reach3 (g : Addr → Option Obj) : List Addr := ((reach2 g).filter (isDictR g)).flatMap (objR g)
def reach4 (g : Addr → Option Obj) : List Addr := (reach3 g).flatMap (objR g)
def part (g : Addr → Option Obj) : PySem.W.Frag := He.frT g (mainGlobals :: cStatics :: (reach1 g ++ (reach3 g ++ (reach2 g ++ reach4 g))))
abbrev AlZ : Type := He.AlT × Bool × List FnC
def obsZ (g : Addr → Option Obj) : AlZ := (He.obsT faL fnL [] (part g), exL (part g) && He.tabsB g tfL (part g), errL.map fun p => fnC (part g) (p.1, some "__init__"))
def valZ (w : World) : AlZ := (He.valT fnL [] w, true, errL.map fun p => errV p.2.1 p.2.2)
structure SaysZ (w : World) (h : Heap) (K : PySem.W.Frag) : Prop where
  x : He.SaysX faL fnL [] tfL exL w h K
  c : (errL.map fun p => fnC K (p.1, some "__init__")) = errL.map fun p => errV p.2.1 p.2.2
theorem saysZ_of {w : World} {h : Heap} (e : obsZ h.get? = valZ w) : SaysZ w h (part h.get?) := by
  have e1 : He.obsT faL fnL [] (part h.get?) = He.valT fnL [] w := congrArg (fun z : AlZ => z.1) e
  have e2 : (exL (part h.get?) && He.tabsB h.get? tfL (part h.get?)) = true := congrArg (fun z : AlZ => z.2.1) e
  have e3 : (errL.map fun p => fnC (part h.get?) (p.1, some "__init__")) = errL.map fun p => errV p.2.1 p.2.2 := congrArg (fun z : AlZ => z.2.2) e
  obtain ⟨h1, h2⟩ := ba e2
  have tab : ∀ p ∈ tfL, PySem.W.codeHdIn (part h.get?) (cT (part h.get?) p).1 (cT (part h.get?) p).2 = true ∧ ∃ o, h.get? (cT (part h.get?) p).2 = some o ∧ emptyTab o = true := fun p hp => by
    obtain ⟨z1, z2⟩ := ba (List.all_eq_true.mp h2 p hp)
    refine ⟨z1, ?_⟩
    split at z2
    · rename_i o ho
      exact ⟨o, ho, z2⟩
    · cases z2
  refine ⟨⟨e1, h1, fun p hp => (tab p hp).1, fun p hp => ?_, fun p hp => ?_⟩, e3⟩
  · obtain ⟨o, ho, z⟩ := (tab p hp).2
    exact frT_none ho z
  · obtain ⟨o, ho, z⟩ := (tab p hp).2
    exact ho.trans (congrArg some (emptyTab_eq z))
def hookZ : PySem.W.Hook where
  α := AlZ
  obs := fun s => obsZ s.heap.get?
  val := fun w => valZ w
  says := fun w h => ∃ K : PySem.W.Frag, K.In h ∧ SaysZ w h K
  of := fun _ _ e => ⟨_, frT_in, saysZ_of e⟩
  keeps := fun _ _ _ ⟨K, hK, c⟩ k => ⟨K, PySem.W.Frag.In.keeps hK k, ⟨c.x.t, c.x.more, c.x.hd, c.x.out, fun p hp => k _ _ (c.x.empty p hp)⟩, c.c⟩
def obT (s : PySem.W.SharedT) : AlZ := obsZ (HandSHeadRun.getT s)
theorem obT_eq (s : PySem.W.SharedT) : obT s = hookZ.obs s.abs := by
  have e : HandSHeadRun.getT s = s.abs.heap.get? := funext (HandSHeadRun.getT_eq s)
  unfold obT
  rw [e]
  rfl
end Wp
set_option Elab.async false
set_option linter.all false
set_option maxRecDepth 100000
set_option maxHeartbeats 0
/-! WpH2: the head's run (kernel): the top's names. -/
namespace Wp
open PySem PySem.W PySem.Calls PyProof.Rows
abbrev RW : OpenRow := OpenLaw.row PySem.Challenge.rw_widestparcels_k65_whole_plans_against_fo
abbrev qv : Program := view RW.prog [85]
def names0 : List PySem.Str := ["_wall", "ParcelError", "BadNumber", "BadOrder", "BadPair", "BadRow", "BadPlan", "BadFoe", "TooMany", "Impossible", "Unlike", "is_integer", "check_number", "MOST_LENGTH", "MOST_SUM", "is_row", "check_row", "without_least", "after_answer", "after_silence", "MOST_PRICE", "MOST_LOSSES_costs", "Prices", "Costs", "costs_of", "least_cost", "branches_of", "number_for", "reached_rows", "rank_of"]
def names1 : List PySem.Str := ["by_rank", "cost_table", "check_plan", "greatest_of", "told_plan", "answer_at", "led_row", "met_rows", "price_of", "check_foe", "told_foe", "play_foe", "MOST_PAIRS", "check_pairs", "need_of", "widths_left", "Log", "MOST_LOSSES_road", "Road", "MOST_WIDTHS", "MOST_WIDTH", "Widths", "_law_start", "_law_draw", "_law_numbers", "_law_widths", "_law_need", "_law_can", "_law_road", "_law_made"]
def names2 : List PySem.Str := ["_law_true_pairs", "_law_log", "_law_prices", "_law_needs_of", "_law_counts", "_law_led", "_law_row", "_law_field", "_law_drawn_foe", "_law_price", "_law_against", "_law_drawn_plan", "_law_course", "_law_errors"]
def names : List PySem.Str := names0 ++ names1 ++ names2
/-- the state behind the top -/
noncomputable abbrev topRun (w : World) (os : OsState) : Option SharedT := HandSHeadRun.endF (HandSHeadRun.stepQ (HandSHeadRun.denQ HandSHeadRun.tabQ) RW.prog w) 9000 RW.prog w os
theorem run1 (w : World) : HandSHeadRun.RunEq RW qv Hook.none (fun _ => ()) 9000 names w := by
  intro os
  kernel_rfl
end Wp
set_option Elab.async false
set_option linter.all false
set_option maxRecDepth 100000
set_option maxHeartbeats 0
/-! WpH2b: .. the facts that are Bools -/
namespace Wp
open PySem PySem.W PySem.Calls PyProof.Rows
def boolsZ (g : Addr → Option Obj) (K : PySem.W.Frag) : Bool := ((faL.all fun f => f.ok K) && fnL.all fun d => d.ok K) && (exL K && He.tabsB g tfL K)
theorem run2 (w : World) (os : OsState) : (topRun w os).map (fun s => boolsZ (HandSHeadRun.getT s) (part (HandSHeadRun.getT s))) = some true := by
  kernel_rfl
end Wp
set_option Elab.async false
set_option linter.all false
set_option maxRecDepth 100000
set_option maxHeartbeats 0
/-! WpH2c: .. the defs' texts -/
namespace Wp
open PySem PySem.W PySem.Calls PyProof.Rows
def textsZ (K : PySem.W.Frag) : List He.FnW × List FnC := (fnL.map fun d => He.fnW K d.at_, errL.map fun p => fnC K (p.1, some "__init__"))
theorem run3 (w : World) (os : OsState) : (topRun w os).map (fun s => textsZ (part (HandSHeadRun.getT s))) = some (fnL.map He.DefD.val, errL.map fun p => errV p.2.1 p.2.2) := by
  kernel_rfl
end Wp
set_option Elab.async false
set_option linter.all false
set_option maxRecDepth 100000
set_option maxHeartbeats 2000000
/-! WpD1: rows: without_least, after_answer, after_silence. -/
namespace Wp
open PySem PySem.Spec PyProof.Rows L2 WP
/-- a row's numbers as values, as a key -/
def rv (r : List Nat) : List V := r.map fun n : Nat => V.int (n : Int)
def rk (r : List Nat) : List Key := r.map fun n : Nat => Sum.inl (n : Int)
theorem rk_rv (r : List Nat) : (rk r).map kV = rv r := by
  unfold rk rv
  rw [List.map_map]
  rfl
theorem rv_len (r : List Nat) : (rv r).length = r.length := List.length_map _
theorem rv_get {r : List Nat} {i : Nat} {x : V} (h : (rv r)[i]? = some x) : ∃ n, r[i]? = some n ∧ x = .int (n : Int) := by
  unfold rv at h
  rw [List.getElem?_map] at h
  cases e : r[i]? with
  | none => rw [e] at h; cases h
  | some n => rw [e] at h; exact ⟨n, rfl, (Option.some.inj h).symm⟩
theorem rv_get' {r : List Nat} {i n : Nat} (h : r[i]? = some n) : (rv r)[i]? = some (.int (n : Int)) := by
  unfold rv
  rw [List.getElem?_map, h]
  rfl
theorem rv_app (r s : List Nat) : rv (r ++ s) = rv r ++ rv s := List.map_append
theorem same_new {H : Hp} {p : Addr} {o : HO} (h : H p = none) : Same H (upd H p o) := fun b x e => by
  rw [upd_ne (ne_of_none e h)]
  exact e
/-- an object that H does not know is changed -/
theorem Same.mut {H H' : Hp} {p : Addr} {o : HO} (s : Same H H') (h : H p = none) : Same H (upd H' p o) := fun b x e => by
  rw [upd_ne (ne_of_none e h)]
  exact s b x e
theorem wl_get : ∀ {r : List Nat} {b i n : Nat}, r[i]? = some n → (wl r b)[i]? = some (n - (b - (r.take i).sum))
  | [], _, _, _, h => by simp at h
  | m :: r, b, 0, n, h => by
    have e : m = n := by simpa using h
    subst e
    simp [wl]
  | m :: r, b, i + 1, n, h => by
    have ih := wl_get (r := r) (b := b - m) (i := i) (n := n) (by simpa using h)
    simp only [wl, List.getElem?_cons_succ, List.take_succ_cons, List.sum_cons]
    rw [ih]
    congr 2
    omega
theorem take_snoc {α : Type} {l : List α} {i : Nat} {x : α} (h : l[i]? = some x) : l.take (i + 1) = l.take i ++ [x] := by
  rw [List.take_add_one, h]
  rfl
theorem sum_snoc (l : List Nat) (n : Nat) : (l ++ [n]).sum = l.sum + n := by simp
def spWl : Sp := fun vs H Q _ => ∃ (a : Addr) (r : List Nat) (b : Nat), vs = [.ref a, .int b] ∧ H a = some (.tup (rv r)) ∧ r.length ≤ 1000 ∧ ∀ p H', Same H H' → H p = none → H' p = some (.tup (rv (wl r b))) → Q (.ref p) H'
section
variable {P : Program} {w : World} {K : PySem.W.Frag} {mg : Str → Option Value} {base : Heap}
theorem scWl : FnScope ["row", "below", "left", "found", "number", "gone"] ["row", "below"] (defScope (topS 20)) := ⟨rfl, rfl, rfl, by decide +kernel, rfl, by decide +kernel, by decide +kernel⟩
theorem cal_wl {c : Cs} (T : Txt K mg c) : C8.Cal P w K mg base 1 "without_least" spWl [] := by
  refine cal_mk T.without_least scWl (fun _ _ _ _ _ _ us hl => match us, hl with | [_, _], _ => rfl) (fun vs H Q E h => ?_) (fun f cdv A outer s H vs Q E hr h => ?_)
  · obtain ⟨a, r, b, rfl, _⟩ := h
    rfl
  obtain ⟨a, r, b, rfl, ha, hl, q⟩ := h
  refine ⟨_, pss_cons (ps_set (i := 2) scWl.nd rfl (.inl rfl) (pv 1)) (pss_cons (ps_set (i := 3) scWl.nd rfl (.inl rfl) (pe_lst pa_nil))
    (pss_cons (ps_for PassesOwn.never rfl (pi_tup (pv 0)) (pg_name (i := 4) scWl.nd rfl (.inl rfl))
      (pss_cons (ps_set (i := 5) scWl.nd rfl (.inl rfl) (pe_callB (call_min2 rfl) (by rfl) T.bMin (by decide +kernel) (pa_cons (pe_callTy call_int1 (by rfl) T.bInt (by decide +kernel) (pa_cons (pv 4) pa_nil)) (pa_cons (pe_callTy call_int1 (by rfl) T.bInt (by decide +kernel) (pa_cons (pv 2) pa_nil)) pa_nil))))
      (pss_cons (ps_expr (pe_bm PySem.F.plainAttrs_list PySem.F.slot_list_append PySem.F.type_list_append mt_append (pv 3) (pa_cons (pe_op op_sub (pv 4) (pv 5)) pa_nil)))
      (pss_one (ps_aug (i := 2) scWl.nd rfl (.inl rfl) (pv 5) ip_sub)))))
    (pss_one (ps_ret (pe_callTy call_tuple_of (by rfl) T.bTuple (by decide +kernel) (pa_cons (pv 3) pa_nil)))))), ?_⟩
  refine ⟨_, rfl, Nat.zero_le _, fun l hn => ?_⟩
  have s1 : Same H (upd H l (.lst [])) := same_new hn
  refine ⟨_, rfl, a, rfl, ⟨_, SqT.of (s1 _ _ ha)⟩, for_tup (K := K) (a := a) (xs := rv r) (fun i σ H' => ∃ c d, σ = [some (.ref a), some (.int b), some (.int ((b - (r.take i).sum : Nat) : Int)), some (.ref l), c, d] ∧ Same H H' ∧ H' l = some (.lst (rv ((wl r b).take i))))
    ⟨none, none, by simp; rfl, s1, by rw [upd_same]; rfl⟩ (fun i σ H' _ ⟨_, _, _, s2, _⟩ => SqT.of (s2 _ _ ha)) ?_ ?_⟩
  · rintro i x σ H' hx ⟨c, d, rfl, s2, hL⟩
    obtain ⟨n, hn2, rfl⟩ := rv_get hx
    have hi : i < r.length := (List.getElem?_eq_some_iff.mp hn2).1
    refine ⟨_, rfl, .inl ⟨_, rfl, _, rfl, .inl ⟨_, rfl, _, _, rfl, ?_⟩⟩⟩
    refine ⟨_, rfl, .inl ⟨rfl, _, SqL.of hL⟩, _, rfl, _, rfl, _, _, rfl, rfl, l, _, _, rfl, rfl, hL, ?_, ?_⟩
    · rw [rv_len, List.length_take]
      exact small1000 (by omega)
    · refine ⟨_, rfl, _, rfl, _, _, rfl, rfl, ?_⟩
      have e1 : (if ((b - (r.take i).sum : Nat) : Int) < (n : Int) then ((b - (r.take i).sum : Nat) : Int) else (n : Int)) = ((min n (b - (r.take i).sum) : Nat) : Int) := by split <;> omega
      refine ⟨some (.int n), some (.int ((min n (b - (r.take i).sum) : Nat) : Int)), ?_, Same.mut s2 hn, ?_⟩
      · show [_, _, some (V.int (((b - (r.take i).sum : Nat) : Int) - (if ((b - (r.take i).sum : Nat) : Int) < (n : Int) then ((b - (r.take i).sum : Nat) : Int) else (n : Int)))), _, _, some (V.int (if ((b - (r.take i).sum : Nat) : Int) < (n : Int) then ((b - (r.take i).sum : Nat) : Int) else (n : Int)))] = _
        have e2 : ((b - (r.take i).sum : Nat) : Int) - ((min n (b - (r.take i).sum) : Nat) : Int) = ((b - ((r.take i).sum + n) : Nat) : Int) := by omega
        rw [e1, take_snoc hn2, sum_snoc, e2]
      · rw [upd_same, take_snoc (wl_get hn2), rv_app]
        congr 3
        show [V.int ((n : Int) - (if ((b - (r.take i).sum : Nat) : Int) < (n : Int) then ((b - (r.take i).sum : Nat) : Int) else (n : Int)))] = [V.int _]
        have e2 : (n : Int) - ((min n (b - (r.take i).sum) : Nat) : Int) = ((n - (b - (r.take i).sum) : Nat) : Int) := by omega
        rw [e1, e2]
  · rintro σ H' ⟨c, d, rfl, s2, hL⟩
    have e : (wl r b).take (rv r).length = wl r b := by rw [rv_len, ← wl_len r b, List.take_length]
    rw [e] at hL
    refine ⟨_, rfl, l, _, rfl, .inl ⟨SqL.of hL, fun p hp => ?_⟩⟩
    exact q p _ (s2.trans (same_new hp)) (s2.free hp) upd_same
end
end Wp
set_option Elab.async false
set_option linter.all false
set_option maxRecDepth 100000
set_option maxHeartbeats 2000000
/-! WpR1: own rules: the sum of a tuple, a tuple times 0, 1 or more, a display of one tuple key, a walk over a list or a tuple. -/
namespace Wp
open PySem PySem.Spec PyProof.Rows L2 WP
section
variable {X : Cx}
/-- sum(t), t a tuple of ints -/
def rSumT (K : PySem.W.Frag) : List V → Hp → VK → Prop := fun vs H Q => ∃ (a : Addr) (ns : List Int), vs = [V.ref a] ∧ SqT K H a (ns.map V.int) ∧ Q (.int ns.sum) H
theorem cr_sumT (hc : X.calm = true) : CallR X (.builtin "sum") (rSumT X.K) := by
  intro pins s σ H vs us Q I r h
  obtain ⟨a, ns, rfl, hs, q⟩ := h
  obtain ⟨its, rvs, tp, _⟩ := I.tuple hs
  rw [Vals.ref1 r]
  have hi : IntsAre its ns := rvs.ints
  have hl : s.heap.IsTuple a its.toArray := tp
  obtain ⟨xs, e⟩ := hi.allInts.items
  have hn : numsOf (intItems xs).toList = ns := e ▸ hi.numsOf
  rw [nums_intItems] at hn
  rw [e] at hl
  refine PySem.W.ktm_sumG (I.ok.hd hc) hl fun h' tk t' hk => ⟨.int ns.sum, H, I.kept hk, ⟨t', ?_⟩, q⟩
  rw [preSum_eq, ← hn, List.take_of_length_le (by simp)]
end
/-! ### t * k -/
theorem tup_mul1 (l : Addr) (items : Array Value) (n : Nat) (dd : Option Addr) (sl : Array (Option Value)) (u : Tok) :
    Meets (Builtin.«tuple.__mul__» ⟨[.ref l, .int 1 u], []⟩) (fun _ R s => s.heap.get? l = some { cls := .type "tuple", dict := dd, data := .seq items n, slots := sl } ∧ R (.ok (.ret (Value.ref l))) s) :=
  .of_wp fun prog w A R s h => by
    obtain ⟨hp, g, d, tk, os⟩ := s
    obtain ⟨hl, h⟩ := h
    have f1 := AutoSeq1.idx_int
    wp_walk using wpAny_loadPart' hl
    repeat (first
      | (refine wpAny_ite_false (by decide) ?_; wp_walk using wpAny_loadPart' hl)
      | (refine wpAny_ite_true (by simp) ?_; wp_walk using wpAny_loadPart' hl))
    exact ⟨_, rfl, h⟩
theorem tup_mul0 (l : Addr) (items : Array Value) (n : Nat) (dd : Option Addr) (sl : Array (Option Value)) (u : Tok) (hne : items.isEmpty = false) :
    Meets (Builtin.«tuple.__mul__» ⟨[.ref l, .int 0 u], []⟩) (fun _ R s => s.heap.get? l = some { cls := .type "tuple", dict := dd, data := .seq items n, slots := sl } ∧
      R (.ok (.ret (Value.ref s.heap.objs.size))) { s with heap := s.heap.push { cls := Value.type "tuple", data := Data.seq #[] } }) :=
  .of_wp fun prog w A R s h => by
    obtain ⟨hp, g, d, tk, os⟩ := s
    obtain ⟨hl, h⟩ := h
    have f1 := AutoSeq1.idx_int
    wp_walk using wpAny_loadPart' hl
    repeat (first
      | (refine wpAny_ite_false (by simp [hne]) ?_; wp_walk using wpAny_loadPart' hl)
      | (refine wpAny_ite_true (by simp) ?_; wp_walk using wpAny_loadPart' hl))
    exact ⟨_, rfl, h⟩
/-- t * k of a tuple that is not empty: itself for 1, a new one else -/
def rMulT (K : PySem.W.Frag) : R2 := fun x y H Q => ∃ (l : Addr) (k : Nat) (xs : List V), x = .ref l ∧ y = .int (k : Int) ∧ SqT K H l xs ∧ xs ≠ [] ∧ k ≤ 1000 ∧ xs.length ≤ 1000 ∧ (k = 1 → Q (.ref l) H) ∧ (k ≠ 1 → ∀ p, H p = none → Q (.ref p) (upd H p (.tup (List.replicate k xs).flatten)))
theorem op_mulT {X : Cx} : OpR X (binaryOp .Mult) (rMulT X.K) := by
  intro pins s σ H x y v u Q I rx ry h
  obtain ⟨l, k, xs, rfl, rfl, hT, hne, h2, hz, q1, q2⟩ := h
  by_cases h0 : 2 ≤ k
  · exact op_repT pins s σ H _ _ v u Q I rx ry ⟨l, (k : Int), xs, rfl, rfl, hT, hne, by omega, by omega, hz, fun p hp => q2 (by omega) p hp⟩
  obtain rfl : v = Value.ref l := rx
  obtain ⟨t, rfl⟩ := ry
  obtain ⟨its, r, ⟨⟨cls, dd, data, sl⟩, ho, hc, n, hd⟩, hs⟩ := I.tuple hT
  simp only at hc hd
  subst hc hd
  have hn : its ≠ [] := fun e => hne (List.eq_nil_of_length_eq_zero (by rw [r.length, e]; rfl))
  have hi : its.toArray.isEmpty = false := by
    cases its with
    | nil => exact absurd rfl hn
    | cons a b => rfl
  have hk : k = 0 ∨ k = 1 := by omega
  rcases hk with rfl | rfl
  · refine wpAny_binaryOp_repeat_ref (T := "tuple") (U := "int") (by decide) ⟨_, ho, rfl⟩ (fun s' => typeIs_int s' _ t) noFill_tuple_mul F.fills_int_mul F.slot_int_rmul repeat_tuple F.slot_int_index.lookup
      (call_meets F.slot_int_rmul (typeIs_int s _ t) F.entry_int_rmul (F.args_int_rmul_2 _ _) (int_rmul_tuple _ t l its.toArray n dd sl)
        ⟨ho, rfl, ⟨_, ho, rfl⟩, call_meets F.slot_tuple_mul ⟨_, ho, rfl⟩ F.entry_tuple_mul (F.args_tuple_mul_2 _ _) (tup_mul0 l its.toArray n dd sl t hi) ⟨ho, ?_⟩⟩)
    exact ⟨.ref s.heap.objs.size, _, I.laid (t' := s.toks) (o := .tup []) (fun b ob q => Heap.get?_push_of_some _ q) (Nat.le_refl _) ⟨Nat.zero_le _, [], .nil, IsTup.new _ _⟩, rfl, q2 (by decide) _ (I.hok.fresh (Nat.le_refl _))⟩
  · refine wpAny_binaryOp_repeat_ref (T := "tuple") (U := "int") (by decide) ⟨_, ho, rfl⟩ (fun s' => typeIs_int s' _ t) noFill_tuple_mul F.fills_int_mul F.slot_int_rmul repeat_tuple F.slot_int_index.lookup
      (call_meets F.slot_int_rmul (typeIs_int s _ t) F.entry_int_rmul (F.args_int_rmul_2 _ _) (int_rmul_tuple _ t l its.toArray n dd sl)
        ⟨ho, rfl, ⟨_, ho, rfl⟩, call_meets F.slot_tuple_mul ⟨_, ho, rfl⟩ F.entry_tuple_mul (F.args_tuple_mul_2 _ _) (tup_mul1 l its.toArray n dd sl t) ⟨ho, ?_⟩⟩)
    exact ⟨.ref l, H, I, rfl, q1 rfl⟩
/-! ### {k: v}, k a tuple -/
def tDispT (tk tv : TE) : TE := fun σ H Q => ∀ p, H p = none → tk σ (upd H p (.dT [])) fun x H1 => tv σ H1 fun y H2 => ∃ (b : Addr) (k : List Key), x = .ref b ∧ H2 p = some (.dT []) ∧ H2 b = some (.tup (k.map kV)) ∧ Q (.ref p) (upd H2 p (.dT [(k, y)]))
/-! ### a walk over a list or a tuple -/
def iSeq (K : PySem.W.Frag) (tl : TE) : TI := fun σ H R => tl σ H fun x H1 => ∃ (a : Addr) (xs : List V), x = .ref a ∧ ((SqL K H1 a xs ∧ R (Itl K a) H1) ∨ (SqT K H1 a xs ∧ R (Itt K a) H1))
theorem pi_seq {X : Cx} {tg l : Expr} {tl : TE} (hl : PE X l tl) : PI X tg l (iSeq X.K tl) := by
  refine ⟨fun pins s σ H R I h => ?_⟩
  refine thn (hl.run pins s σ H _ I h) fun v s1 ⟨x, H1, I1, r1, a, xs, e, q1⟩ => ?_
  subst e
  obtain rfl : v = Value.ref a := r1
  have new : ∀ o, I1.kept (t' := s1.toks) (fun b u e => Heap.get?_push_of_some o e) = I1.kept (t' := s1.toks) (fun b u e => Heap.get?_push_of_some o e) := fun _ => rfl
  have fp : ∀ b ∈ [s1.heap.objs.size], FpOk X pins H1 b := fun b hb => by
    rw [List.mem_singleton.mp hb]
    exact I1.fpOk (Nat.le_refl _) (I1.hok.fresh (Nat.le_refl _))
  rcases q1 with ⟨hq, q⟩ | ⟨hq, q⟩
  · obtain ⟨its, rv, p, hz⟩ := I1.list hq
    exact wpAny_pyIter_list p.isList ⟨_, _, _, _, H1, rfl, I1.kept (t' := s1.toks) fun b o e => Heap.get?_push_of_some _ e, turn_list a _, ⟨_, Heap.get?_push_size _ rfl, rfl, rfl⟩, fp, q⟩
  · obtain ⟨its, rv, p, hz⟩ := I1.tuple hq
    exact wpAny_pyIter_tuple (show s1.heap.IsTuple a its.toArray from p) ⟨_, _, _, _, H1, rfl, I1.kept (t' := s1.toks) fun b o e => Heap.get?_push_of_some _ e, turn_tuple a _, ⟨_, Heap.get?_push_size _ rfl, rfl, rfl⟩, fp, q⟩
end Wp
set_option Elab.async false
set_option linter.all false
set_option maxRecDepth 100000
set_option maxHeartbeats 2000000
/-! WpR2: own rules: a dict whose keys are pairs of a row and a number (a foe); the display of one tuple key. -/
namespace Wp
open PySem PySem.Spec PyProof.Rows L2 WP
/-- an entry of a foe: its key's tuple, the row's tuple, the row, the number below, the answer -/
structure FE where
  ka : Addr
  ra : Addr
  r : List Nat
  b : Nat
  v : Bool
def rowKey (r : List Nat) : NestedKey := .tup (r.map fun n : Nat => .num (n : Int))
def foeKey (r : List Nat) (b : Nat) : NestedKey := .tup [rowKey r, .num (b : Int)]
def foeX (es : List FE) : List (NestedKey × Addr × Value) := es.map fun e => (foeKey e.r e.b, e.ka, .bool e.v)
def foeO (P : Program) (w : World) (a : Addr) (es : List FE) : HO := .ext fun h => ∃ o eS ep, h.get? a = some o ∧ o.ExactDict ∧ o.data = .dict eS ep ∧ eS.toList = (foeX es).map (entryOfKey (nestedKind P w))
/-- what is true of a foe's entries -/
structure FoeE (H : Hp) (a : Addr) (es : List FE) : Prop where
  big : es.length ≤ sizeLine
  sys : (a == sysModules) = false
  key : ∀ e ∈ es, H e.ka = some (.tup [.ref e.ra, .int (e.b : Int)]) ∧ H e.ra = some (.tup (rv e.r))
  nd : ((foeX es).map (·.1)).Nodup
structure FoeAt (P : Program) (w : World) (H : Hp) (a : Addr) (es : List FE) : Prop where
  ob : H a = some (foeO P w a es)
  en : FoeE H a es
structure FoeRd (P : Program) (w : World) (H : Hp) (a : Addr) (es : List FE) : Prop where
  ob : Rd H a (foeO P w a es)
  en : FoeE H a es
theorem FoeAt.rd {P : Program} {w : World} {H : Hp} {a : Addr} {es : List FE} (f : FoeAt P w H a es) : FoeRd P w H a es := ⟨.inl f.ob, f.en⟩
def foeVal (es : List FE) (r : List Nat) (b : Nat) : Option Bool := (es.find? fun e => decide (e.r = r ∧ e.b = b)).map (·.v)
theorem rowKey_inj : ∀ {r s : List Nat}, r.map (fun n : Nat => NestedKey.num (n : Int)) = s.map (fun n : Nat => NestedKey.num (n : Int)) → r = s
  | [], [], _ => rfl
  | [], _ :: _, h => by simp at h
  | _ :: _, [], h => by simp at h
  | n :: r, m :: s, h => by
    simp only [List.map_cons, List.cons.injEq, NestedKey.num.injEq] at h
    rw [rowKey_inj h.2, show n = m by omega]
theorem foeKey_inj {r s : List Nat} {b c : Nat} (h : foeKey r b = foeKey s c) : r = s ∧ b = c := by
  unfold foeKey rowKey at h
  simp only [NestedKey.tup.injEq, List.cons.injEq, NestedKey.num.injEq, and_true] at h
  exact ⟨rowKey_inj h.1, by omega⟩
theorem foe_at (r : List Nat) (b : Nat) : ∀ es : List FE, (atKey (foeX es) (foeKey r b)).map (·.2) = (foeVal es r b).map Value.bool
  | [] => rfl
  | e :: es => by
    have ih := foe_at r b es
    unfold atKey foeVal foeX at *
    rw [List.map_cons, List.find?_cons, List.find?_cons]
    by_cases h : e.r = r ∧ e.b = b
    · rw [decide_eq_true h, decide_eq_true (show foeKey e.r e.b = foeKey r b by rw [h.1, h.2])]
      rfl
    · rw [decide_eq_false h, decide_eq_false (fun z => h (foeKey_inj z))]
      exact ih
section
variable {P : Program} {w : World} {H : Hp} {h : Heap} {a : Addr} {es : List FE}
theorem row_all {h : Heap} : ∀ {r : List Nat} {us : List Value}, Vals (rv r) us → NestedAll h (r.map fun n : Nat => .num (n : Int)) us
  | [], us, rel => by
    cases us with
    | nil => exact .nil
    | cons u us => cases rel
  | n :: r, us, rel => by
    cases rel with
    | cons h1 h2 =>
      obtain ⟨t, rfl⟩ := h1
      exact .cons (.int _ _) (row_all h2)
theorem row_is (ok : HOk P w H h) {ra : Addr} {r : List Nat} (e : H ra = some (.tup (rv r))) : NestedIs h (rowKey r) (.ref ra) := by
  obtain ⟨_, its, rel, o, ho, hc, n, hd⟩ := ok ra _ e
  exact .tup ho hc hd (row_all rel)
theorem depth_nums : ∀ l : List Nat, NestedKey.depthAll (l.map fun n : Nat => .num (n : Int)) = 0
  | [] => rfl
  | n :: l => by simp [NestedKey.depthAll, NestedKey.depth, depth_nums l]
theorem foe_depth (r : List Nat) (b : Nat) : (foeKey r b).depth = 2 := by
  unfold foeKey rowKey
  simp [NestedKey.depth, NestedKey.depthAll, depth_nums]
theorem foe_is (ok : HOk P w H h) {ka ra : Addr} {r : List Nat} {b : Nat} (e : H ka = some (.tup [.ref ra, .int (b : Int)])) (e2 : H ra = some (.tup (rv r))) : (nestedKind P w).is h (foeKey r b) ka := by
  obtain ⟨_, its, rel, o, ho, hc, n, hd⟩ := ok ka _ e
  refine ⟨.tup ho hc hd ?_, by rw [foe_depth]; decide⟩
  obtain ⟨u1, u2, rfl, r1, r2⟩ := vals2 rel
  obtain rfl : u1 = Value.ref ra := r1
  obtain ⟨t, rfl⟩ := r2
  exact .cons (row_is ok e2) (.cons (.int _ _) .nil)
theorem foe_dict (ok : HOk P w H h) (f : FoeRd P w H a es) : h.DictOfH (nestedKind P w) a (foeX es) := by
  obtain ⟨⟨o, eS, ep, ho, hx, hd, he⟩, _⟩ := f.ob.ok ok
  refine ⟨o, eS, ep, ho, hx, hd, he, fun x hx => ?_, f.en.nd⟩
  obtain ⟨e, hm, rfl⟩ := List.mem_map.mp hx
  exact foe_is ok (f.en.key e hm).1 (f.en.key e hm).2
end
/-- the entries behind d[(r, b)] = v -/
def foePut (es : List FE) (ka ra : Addr) (r : List Nat) (b : Nat) (v : Bool) : List FE :=
  if (foeVal es r b).isSome then es.map fun e => if e.r = r ∧ e.b = b then { e with v := v } else e else es ++ [⟨ka, ra, r, b, v⟩]
theorem foe_put (es : List FE) (ka ra : Addr) (r : List Nat) (b : Nat) (v : Bool) : storedH (foeX es) (foeKey r b) ka (.bool v) = foeX (foePut es ka ra r b v) := by
  have e1 : (atKey (foeX es) (foeKey r b)).isSome = (foeVal es r b).isSome := by
    have := congrArg Option.isSome (foe_at r b es)
    rwa [Option.isSome_map, Option.isSome_map] at this
  unfold storedH foePut
  rw [e1]
  cases (foeVal es r b).isSome with
  | true =>
    simp only [if_true]
    unfold foeX
    rw [List.map_map, List.map_map]
    apply List.map_congr_left
    intro e _
    show putAt (foeKey r b) (.bool v) (foeKey e.r e.b, e.ka, .bool e.v) = _
    unfold putAt
    by_cases h : e.r = r ∧ e.b = b
    · rw [if_pos (show foeKey e.r e.b = foeKey r b by rw [h.1, h.2])]
      simp only [Function.comp, if_pos h]
    · rw [if_neg (fun z => h (foeKey_inj z))]
      simp only [Function.comp, if_neg h]
  | false =>
    simp only [Bool.false_eq_true, if_false]
    unfold foeX
    rw [List.map_append]
    rfl
theorem foeVal_put (es : List FE) (ka ra : Addr) (r : List Nat) (b : Nat) (v : Bool) (r' : List Nat) (b' : Nat) : foeVal (foePut es ka ra r b v) r' b' = if r' = r ∧ b' = b then some v else foeVal es r' b' := by
  unfold foePut
  cases hs : (foeVal es r b).isSome with
  | true =>
    simp only [if_true]
    induction es with
    | nil => simp [foeVal] at hs
    | cons e es ih =>
      by_cases hk : e.r = r ∧ e.b = b
      · by_cases hq : r' = r ∧ b' = b
        · rw [if_pos hq]
          simp only [foeVal, List.map_cons, if_pos hk, List.find?_cons]
          rw [decide_eq_true (show e.r = r' ∧ e.b = b' by rw [hk.1, hk.2, hq.1, hq.2]; exact ⟨rfl, rfl⟩)]
          rfl
        · rw [if_neg hq]
          have hne : ¬ (e.r = r' ∧ e.b = b') := fun z => hq ⟨z.1.symm.trans hk.1, z.2.symm.trans hk.2⟩
          simp only [foeVal, List.map_cons, if_pos hk, List.find?_cons, decide_eq_false hne]
          clear ih hs
          induction es with
          | nil => rfl
          | cons e2 es ih2 =>
            by_cases hk2 : e2.r = r ∧ e2.b = b
            · have hne2 : ¬ (e2.r = r' ∧ e2.b = b') := fun z => hq ⟨z.1.symm.trans hk2.1, z.2.symm.trans hk2.2⟩
              simp only [List.map_cons, if_pos hk2, List.find?_cons, decide_eq_false hne2]
              exact ih2
            · simp only [List.map_cons, if_neg hk2, List.find?_cons]
              cases decide (e2.r = r' ∧ e2.b = b') with
              | true => rfl
              | false => exact ih2
      · have hs' : (foeVal es r b).isSome = true := by
          unfold foeVal at hs ⊢
          rw [List.find?_cons, decide_eq_false hk] at hs
          exact hs
        have ih' := ih hs'
        simp only [foeVal, List.map_cons, if_neg hk, List.find?_cons] at ih' ⊢
        by_cases hz : e.r = r' ∧ e.b = b'
        · rw [decide_eq_true hz, if_neg (fun z : r' = r ∧ b' = b => hk ⟨hz.1.trans z.1, hz.2.trans z.2⟩)]
        · rw [decide_eq_false hz]
          exact ih'
  | false =>
    simp only [Bool.false_eq_true, if_false]
    unfold foeVal at hs ⊢
    rw [List.find?_append]
    cases hf : es.find? (fun e => decide (e.r = r' ∧ e.b = b')) with
    | some e =>
      have hq : ¬ (r' = r ∧ b' = b) := fun z => by
        rw [z.1, z.2] at hf
        rw [hf] at hs
        simp at hs
      rw [if_neg hq]
      rfl
    | none =>
      rw [Option.none_or]
      by_cases hq : r' = r ∧ b' = b
      · rw [if_pos hq, List.find?_cons, decide_eq_true (show (⟨ka, ra, r, b, v⟩ : FE).r = r' ∧ (⟨ka, ra, r, b, v⟩ : FE).b = b' from ⟨hq.1.symm, hq.2.symm⟩)]
        rfl
      · rw [if_neg hq, List.find?_cons, decide_eq_false (show ¬ ((⟨ka, ra, r, b, v⟩ : FE).r = r' ∧ (⟨ka, ra, r, b, v⟩ : FE).b = b') from fun z => hq ⟨z.1.symm, z.2.symm⟩)]
        rfl
theorem foePut_len (es : List FE) (ka ra : Addr) (r : List Nat) (b : Nat) (v : Bool) : (foePut es ka ra r b v).length ≤ es.length + 1 := by
  unfold foePut
  split
  · rw [List.length_map]; omega
  · rw [List.length_append]; simp
end Wp
set_option Elab.async false
set_option linter.all false
set_option maxRecDepth 100000
set_option maxHeartbeats 2000000
/-! WpR3: the rules over foes: {}, f[k], k in f, k not in f, f[k] = v, for k in f; {k: v} of one tuple key. -/
namespace Wp
open PySem PySem.Spec PyProof.Rows L2 WP
theorem hu100 {A : Around} {k : Nat} (hr : Room k A) : A.units + 100 < cLine := by
  have := hr.un
  omega
/-- the key's tuple and the row's, as they stand -/
def FKey (H : Hp) (k : Addr) (r : List Nat) (b : Nat) : Prop := ∃ ra, H k = some (.tup [.ref ra, .int (b : Int)]) ∧ H ra = some (.tup (rv r))
def tFGet (P : Program) (w : World) (td ty : TE) : TE := fun σ H Q => td σ H fun x H1 => ty σ H1 fun y H2 => ∃ (a k : Addr) (r : List Nat) (b : Nat) (es : List FE) (v : Bool), x = .ref a ∧ y = .ref k ∧ FoeRd P w H2 a es ∧ FKey H2 k r b ∧ foeVal es r b = some v ∧ Q (.bl v) H2
def tFNotIn (P : Program) (w : World) (ty td : TE) : TE := fun σ H Q => ty σ H fun y H1 => td σ H1 fun x H2 => ∃ (a k : Addr) (r : List Nat) (b : Nat) (es : List FE), x = .ref a ∧ y = .ref k ∧ FoeRd P w H2 a es ∧ FKey H2 k r b ∧ Q (.bl (!(foeVal es r b).isSome)) H2
/-- f[k] = v: the entries behind it -/
def sFPut (P : Program) (w : World) (td ty tv : TE) : TS := fun D σ H => tv σ H fun v H1 => td σ H1 fun x H2 => ty σ H2 fun y H3 => ∃ (a k ra : Addr) (r : List Nat) (b : Nat) (es : List FE) (z : Bool), v = .bl z ∧ x = .ref a ∧ y = .ref k ∧ FoeAt P w H3 a es ∧ es.length < sizeLine ∧
  H3 k = some (.tup [.ref ra, .int (b : Int)]) ∧ H3 ra = some (.tup (rv r)) ∧ ∀ H4, (∀ c, c ≠ a → H4 c = H3 c) → FoeAt P w H4 a (foePut es k ra r b z) → D.nx σ H4
theorem foe_upd {P : Program} {w : World} {H : Hp} {a : Addr} {es es' : List FE} (f : FoeE H a es) (ha : ∀ xs, H a ≠ some (.tup xs)) (hb : es'.length ≤ sizeLine) (hk : ∀ e ∈ es', H e.ka = some (.tup [.ref e.ra, .int (e.b : Int)]) ∧ H e.ra = some (.tup (rv e.r)))
    (hn : ((foeX es').map (·.1)).Nodup) : FoeAt P w (upd H a (foeO P w a es')) a es' := by
  refine ⟨upd_same, hb, f.sys, fun e he => ?_, hn⟩
  obtain ⟨k1, k2⟩ := hk e he
  have n1 : e.ka ≠ a := fun z => ha _ (z ▸ k1)
  have n2 : e.ra ≠ a := fun z => ha _ (z ▸ k2)
  exact ⟨(upd_ne n1).trans k1, (upd_ne n2).trans k2⟩
theorem foeO_tup {P : Program} {w : World} {H : Hp} {a : Addr} {es : List FE} (h : H a = some (foeO P w a es)) (xs : List V) : H a ≠ some (.tup xs) := fun z => by
  rw [h] at z
  cases z
theorem room_f {A : Around} {P : Program} {w : World} (hu : A.units + 100 < cLine) : (nestedKind P w).room A.in1 := by
  show A.units + 1 + 8 < cLine
  omega
section
variable {X : Cx} {o i e value : Expr} {pos pos' : Pos} {td ty tv : TE}
theorem pe_fget (hu : X.A.units + 100 < cLine) (ho : PE X o td) (hi : PE X i ty) (hs : NoSl i) : PE X (.Subscript o i pos) (tFGet X.prog X.w td ty) := by
  refine ⟨fun pins s σ H Q I h => subD_of PySem.F.slot_dict_getitem.lookup hs (thn (ho.run pins s σ H _ I h) fun u s1 ⟨x, H1, I1, rx, q1⟩ => thn (hi.run pins s1 σ H1 _ I1 q1) fun iv s2 ⟨y, H2, I2, ry, a, k, r, b, es, v, ex, ey, f, ⟨ra, k1, k2⟩, hv, q2⟩ => ?_)⟩
  subst ex ey
  obtain rfl : u = Value.ref a := rx
  obtain rfl : iv = Value.ref k := ry
  have dd := foe_dict I2.hok f
  have e1 := foe_at r b es
  rw [hv] at e1
  obtain ⟨p, hp, hp2⟩ := Option.map_eq_some_iff.mp e1
  refine ⟨dd.typeIs, wpAny_getItem_heap (room_f hu) (foe_is I2.hok k1 k2) dd hp ?_⟩
  rw [hp2]
  exact ⟨.bl v, H2, I2.tok _, rfl, q2⟩
theorem pc_fnotin (hu : X.A.units + 100 < cLine) (hi : PE X i ty) (ho : PE X o td) : PC X .NotIn i o (tFNotIn X.prog X.w ty td) := by
  refine ⟨fun pins s σ H Q I h => thn (hi.run pins s σ H _ I h) fun iv s1 ⟨y, H1, I1, ry, q1⟩ => thn (ho.run pins s1 σ H1 _ I1 q1) fun u s2 ⟨x, H2, I2, rx, a, k, r, b, es, ex, ey, f, ⟨ra, k1, k2⟩, q2⟩ => ?_⟩
  subst ex ey
  obtain rfl : u = Value.ref a := rx
  obtain rfl : iv = Value.ref k := ry
  have e1 := congrArg Option.isSome (foe_at r b es)
  rw [Option.isSome_map, Option.isSome_map] at e1
  refine wpAny_notIn_heap (room_f hu) (foe_is I2.hok k1 k2) f.en.sys (foe_dict I2.hok f) ?_
  rw [e1]
  exact ⟨.bl _, H2, I2.tok _, rfl, q2⟩
theorem ps_fput (hu : X.A.units + 100 < cLine) (ho : PE X o td) (hi : PE X i ty) (hv : PE X value tv) (hs : swapsWith value (some (.Subscript o i pos')) pos.line X.env = pure false) : PS X (.Assign [.Subscript o i pos'] value pos) (sFPut X.prog X.w td ty tv) := by
  refine ⟨fun pins s σ H D I h => wpAny_Assign_Subscript (thn (hv.run pins s σ H _ I h) fun rr s1 ⟨v, H1, I1, rv1, q1⟩ => thn (ho.run pins s1 σ H1 _ I1 q1) fun u s2 ⟨x, H2, I2, rx, q2⟩ => thn (hi.run pins s2 σ H2 _ I2 q2) fun iv s3 ⟨y, H3, I3, ry, a, k, ra, r, b, es, z, ev, ex, ey, f, hz, k1, k2, q3⟩ => ?_) hs⟩
  subst ev ex ey
  obtain rfl : u = Value.ref a := rx
  obtain rfl : iv = Value.ref k := ry
  obtain rfl : rr = Value.bool z := rv1
  have dd := foe_dict I3.hok f.rd
  have hl : (foeX es).length ≤ sizeLine := by unfold foeX; rw [List.length_map]; omega
  refine wpAny_setItem_heap (hsz := hl) (room_f hu) (foe_is I3.hok k1 k2) dd fun h' dd' hs' => ?_
  rw [foe_put es k ra r b z] at dd'
  obtain ⟨oq, eS, ep, hq, h2, h3, h4, _, h5⟩ := dd'
  have hk : ∀ e ∈ foePut es k ra r b z, H3 e.ka = some (.tup [.ref e.ra, .int (e.b : Int)]) ∧ H3 e.ra = some (.tup (rv e.r)) := fun e he => by
    unfold foePut at he
    split at he
    · obtain ⟨e0, m0, rfl⟩ := List.mem_map.mp he
      have := f.en.key e0 m0
      split <;> exact this
    · rcases List.mem_append.mp he with m0 | m0
      · exact f.en.key e m0
      · rw [List.mem_singleton.mp m0]
        exact ⟨k1, k2⟩
  have hb : (foePut es k ra r b z).length ≤ sizeLine := Nat.le_trans (foePut_len es k ra r b z) hz
  have I4 : Inv X pins σ (upd H3 a (foeO X.prog X.w a (foePut es k ra r b z))) { s3 with heap := h', toks := s3.toks + (nestedKind X.prog X.w).draws (foeKey r b) } := by
    refine d_write I3 (by rw [f.ob]; exact True.intro) hs' ⟨oq, hq⟩ ?_
    refine ⟨⟨oq, eS, ep, hq, h2, h3, h4⟩, ⟨oq, hq⟩, ?_⟩
    rintro g1 g2 ⟨o1, e1, p1, a1, a2⟩ st
    exact ⟨o1, e1, p1, st _ a1, a2⟩
  exact ⟨σ, _, I4, q3 _ (fun c hc => upd_ne hc) (foe_upd f.en (foeO_tup f.ob) hb hk h5)⟩
/-- {}, to be a foe -/
def tDNewF (P : Program) (w : World) : TE := fun _ H Q => ∀ p, H p = none → ∀ H1, (∀ c, c ≠ p → H1 c = H c) → FoeAt P w H1 p [] → Q (.ref p) H1
theorem pe_dnewF : PE X (.Dict [] [] pos) (tDNewF X.prog X.w) := by
  refine ⟨fun pins s σ H Q I h => ?_⟩
  have hn := I.hok.fresh (Nat.le_refl s.heap.objs.size)
  have g0 : (s.heap.push { cls := .type "dict", data := .dict #[] }).get? s.heap.objs.size = some { cls := .type "dict", data := .dict #[] } := Heap.get?_push_size _ rfl
  obtain ⟨oq, eS, ep, hq, h2, h3, h4, _, h5⟩ := Heap.DictOfH.new (knd := nestedKind X.prog X.w) s.heap
  have ok1 : ObjOk X.prog X.w (upd H s.heap.objs.size (foeO X.prog X.w s.heap.objs.size [])) (s.heap.push { cls := .type "dict", data := .dict #[] }) s.heap.objs.size (foeO X.prog X.w s.heap.objs.size []) := by
    refine ⟨⟨oq, eS, ep, hq, h2, h3, h4⟩, ⟨oq, hq⟩, ?_⟩
    rintro g1 g2 ⟨o1, e1, p1, a1, a2⟩ st
    exact ⟨o1, e1, p1, st _ a1, a2⟩
  have I1 := I.laid (a := s.heap.objs.size) (h' := s.heap.push { cls := .type "dict", data := .dict #[] }) (t' := s.toks) (fun _ _ q => Heap.get?_push_of_some _ q) (Nat.le_refl _) ok1
  have sysN : (s.heap.objs.size == sysModules) = false := (dt_empty (P := X.prog) (w := X.w) (H := H) s.heap I.big).2.1
  have FA : FoeAt X.prog X.w (upd H s.heap.objs.size (foeO X.prog X.w s.heap.objs.size [])) s.heap.objs.size [] := ⟨upd_same, Nat.zero_le _, sysN, fun e he => absurd he (by simp), List.nodup_nil⟩
  exact wpAny_Dict_empty ⟨.ref s.heap.objs.size, _, I1, rfl, h _ hn _ (fun c hc => upd_ne hc) FA⟩
end
/-! ### for k in f -/
def ItF (P : Program) (w : World) (d : Addr) (o : Obj) (es : List FE) : It :=
  ⟨fun i H => H d = some (.frz o (foeO P w d es)) ∧ i < es.length, fun i H x H' => H' = H ∧ ∃ e, es[i]? = some e ∧ x = .ref e.ka, fun i H => H d = some (.frz o (foeO P w d es)) ∧ es.length ≤ i⟩
theorem frzF {X : Cx} {pins : List (Addr × Obj)} {σ : L2.St} {H : Hp} {s : Shared} {d : Addr} {o : Obj} {es : List FE} (I : Inv X pins σ H s) (hd : H d = some (.frz o (foeO X.prog X.w d es))) :
    s.heap.get? d = some o ∧ o.ExactDict ∧ ∃ (eS : Array DictEntry) (ep : Nat), o.data = .dict eS ep ∧ eS.size = es.length ∧ ∀ (i : Nat) (e : FE), es[i]? = some e → ∃ en : DictEntry, eS[i]? = some en ∧ en.key = .ref e.ka := by
  obtain ⟨g, ⟨o', eS, ep, ho, hx, hdt, he⟩, _⟩ := I.hok d _ hd
  rw [g] at ho
  cases ho
  have hl : eS.size = es.length := by
    have := congrArg List.length he
    rw [List.length_map, Array.length_toList] at this
    unfold foeX at this
    rwa [List.length_map] at this
  refine ⟨g, hx, eS, ep, hdt, hl, fun i e hi => ?_⟩
  have h1 : eS.toList[i]? = some (entryOfKey (nestedKind X.prog X.w) (foeKey e.r e.b, e.ka, .bool e.v)) := by
    rw [he]
    unfold foeX
    rw [List.getElem?_map, List.getElem?_map, hi]
    rfl
  exact ⟨_, by rw [← Array.getElem?_toList]; exact h1, rfl⟩
theorem turn_foe {P : Program} {w : World} {K : PySem.W.Frag} {tg : Expr} {d : Addr} {o : Obj} {eS : Array DictEntry} {ep : Nat} {es : List FE} (it : Addr) (hod : o.data = .dict eS ep) : Turn P w K tg (ItF P w d o es) [it] it (fun i h => h.IsKeyIter it d i es.length ep) := by
  have T0 : Turn P w K tg (Itkt d o (List.replicate es.length ([], V.non))) [it] it (fun i h => h.IsKeyIter it d i (List.replicate es.length (([] : List Key), V.non)).length ep) := turn_keysT it hod
  rw [List.length_replicate] at T0
  refine { mem := T0.mem, obj := T0.obj, keep := T0.keep, self := T0.self, item := ?_, done := ?_ }
  · clear T0
    intro X hP hw hK hc i pins s σ H E I hf st hgo
    subst hP; subst hw; subst hK
    obtain ⟨hd, hi⟩ := hgo
    obtain ⟨g0, g1, g2, g3, g4, g5⟩ := hf it (by simp)
    obtain ⟨hgd, hx, eS', ep', hdt, hsz, ent⟩ := frzF I hd
    obtain ⟨rfl, rfl⟩ := dict_ep hod hdt
    obtain ⟨e, he⟩ : ∃ e, es[i]? = some e := ⟨es[i], List.getElem?_eq_getElem hi⟩
    obtain ⟨en, hen, hkey⟩ := ent i e he
    refine next_key_item st hgd hdt hsz hen fun h' st' sb => ?_
    obtain ⟨oi, z1, z2, z3⟩ := id st'
    have I1 : Inv X pins σ H { s with heap := h' } := I.turned (t' := s.toks) (fun b ob hb q => (sb.2 b hb).trans q) g0 g1 g3 g4 g5
    exact ⟨en.key, rfl, go_of (s := { s with heap := h' }) z1 z2 z3 (by decide) ⟨.ref e.ka, H, I1, hkey, ⟨rfl, e, he, rfl⟩, st', fun b hb => (hf b hb).1⟩⟩
  · clear T0
    intro X hP hw hK hc i pins s σ H E I hf st hgo
    subst hP; subst hw; subst hK
    obtain ⟨hd, hi⟩ := hgo
    obtain ⟨g0, g1, g2, g3, g4, g5⟩ := hf it (by simp)
    obtain ⟨hgd, hx, eS', ep', hdt, hsz, ent⟩ := frzF I hd
    obtain ⟨rfl, rfl⟩ := dict_ep hod hdt
    exact next_key_end (I.ok.hd hc) st hgd hdt hsz hi fun h' eb => ⟨rfl, I.turned (t' := s.toks) (fun b ob hb q => eb b ob hb q) g0 g1 g3 g4 g5⟩
def iKeysF (P : Program) (w : World) (td : TE) : TI := fun σ H R => td σ H fun x H1 => ∃ (d : Addr) (o : Obj) (es : List FE), x = .ref d ∧ (d == sysModules) = false ∧ H1 d = some (.frz o (foeO P w d es)) ∧ R (ItF P w d o es) H1
theorem pi_keysF {X : Cx} {tg e : Expr} {td : TE} (he : PE X e td) : PI X tg e (iKeysF X.prog X.w td) := by
  refine ⟨fun pins s σ H R I h => thn (he.run pins s σ H _ I h) fun u s1 ⟨x, H1, I1, rx, d, o, es, ex, hs, hd, q⟩ => ?_⟩
  subst ex
  obtain rfl : u = Value.ref d := rx
  obtain ⟨hgd, hx, eS, ep, hdt, hsz, ent⟩ := frzF I1 hd
  refine iter_keys hs hgd hx hdt (pi_one (tk := s1.toks) I1 _ (turn_foe _ hdt) ⟨_, Heap.get?_push_size _ rfl, rfl, ?_⟩ q)
  rw [hsz] <;> rfl
theorem walk_foe {P : Program} {w : World} {d : Addr} {o : Obj} {es : List FE} : Walk (ItF P w d o es) es.length (fun H => H d = some (.frz o (foeO P w d es))) (fun i H x H' => H' = H ∧ ∃ e, es[i]? = some e ∧ x = .ref e.ka) :=
  ⟨fun i H hi g => ⟨g, hi⟩, fun H g => ⟨g, Nat.le_refl _⟩, fun i H x H' hi g y => y⟩
/-! ### {k: v}, k a tuple -/
theorem pe_dispT {X : Cx} {k v : Expr} {pos : Pos} {tk tv : TE} (hu : X.A.units + 100 < cLine) (hk : PE X k tk) (hv : PE X v tv) : PE X (.Dict [some k] [v] pos) (tDispT tk tv) := by
  refine ⟨fun pins s σ H Q I h => ?_⟩
  have hn := I.hok.fresh (Nat.le_refl s.heap.objs.size)
  have I1 := I.laid (a := s.heap.objs.size) (o := .dT []) (h' := s.heap.push { cls := .type "dict", data := .dict #[] }) (t' := s.toks) (fun _ _ q => Heap.get?_push_of_some _ q) (Nat.le_refl _) (dt_empty s.heap I.big)
  have room : (tupleKind (mixKind X.prog X.w)).room X.A := by
    show X.A.units < cLine
    omega
  rw [arm_eval_Dict, zip_pairTrees [some k] [v] X.env pos rfl rfl, dictDisplay_pairs (pairTrees [some k] [v] X.env pos) (by intro z; cases z) (show 1 < 17 by decide)]
  refine wpAny_bind (wpAny_standAt (wpAny_bind (wpAny_subDictH (knd := tupleKind (mixKind X.prog X.w)) (Q := fun d s' => wpAny (model X.prog X.w) X.A (pure (Value.ref d)) (EP X pins σ Q) X.xe s') room (show 1 ≤ 15 by decide) ?_)))
  refine pairTrees_cons_walk (thn (hk.run pins _ σ _ _ I1 (h _ hn)) fun kv s1 ⟨x, H1, I1, rx, q1⟩ => thn (hv.run pins s1 σ H1 _ I1 q1) fun vv s2 ⟨y, H2, I2, ry, b, ks, ex, ep, eb, q2⟩ => pairTrees_nil_walk ?_)
  subst ex
  obtain rfl : kv = Value.ref b := rx
  obtain ⟨z, hd, xs, rel, dd⟩ := dt_of I2.hok ep
  cases rel
  refine ⟨[(ks, b, vv)], ⟨rfl, rfl, key_of I2.hok eb, trivial⟩, dd, fun h' tk dd' hs => wpAny_pure ?_⟩
  obtain ⟨oq, eS, epq, hq, h2, h3, h4, _, h5⟩ := dd'
  refine ⟨.ref s.heap.objs.size, _, d_write I2 (by rw [ep]; exact True.intro) hs ⟨oq, hq⟩ (ob := .dT [(ks, y)]) ⟨(show 1 ≤ sizeLine by decide), hd, [(ks, b, vv)], .cons ⟨rfl, ?_, ry⟩ .nil, oq, eS, epq, hq, h2, h3, h4, h5⟩, rfl, q2⟩
  rw [upd_ne (ne_of eb ep (by intro z; cases z))]
  exact eb
end Wp
set_option Elab.async false
set_option linter.all false
set_option maxRecDepth 100000
set_option maxHeartbeats 2000000
/-! WpR4: own rules: x not in o by an own __contains__; C(e, *y); o(e) of an instance; defs that may raise, called by name. -/
namespace Wp
open PySem PySem.Spec PyProof.Rows L2 WP
section
variable {P : Program} {w : World} {K : PySem.W.Frag} {mg : Str → Option Value} {base : Heap}
/-- a method as a FnR -/
theorem fnR_of {CX : CXT} {k : Nat} {f : Addr} {fd : FuncData} {ps : List Str} {sp : Sp} (F : FnOk P w K mg base CX k f fd ps sp) (hb : Binds K fd ps []) : FnR P w K mg base CX k f sp := fun A outer s H us vs Q E hr e0 r h => by
  have kin : K.In s.heap := e0.mod.kin.keeps fun b o e => (e0.bs b o e).1
  have hl : (us ++ []).length = ps.length := by
    rw [List.append_nil, ← r.length]
    exact F.len _ _ _ _ h
  have hbt := hb s us kin hl
  rw [List.append_nil] at hbt
  exact F.run A outer s H ⟨us, []⟩ us vs Q E hr e0 hbt r h
end
section
variable {X : Cx}
/-- x not in o -/
def rNotInOwn (C : Addr) (sp : Sp) : R2 := fun x y H Q => ∃ (a dx : Addr) (fs : List (Str × V)), y = .ref a ∧ H a = some (.ins C dx fs) ∧ sp [y, x] H (fun v H' => ∃ b, v = .bl b ∧ Q (.bl (!b)) H') (fun _ _ _ => False)
theorem op_notInOwn {C : Addr} {k j : Nat} {sp : Sp} (c : C8.Met X.prog X.w X.K X.mg X.base k C "__contains__" sp []) (hr : Room j X.A) (hk : k ≤ j) : OpR X (compareOp .NotIn) (rNotInOwn C sp) := by
  obtain ⟨f, fd, ps, ds, hc, hm, F, hb, hd⟩ := c.ex
  cases hd
  intro pins s σ H x y v u Q I rx ry ⟨a, dx, fs, ey, ha, q⟩
  subst ey
  obtain rfl : u = Value.ref a := ry
  obtain ⟨mA, O, _⟩ := ins_get I.hok ha
  obtain ⟨od, J, _⟩ := O.look
  obtain ⟨m, hF⟩ := I.fr
  refine PySem.W.notIn_K hF I.ok.mod.kin J hm.at_ hm.fn (thn (run_fn (vs := [V.ref a, x]) (us := [Value.ref a, v]) (dvs := []) (ds := []) F (hr.mono hk) hb .nil C8.pass0 I (.cons rfl (.cons rx .nil)) q) fun r s1 ⟨z, H1, I1, rz, b, ez, q1⟩ => ?_)
  subst ez
  obtain rfl : r = Value.bool b := rz
  exact wpAny_truthy_bool ⟨.bl (!b), H1, I1, rfl, q1⟩
variable {C f : Addr} {CX : CXT} {k : Nat} {sp : Sp} {E : XK} {x : Str} {e : Expr} {es : List Expr} {t : TA} {p pos : Pos}
/-- C(e, .., *y) -/
theorem pe_makeRS (M : Mk X.K C f) (F : FnR X.prog X.w X.K X.mg X.base CX k f sp) (hr : Room (k + 1) X.A) (hg : Gl X x) (hm : X.mg x = some (.ref C)) (hx : Passes CX X E) (ha : PA X (e :: es) t) (hdb : (x == ("__debug__" : Str)) = false := by decide)
    (he : starEach (e :: es) X.env = (false, eval e X.env) :: starEach es X.env := by rfl) (hst : (backTo pos (starEach es X.env)).any (·.1) = true := by rfl) : PE X (.Call (.Name x p) (e :: es) [] pos) (StX.tMakeR C sp E t) :=
  ⟨fun pins s σ H Q I h => wpAny_Call_Name_kw (ld_glob I hg hm (PySem.W.callWith_S2 (h₀ := X.base) I.ok.mod.kin M.kp (thn (ha.run pos pins s σ H _ I h) fun us s1 ⟨vs, H1, I1, r, q⟩ => ⟨I1.kIn, StX.run_makeR M F hr hx I1 r q⟩) he hst) hdb)⟩
end
/-! ### a def that may raise -/
section
variable {P : Program} {w : World} {K : PySem.W.Frag} {mg : Str → Option Value} {base : Heap}
structure CalX (P : Program) (w : World) (K : PySem.W.Frag) (mg : Str → Option Value) (base : Heap) (k : Nat) (x : Str) (sp : Sp) : Prop where
  ex : ∃ (f : Addr) (fd : FuncData) (ps : List Str), FnOk P w K mg base (L2.CX P w) k f fd ps sp ∧ mg x = some (.ref f) ∧ PySem.W.keepIn K (.ref f) = true ∧ Binds K fd ps []
theorem calx_mk {x : Str} {i : Nat} {N ps : List Str} {k : Nat} {sp : Sp} (D : DefAt K mg x i) (S : FnScope N ps (defScope (topS i))) (hb : BindsBy x x (topS i) ps) (len : ∀ vs H Q E, sp vs H Q E → vs.length = ps.length)
    (hbody : ∀ (f : Addr) (cdv : Value) (A : Around) (outer : List Env) (s : Shared) (H : Hp) (vs : List V) (Q : VK) (E : XK), Room k (A.deeper (envOfC x (defScope (topS i)) s.heap.objs.size f cdv)) → sp vs H Q E →
      ∃ t, PSs (cxOf (L2.CX P w) P w K mg base N x (defScope (topS i)) f cdv A outer s H E) (defBody (topS i)) t ∧ t { nx := fun _ H' => Q .non H', rt := Q } (start N vs) H) : CalX P w K mg base (k + 1) x sp := by
  obtain ⟨f, fd, F, hm⟩ := D.fn
  exact ⟨f, fd, ps, F.ok S len fun cdv A outer s H vs Q E hr hs => hbody f cdv A outer s H vs Q E hr hs, hm, F.kp, F.bindsN hb⟩
end
section
variable {X : Cx} {k j : Nat} {sp : Sp} {x : Str} {e : Expr} {es : List Expr} {t : TA} {p pos : Pos}
/-- f(e, ..), what it raises wished for at the caller's slots -/
theorem pe_cX {E : L2.St → XK} (c : CalX X.prog X.w X.K X.mg X.base k x sp) (hr : Room j X.A) (hk : k ≤ j) (hg : Gl X x) (hx : ∀ σ, PassesAt (L2.CX X.prog X.w) X σ (E σ)) (ha : PA X (e :: es) t) (hdb : (x == ("__debug__" : Str)) = false := by decide)
    (he : starEach (e :: es) X.env = (false, eval e X.env) :: starEach es X.env := by rfl) (hpl : (backTo pos (starEach es X.env)).any (·.1) = false := by rfl) : PE X (.Call (.Name x p) (e :: es) [] pos) (tCallS sp E t) := by
  obtain ⟨f, fd, ps, F, hm, hkp, hb⟩ := c.ex
  exact pe_callS F (hr.mono hk) hg hm hkp hb hx ha hdb he hpl
/-- f(e, ..) where it raises nothing -/
theorem pe_c0 (c : CalX X.prog X.w X.K X.mg X.base k x sp) (hr : Room j X.A) (hk : k ≤ j) (hg : Gl X x) (ha : PA X (e :: es) t) (hdb : (x == ("__debug__" : Str)) = false := by decide)
    (he : starEach (e :: es) X.env = (false, eval e X.env) :: starEach es X.env := by rfl) (hpl : (backTo pos (starEach es X.env)).any (·.1) = false := by rfl) : PE X (.Call (.Name x p) (e :: es) [] pos) (tCall sp [] E0 t) := by
  obtain ⟨f, fd, ps, F, hm, hkp, hb⟩ := c.ex
  exact pe_call F (hr.mono hk) hg hm hkp hb .nil passL ha hdb he hpl
end
end Wp
set_option Elab.async false
set_option linter.all false
set_option maxRecDepth 100000
set_option maxHeartbeats 2000000
/-! WpR5: own rule: sorted(xs, key=lambda x: ..), the key a text. -/
namespace Wp
open PySem PySem.Spec PyProof.Rows L2 WP
section
variable {X : Cx} {pins : List (Addr × Obj)} {σ : L2.St} {H : Hp} {s : Shared}
/-- a lambda of one parameter and no captured name, called: its body's reading -/
theorem lam_run {A : Around} {f c' : Addr} {qual y : Str} {params : Arguments} {body : Expr} {scope : Scope} {pm ctv : Value} {k : Nat} {x : V} {u : Value} {Q : VK} (I : Inv X pins σ H s)
    (hA : Env0 X.prog X.w X.K X.mg X.base A X.stack s H) (hf : s.heap.get? f = some (PySem.W.kla_obj "<lambda>" qual params body scope [] pm c' ctv)) (hc : H c' = some (LamX.CodeO c' qual)) (S : FnScope [y] [y] scope)
    (hbind : bindArgs (PySem.W.kla_fn "<lambda>" qual params body scope [] pm (.ref c') ctv) ⟨[u], []⟩ = pure [(y, u)]) (hr : Room (k + 1) A) (r : RelV x u)
    (hbody : Room k (A.deeper (envOfC qual scope s.heap.objs.size f (.ref c'))) → ∃ tb, PE (cxOf CX0 X.prog X.w X.K X.mg X.base [y] qual scope f (.ref c') A X.stack s H E0) body tb ∧ tb (start [y] [x]) H Q) :
    codeAny (model X.prog X.w) A (.call (.ref f) ⟨[u], []⟩) (CR CX0 X.stack X.prog X.w H s Q E0) s := by
  obtain ⟨⟨oc, vs, t, hoc, hdc, hvc⟩, _, _⟩ := I.hok c' _ hc
  refine PySem.W.kla_callFunE hr.depth hf rfl S.co S.gen rfl ⟨c', oc, vs, t, rfl, hoc, hdc, hvc⟩ ?_
  rw [hbind]
  have hkind : ∀ z ∈ [(y, u)], scope.names.lookup z.1 = some .local ∨ (scope.names.lookup z.1 = some .cell ∧ ((cellsFrom (s.heap.objs.size + 1) scope.names []).lookup z.1).isSome = true) := fun z hz => by
    rw [List.mem_singleton.mp hz]
    rcases S.par y (List.mem_cons_self ..) with q | q
    · exact .inl q
    · exact .inr ⟨q, PySem.W.cellsFrom_some _ _ _ (.inl q)⟩
  refine wpAny_pure (wpAny_newFunctionEnv_cells S.kind hkind fun env he s1 hin => ?_)
  subst he
  refine ⟨I.nolimit.keeps hin.toInCall.keep, PySem.W.kla_codeExpr ?_⟩
  obtain ⟨tb, hp, hq⟩ := hbody (hr.deeper _)
  have J : Inv (cxOf CX0 X.prog X.w X.K X.mg X.base [y] qual scope f (.ref c') A X.stack s H E0) [] (start [y] [x]) H s1 := inv_start S hr.hd hA rfl (.cons r .nil) hin
  refine wpAny_mono (hp.run [] s1 _ H Q J hq) (fun v s' z => ?_) fun e s' z => z
  obtain ⟨w', H', J', rv, q⟩ := z
  exact ⟨w', H', J'.os, J'.bare, J'.base, J'.hok, rv, q⟩
/-- two untracked records of ours have turned, one of them is tracked from now on as a list -/
theorem inv_two {a c : Addr} {h' : Heap} {t' : Nat} {xs : List V} {its : List Value} {n : Nat} (I : Inv X pins σ H s) (ha : H a = none) (hc : H c = none) (fa : a ≠ X.env.locals ∧ X.s_0.heap.objs.size ≤ a ∧ (∀ x d, X.env.cells.lookup x = some d → d ≠ a) ∧ ∀ p ∈ X.pn ++ pins, p.1 ≠ a)
    (fc : c ≠ X.env.locals ∧ X.s_0.heap.objs.size ≤ c ∧ (∀ x d, X.env.cells.lookup x = some d → d ≠ c) ∧ ∀ p ∈ X.pn ++ pins, p.1 ≠ c) (k : ∀ b o, b ≠ a → b ≠ c → s.heap.get? b = some o → h'.get? b = some o)
    (hl : h'.get? a = some { cls := .type "list", data := .seq its.toArray n }) (rv : Vals xs its) (hz : xs.length ≤ sizeLine) : Inv X pins σ (upd H a (.lst xs)) { s with heap := h', toks := t' } := by
  have ne : ∀ b u, H b = some u → b ≠ a ∧ b ≠ c := fun b u e => ⟨ne_of_none e ha, ne_of_none e hc⟩
  have up : ∀ b u, H b = some u → upd H a (.lst xs) b = some u := fun b u e => (upd_ne (ne b u e).1).trans e
  have nc : ∀ b, b ∉ [a, c] → b ≠ a ∧ b ≠ c := fun b hb => ⟨fun z => hb (z ▸ List.mem_cons_self ..), fun z => hb (z ▸ List.mem_cons_of_mem _ (List.mem_cons_self ..))⟩
  refine I.step (g' := s.gens) (d' := s.drawn) (ch := [a, c]) (fun b hb => ?_) (fun b o _ _ hb e _ => k b o (nc b hb).1 (nc b hb).2 e) (fun b o _ _ hb e _ => ⟨o.slots, k b o (nc b hb).1 (nc b hb).2 e⟩)
    (fun b o hb e n => (upd_ne (nc b hb).1).trans n) (fun b o hb e => ⟨o, k b o (nc b hb).1 (nc b hb).2 e⟩) (fun b ys e => up b _ e) (fun b o u e => up b _ e) (fun b ps e => ⟨#[], by rw [up b _ e]; simp⟩) (fun m hm => ?_) (fun b u e => ?_) I.bare
  · rcases List.mem_cons.mp hb with rfl | hb
    · exact ⟨.inr fa.2.1, fa.1, fa.2.2.1, fa.2.2.2⟩
    · rw [List.mem_singleton.mp hb]
      exact ⟨.inr fc.2.1, fc.1, fc.2.2.1, fc.2.2.2⟩
  · obtain ⟨ob, es, ep, ho, rest⟩ := hm
    exact ⟨ob, es, ep, k _ ob fa.1.symm fc.1.symm ho, rest⟩
  · by_cases hb : b = a
    · subst hb
      rw [upd_same] at e
      cases e
      exact ⟨hz, its, n, rv, hl⟩
    · rw [upd_ne hb] at e
      refine (I.hok b u e).stay (fun d v hd q => ?_) (fun d q => up d _ q) fun d ys q => up d _ q
      rcases hd with z | z
      · exact k d v (z ▸ hb) (z ▸ (ne b u e).2) q
      · exact k d v (ne d _ z).1 (ne d _ z).2 q
end
end Wp
set_option Elab.async false
set_option linter.all false
set_option maxRecDepth 100000
set_option maxHeartbeats 400000
/-! WpR6: texts of six figures are in the order of their numbers. -/
namespace Wp
open PySem PySem.Spec PyProof.Rows L2 WP
theorem snoc_lt : ∀ {l m : List Nat} {a b : Nat}, l.length = m.length → (l ++ [a] < m ++ [b] ↔ l < m ∨ (l = m ∧ a < b))
  | [], [], a, b, _ => by simp [List.cons_lt_cons_iff]
  | x :: l, y :: m, a, b, h => by
    have ih := snoc_lt (l := l) (m := m) (a := a) (b := b) (by simpa using h)
    simp only [List.cons_append, List.cons_lt_cons_iff, ih, List.cons.injEq]
    constructor
    · rintro (h1 | ⟨h1, h2 | ⟨h2, h3⟩⟩)
      · exact .inl (.inl h1)
      · exact .inl (.inr ⟨h1, h2⟩)
      · exact .inr ⟨⟨h1, h2⟩, h3⟩
    · rintro ((h1 | ⟨h1, h2⟩) | ⟨⟨h1, h2⟩, h3⟩)
      · exact .inl h1
      · exact .inr ⟨h1, .inl h2⟩
      · exact .inr ⟨h1, .inr ⟨h2, h3⟩⟩
  | [], _ :: _, _, _, h => by simp at h
  | _ :: _, [], _, _, h => by simp at h
theorem numL_ord : ∀ (k m n : Nat), 10 ^ k ≤ m → m < 10 ^ (k + 1) → 10 ^ k ≤ n → n < 10 ^ (k + 1) → (TL.numL m).length = (TL.numL n).length ∧ (TL.numL m < TL.numL n ↔ m < n) ∧ (TL.numL m = TL.numL n ↔ m = n)
  | 0, m, n, _, h2, _, h4 => by
    rw [TL.numL_lt (by simpa using h2), TL.numL_lt (by simpa using h4)]
    refine ⟨rfl, ?_, ?_⟩
    · rw [List.cons_lt_cons_iff]
      simp only [List.not_lt_nil, and_false, or_false]
      omega
    · rw [List.cons.injEq]
      simp only [and_true]
      omega
  | k + 1, m, n, h1, h2, h3, h4 => by
    have e1 : 10 ^ (k + 1) = 10 ^ k * 10 := Nat.pow_succ ..
    have e2 : 10 ^ (k + 1 + 1) = 10 ^ (k + 1) * 10 := Nat.pow_succ ..
    have e0 : 1 ≤ 10 ^ k := Nat.pow_pos (by decide)
    have ih := numL_ord k (m / 10) (n / 10) (by omega) (by omega) (by omega) (by omega)
    rw [TL.numL_step (show 10 ≤ m by omega), TL.numL_step (show 10 ≤ n by omega)]
    refine ⟨by rw [List.length_append, List.length_append, ih.1]; rfl, ?_, ?_⟩
    · rw [snoc_lt ih.1, ih.2.1, ih.2.2]
      omega
    · constructor
      · intro h
        obtain ⟨a, b⟩ := List.append_inj' h rfl
        have c := ih.2.2.mp a
        simp only [List.cons.injEq, and_true] at b
        omega
      · rintro rfl
        rfl
/-- the key's number, brought into six figures -/
def cl6 (n : Nat) : Nat := if 100000 ≤ n ∧ n < 1000000 then n else 100000
theorem cl6_in (n : Nat) : 100000 ≤ cl6 n ∧ cl6 n < 1000000 := by
  unfold cl6
  split <;> omega
theorem cl6_of {n : Nat} (h1 : 100000 ≤ n) (h2 : n < 1000000) : cl6 n = n := if_pos ⟨h1, h2⟩
def keyOf (rk : V → Nat) (x : V) : PyData := .str (Str.ofString (toString ((cl6 (rk x) : Nat) : Int)))
theorem keyOf_le (rk : V → Nat) (x y : V) : PySem.W.dataLe false (keyOf rk) x y = decide (cl6 (rk x) ≤ cl6 (rk y)) := by
  have a := cl6_in (rk x)
  have b := cl6_in (rk y)
  have o := (numL_ord 5 (cl6 (rk y)) (cl6 (rk x)) b.1 b.2 a.1 a.2).2.1
  have e : ∀ z, PySem.W.keyToks (keyOf rk z) = [.inr (TL.numL (cl6 (rk z)))] := fun z => by
    show [Sum.inr (Str.ofString (toString ((cl6 (rk z) : Nat) : Int))).cps.toList] = _
    rw [← TL.tl_num]
  show (!PyProof.Rows.lexLt PyProof.Rows.itemOrd (PySem.W.keyToks (keyOf rk y)) (PySem.W.keyToks (keyOf rk x))) = _
  rw [e, e, PyProof.Rows.lex_cons]
  show (!(decide (TL.numL (cl6 (rk y)) < TL.numL (cl6 (rk x))) || (!decide (TL.numL (cl6 (rk x)) < TL.numL (cl6 (rk y))) && false))) = _
  rw [Bool.and_false, Bool.or_false, ← decide_not]
  exact decide_eq_decide.mpr (by rw [o]; omega)
end Wp
set_option Elab.async false
set_option linter.all false
set_option maxRecDepth 100000
set_option maxHeartbeats 1000000
/-! WpR7: own rule: sorted by a key that a lambda makes, run. -/
namespace Wp
open PySem PySem.Spec PyProof.Rows L2 WP
abbrev keyTxt (rk : V → Nat) (x : V) : Str := Str.ofString (toString ((cl6 (rk x) : Nat) : Int))
/-- what the key's calls do -/
def KeyRun (X : Cx) (σ : L2.St) (A : Around) (f : Addr) (fo : Obj) (xs : List V) (rk : V → Nat) (H0 : Hp) : Prop :=
  ∀ (x : V) (u : Value) (pins : List (Addr × Obj)) (s : Shared) (H : Hp), x ∈ xs → L2.RelV x u → Same H0 H → Inv X pins σ H s → (f, fo) ∈ pins →
    wpAny (model X.prog X.w) A (call (.ref f) [u]) (fun v s' => (∃ t, v = .str (keyTxt rk x) t) ∧ ∃ H', Same H H' ∧ Inv X pins σ H' s') (fun _ _ => False) s
theorem each_snoc' {α β : Type} {R : α → β → Prop} : ∀ {as : List α} {bs : List β} {a : α} {b : β}, R a b → PySem.W.EachIs R as bs → PySem.W.EachIs R (as ++ [a]) (bs ++ [b])
  | _, _, _, _, h, .nil => .cons h .nil
  | _, _, _, _, h, .cons h1 h2 => .cons h1 (each_snoc' h h2)
theorem key_reads {h : Heap} {rk : V → Nat} : ∀ {ks : List Value} {xs : List V}, PySem.W.EachIs (fun v (x : V) => ∃ t, v = Value.str (keyTxt rk x) t) ks xs → PySem.W.EachIs (fun v k => ∃ as, Reads h v k as) ks (xs.map (keyOf rk))
  | _, _, .nil => .nil
  | _, _, .cons ⟨_, e⟩ t => .cons (e ▸ ⟨[], .str _ _⟩) (key_reads t)
theorem each_vals : ∀ {xs : List V} {us : List Value}, Vals xs us → PySem.W.EachIs (fun u x => L2.RelV x u) us xs
  | _, _, .nil => .nil
  | _, _, .cons h t => .cons h (each_vals t)
theorem vals_each : ∀ {xs : List V} {us : List Value}, PySem.W.EachIs (fun u x => L2.RelV x u) us xs → Vals xs us
  | _, _, .nil => .nil
  | _, _, .cons h t => .cons h (vals_each t)
section
variable {X : Cx} {pins : List (Addr × Obj)} {σ : L2.St} {H : Hp} {s : Shared}
theorem sort_run {l f : Addr} {fo : Obj} {xs : List V} {rk : V → Nat} {Q : VK} (I : Inv X pins σ H s) (hfp : (f, fo) ∈ pins) (hl : SqL X.K H l xs) (hu : X.A.units + 100 < cLine) (kr : KeyRun X σ X.A.in1.in1 f fo xs rk H)
    (q : ∀ p H', Same H H' → H p = none → H' p = some (.lst (xs.mergeSort fun x y => decide (cl6 (rk x) ≤ cl6 (rk y)))) → Q (.ref p) H') :
    wpAny (model X.prog X.w) X.A (call (.builtin "sorted") [.ref l] [(Str.ofString "key", .ref f)]) (EP X pins σ Q) X.xe s := by
  obtain ⟨its, rvs, hl', hz⟩ := I.list hl
  have hlen : xs.length = its.length := rvs.length
  have hzi : its.length ≤ sizeLine := by rw [← hlen]; exact hz
  refine PySem.W.sorted_of_sort hl'.isList hzi (PyProof.Rows.ksk_s1 _ _) (fun _ => PyProof.Rows.ksk_l1 _ _) fun E' => ?_
  rw [PyProof.Rows.ksk_t1]
  generalize ea : s.heap.objs.size + 1 = a
  have hca := PySem.W.copyHeap_at s.heap its
  rw [ea] at hca
  obtain ⟨e1, ho1⟩ : ∃ e1, ((PySem.W.copyHeap s.heap its).update a (Obj.mapSeq fun _ => (#[] : Array Value))).get? a = some (seqObj "list" #[] e1) := ⟨_, get?_update_seq hca fun _ => #[]⟩
  have hca2 : a < (PySem.W.copyHeap s.heap its).objs.size := Heap.lt_size hca
  have hkS : (((PySem.W.copyHeap s.heap its).update a (Obj.mapSeq fun _ => (#[] : Array Value))).push (seqObj "tuple" its.toArray 0)).objs.size = (PySem.W.copyHeap s.heap its).objs.size + 1 := by rw [size_push', Heap.size_update]
  unfold PyProof.Rows.ksk_tree
  refine wpAny_bind (listItems_at hca rfl (wpAny_bind (listUpdate_at hca rfl ?_ (by rw [List.size_toArray]; exact hzi) (Nat.zero_le _))))
  refine wpAny_bind (seqEpoch_at ho1 rfl (wpAny_bind (wpAny_newTuple (wpAny_bind (wpAny_newList (wpAny_holding ?_) (Nat.zero_le _))) (by show its.length ≤ _; exact hzi))))
  show wpAny _ _ (PyProof.Rows.ksk_rest a (.ref f) false its.toArray e1 (.ref (((PySem.W.copyHeap s.heap its).update a (Obj.mapSeq fun _ => (#[] : Array Value))).push (seqObj "tuple" its.toArray 0)).objs.size)) _ _ { s with heap := PySem.W.sortingHeap (PySem.W.copyHeap s.heap its) a its }
  rw [hkS]
  generalize ek : (PySem.W.copyHeap s.heap its).objs.size + 1 = kS
  have hka : kS ≠ a := by omega
  have na0 : (PySem.W.sortingHeap (PySem.W.copyHeap s.heap its) a its).get? a = some (seqObj "list" #[] e1) := Heap.get?_push_of_some _ (Heap.get?_push_of_some _ ho1)
  have nk0 : (PySem.W.sortingHeap (PySem.W.copyHeap s.heap its) a its).get? kS = some (seqObj "list" #[] 0) := by
    rw [← ek, ← hkS]
    exact Heap.get?_push_size _ rfl
  have old : ∀ b o, s.heap.get? b = some o → (PySem.W.sortingHeap (PySem.W.copyHeap s.heap its) a its).get? b = some o := fun b o e => by
    rw [← ea]
    exact PySem.W.sorting_copy_old e
  have I0 : Inv X pins σ H { s with heap := PySem.W.sortingHeap (PySem.W.copyHeap s.heap its) a its } := I.kept (t' := s.toks) old
  have big : s.heap.objs.size ≤ a ∧ s.heap.objs.size ≤ kS := by
    have h3 : s.heap.objs.size ≤ (PySem.W.copyHeap s.heap its).objs.size := by omega
    omega
  have fpA : ∀ {H' : Hp}, H' a = none → FpOk X pins H' a := fun hn => I.fpOk big.1 hn
  have fpK : ∀ {H' : Hp}, H' kS = none → FpOk X pins H' kS := fun hn => I.fpOk big.2 hn
  have nH : H a = none ∧ H kS = none := ⟨I.hok.fresh big.1, I.hok.fresh big.2⟩
  generalize PySem.W.sortingHeap (PySem.W.copyHeap s.heap its) a its = h2 at na0 nk0 old I0
  unfold PyProof.Rows.ksk_rest
  refine wpAny_bind (wpAny_rule ?_)
  rw [List.forIn_toArray]
  refine wpAny_bind (PyProof.Rows.ksk_fold (fun i s' => ∃ H' kA e, Same H H' ∧ Inv X pins σ H' s' ∧ s'.heap.get? kS = some (seqObj "list" kA e) ∧ s'.heap.get? a = some (seqObj "list" #[] e1) ∧ H' kS = none ∧ H' a = none ∧
    PySem.W.EachIs (fun v (x : V) => ∃ t, v = Value.str (keyTxt rk x) t) kA.toList (xs.take i)) its 0 _ ⟨H, #[], 0, Same.refl H, I0, nk0, na0, nH.2, nH.1, .nil⟩ ?step ?done)
  case step =>
    rintro j u s' hx ⟨H', kA, e, sm, I1, nk, na, zk, za, hk⟩
    simp only [Nat.zero_add] at hk ⊢
    have hj : j < its.length := (List.getElem?_eq_some_iff.mp hx).1
    obtain ⟨x, hxj⟩ : ∃ x, xs[j]? = some x := ⟨_, List.getElem?_eq_getElem (by omega)⟩
    obtain ⟨u', hu', rx⟩ := Vals.get rvs hxj
    rw [hx] at hu'
    cases hu'
    have I2 := I1.pinned (fp := [kS, a]) (fun b hb => by
      rcases List.mem_cons.mp hb with rfl | hb
      · exact fpK zk
      · rw [List.mem_singleton.mp hb]
        exact fpA za) (fun b hb => by
      rcases List.mem_cons.mp hb with rfl | hb
      · exact ⟨_, nk, fun v z => by cases z⟩
      · rw [List.mem_singleton.mp hb]
        exact ⟨_, na, fun v z => by cases z⟩)
    have hsz : kA.size ≤ its.length := by
      have h1 := hk.length
      rw [Array.length_toList, List.length_take] at h1
      omega
    refine wpAny_bind (wpAny_attempt (wpAny_mono (kr x u _ s' H' (List.mem_of_getElem? hxj) rx sm I2 (List.mem_append_left _ hfp)) (fun v s2 hv => ?_) fun _ _ hF => hF.elim))
    obtain ⟨⟨t, rfl⟩, H2, sm2, I3⟩ := hv
    obtain ⟨pk1, pk2, _⟩ := I3.pin (kS, seqObj "list" kA e) (List.mem_append_right _ (List.mem_append_right _ (mem_pinsAt (List.mem_cons_self ..) nk)))
    obtain ⟨pa1, pa2, _⟩ := I3.pin (a, seqObj "list" #[] e1) (List.mem_append_right _ (List.mem_append_right _ (mem_pinsAt (List.mem_cons_of_mem _ (List.mem_cons_self ..)) na)))
    have I4 := I3.unpinned
    try dsimp only
    obtain ⟨c2, hc2⟩ : ∃ c2, (s2.heap.update kS (Obj.mapSeq (·.push (Value.str (keyTxt rk x) t)))).get? kS = some (seqObj "list" (kA.push (Value.str (keyTxt rk x) t)) c2) := ⟨_, get?_update_seq pk1 (·.push (Value.str (keyTxt rk x) t))⟩
    have fk := fpK (H' := H2) pk2
    have upd1 : ∀ b o, b ≠ kS → s2.heap.get? b = some o → (s2.heap.update kS (Obj.mapSeq (·.push (Value.str (keyTxt rk x) t)))).get? b = some o := fun b o hb e => (Heap.get?_update_ne _ _ _ _ hb).trans e
    refine wpAny_bind (listUpdate_at pk1 rfl ?_ (Nat.le_trans hsz hzi) (Nat.le_trans (Nat.le_of_eq (Array.size_push ..)) (Nat.succ_le_succ (Nat.le_trans hsz hzi))))
    refine wpAny_pure ⟨rfl, H2, kA.push (Value.str (keyTxt rk x) t), c2, sm.trans sm2, I4.turned (t' := s2.toks) upd1 fk.1 fk.2.1 fk.2.2.2.1 fk.2.2.2.2.1 fk.2.2.2.2.2, hc2, upd1 _ _ hka.symm pa1, pk2, pa2, ?_⟩
    rw [Array.toList_push, take_snoc hxj]
    exact each_snoc' ⟨t, rfl⟩ hk
  case done =>
    rintro s' ⟨H', kA, e, sm, I1, nk, na, zk, za, hk⟩
    have e3 : xs.take (0 + its.length) = xs := List.take_of_length_le (by omega)
    rw [e3] at hk
    have hsz : kA.size = its.length := by
      have h1 := hk.length
      rw [Array.length_toList] at h1
      omega
    try dsimp only
    refine wpAny_bind (listItems_at nk rfl ?_)
    obtain ⟨G, g1, g2⟩ := L2.restrict s'.heap fun b => decide (b ≠ kS)
    have kp : PySem.W.KeepsBut a G s'.heap := fun b o hb e => by
      by_cases hbk : b = kS
      · rw [hbk, g2 kS (by simp)] at e
        cases e
      · rw [← g1 b (decide_eq_true hbk)]
        exact e
    have rd := key_reads (h := s'.heap) hk
    have al : PySem.W.AllAlike (xs.map (keyOf rk)) := PySem.W.AllAlike.of fun _ _ => by simp [PySem.W.alike, keyOf]
    have sb : PySem.W.Sortable (xs.map (keyOf rk)) := .inr fun d hd => by
      obtain ⟨x, _, rfl⟩ := List.mem_map.mp hd
      exact ⟨(by intro z; cases z), fun _ z => by cases z⟩
    have S := PySem.W.SortsAt.data (prog := X.prog) (w := X.w) (A := X.A.in1.in1) rd al sb (fun d hd => by
      obtain ⟨x, _, rfl⟩ := List.mem_map.mp hd
      show X.A.units + 1 + 1 + 0 < cLine
      omega)
    refine PySem.W.keyH_end (b := false) (κ := _) kp (g2 kS (by simp)) nk na hka S hsz hzi fun h3 tk3 c k3 n3 => ⟨rfl, ?_⟩
    have eo := PySem.W.keyedOut_each (rev := false) (β := V) (bs := xs) (keyOf rk) ⟨s'.heap, kA.toList, al, rfl, rd⟩ (each_vals rvs)
    have em : xs.mergeSort (PySem.W.dataLe false (keyOf rk)) = xs.mergeSort fun x y => decide (cl6 (rk x) ≤ cl6 (rk y)) := by
      congr 1
      funext x y
      exact keyOf_le rk x y
    rw [em] at eo
    have fa := fpA (H' := H') za
    have fk := fpK (H' := H') zk
    have vo := vals_each eo
    have hlx : (xs.mergeSort fun x y => decide (cl6 (rk x) ≤ cl6 (rk y))).length ≤ sizeLine := by
      rw [List.length_mergeSort]
      exact hz
    have I5 := inv_two (t' := tk3) (xs := xs.mergeSort fun x y => decide (cl6 (rk x) ≤ cl6 (rk y))) I1 za zk ⟨fa.2.1, Nat.le_trans I.sz big.1, fa.2.2.2.2.1, fa.2.2.2.2.2⟩ ⟨fk.2.1, Nat.le_trans I.sz big.2, fk.2.2.2.2.1, fk.2.2.2.2.2⟩
      (fun b o hb hc e => k3 b o hb ((g1 b (decide_eq_true hc)).trans e)) n3 vo hlx
    exact ⟨.ref a, _, I5, rfl, q a _ (fun b o e => (upd_ne (ne_of_none e nH.1)).trans (sm b o e)) nH.1 upd_same⟩
end
end Wp
set_option Elab.async false
set_option linter.all false
set_option maxRecDepth 100000
set_option maxHeartbeats 1000000
/-! WpR8: own rule: sorted(e, key=lambda y: body). -/
namespace Wp
open PySem PySem.Spec PyProof.Rows L2 WP
/-- sorted by a lambda's key: what it asks -/
def qLam (T : List (Addr × Str)) (y : Str) (tb : TE) (Q : VK) (v : V) (H1 : Hp) : Prop := ∃ (l : Addr) (xs : List V) (rk : V → Nat), v = .ref l ∧ H1 l = some (.lst xs) ∧ LamX.Tabs T H1 ∧
  (∀ x ∈ xs, ∀ (H2 : Hp) (R : VK), LamX.ExtN H1 H2 → (∀ H3, Same H2 H3 → R (.str (keyTxt rk x)) H3) → tb (start [y] [x]) H2 R) ∧
  ∀ p H2, LamX.ExtN H1 H2 → LamX.Tabs T H2 → H2 p = some (.lst (xs.mergeSort fun x z => decide (cl6 (rk x) ≤ cl6 (rk z)))) → Q (.ref p) H2
def tSortLam (T : List (Addr × Str)) (td : TE) (y : Str) (tb : TE) : TE := fun σ H Q => td σ H fun v H1 => qLam T y tb Q v H1
theorem ExtN.same {H H1 H2 : Hp} (a : LamX.ExtN H H1) (b : Same H1 H2) : LamX.ExtN H H2 := fun c o e n => b c o (a c o e n)
section
variable {X : Cx}
theorem pe_sortedLam {T : List (Addr × Str)} {c P : Addr} {k : Nat} {x y : Str} {a b : Expr} {params : Arguments} {body : Expr} {scope : Scope} {td tb : TE} {p pos kpos lpos : Pos} (hg : Gl X x) (hm : X.mg x = none) (hv : bootBuiltins x = some (.builtin "sorted")) (ha : PE X a td)
    (TB : LamX.TabB X.base X.mg c P) (hcode : X.env.code = .ref c) (hmT : (P, X.env.qual ++ "<lambda>") ∈ T) (hu : ∀ p ∈ T, p.1 = P → p.2 = X.env.qual ++ "<lambda>") (hr : Room (k + 3) X.A) (S : FnScope [y] [y] scope) (hfr : ∀ y ∈ scope.names, y.2 ≠ .free) (hcl : cloFrom X.env.cells scope.names [] = []) (hdef : defaultsOf params X.env = ([], []))
    (hbind : ∀ (pm ctv : Value) (c' : Addr) (u : Value), bindArgs (PySem.W.kla_fn "<lambda>" (X.env.qual ++ "<lambda>") params body scope [] pm (.ref c') ctv) ⟨[u], []⟩ = pure [(y, u)])
    (hst : ∀ b, b ∉ frs X.stack → b ≠ X.env.locals ∧ b ∉ X.fs)
    (hbody : ∀ (A : Around) (s : Shared) (H : Hp) (f c' : Addr), Room k (A.deeper (envOfC (X.env.qual ++ "<lambda>") scope s.heap.objs.size f (.ref c'))) → PE (cxOf CX0 X.prog X.w X.K X.mg X.base [y] (X.env.qual ++ "<lambda>") scope f (.ref c') A X.stack s H E0) body tb)
    (hn : x ≠ "__name__" := by decide) (hdb : (x == ("__debug__" : Str)) = false := by decide) (he0 : starEach [a] X.env = (false, eval a X.env) :: starEach [] X.env := by rfl) (he : backTo pos (starEach [a] X.env) = (false, eval a X.env) :: backTo pos (starEach [] X.env) := by rfl) (hpl : (backTo pos (starEach [a] X.env)).any (·.1) = false := by rfl)
    (hall : (backToKw pos (keywordEach [⟨some "key", .Lambda params body scope lpos, kpos⟩] X.env)).all (·.1.isSome) = true := by rfl) (hnone : (backToKw pos (keywordEach [⟨some "key", .Lambda params body scope lpos, kpos⟩] X.env)).any (·.1.isNone) = false := by rfl)
    (hks : (backToKw pos (keywordEach [⟨some "key", .Lambda params body scope lpos, kpos⟩] X.env)).filterMap (·.1) = [Str.ofString "key"] := by rfl) :
    PE X (.Call (.Name x p) [a] [⟨some "key", .Lambda params body scope lpos, kpos⟩] pos) (tSortLam T td y tb) := by
  refine ⟨fun pins s σ H Q I h => ?_⟩
  refine wpAny_Call_Name_kw (ld_blt I hg hm hv ?_ hn hdb)
  refine PyProof.Rows.callWith_kw (thn ((pa_cons ha pa_nil he0).run pos pins s σ H (fun vs H1 => match vs with | [v] => qLam T y tb Q v H1 | _ => False) I h) fun us s1 ⟨vs, H1, I1, r1, q1⟩ => ?_) he hpl hall hnone
  rw [hks]
  obtain ⟨v, ev0⟩ : ∃ v, vs = [v] := by
    cases vs with
    | nil => exact q1.elim
    | cons v vs =>
      cases vs with
      | nil => exact ⟨v, rfl⟩
      | cons _ _ => exact q1.elim
  subst ev0
  obtain ⟨u, eu0, h1⟩ : ∃ u, us = [u] ∧ L2.RelV v u := by
    cases r1 with
    | cons h1 h2 =>
      cases h2
      exact ⟨_, rfl, h1⟩
  subst eu0
  obtain ⟨l, xs, rk, ev, hl, hT, hk, q⟩ := q1
  subst ev
  obtain rfl : u = Value.ref l := h1
  show wpAny _ _ (evalAll [do let v ← eval (.Lambda params body scope lpos) X.env; standAt pos; pure v]) _ _ s1
  refine wpAny_evalAll_cons (wpAny_bind (LamX.lam_make2 I1 TB hcode hmT hu hT hdef (fun z hz e => absurd e (hfr z hz)) fun f c' pm ctv H2 s2 I2 eN T2 hf hfn hfr2 hco => ?_))
  refine wpAny_bind (wpAny_standAt (wpAny_pure (wpAny_evalAll_nil ?_)))
  rw [hcl] at hf
  generalize hfo : PySem.W.kla_obj "<lambda>" (X.env.qual ++ "<lambda>") params body scope [] pm c' ctv = fo at hf
  have nd : ∀ v, fo.data ≠ .cell v := fun v z => by
    rw [← hfo] at z
    cases z
  have ndo : ∀ z : HO, H1 l = some z → (∀ ps, z ≠ .tbl ps) → H2 l = some z := fun z e n => eN l z e n
  have hl2 : H2 l = some (.lst xs) := eN l _ hl (fun ps z => by cases z)
  have I3 : Inv X (pins ++ [(f, fo)]) σ H2 s2 := I2.pins_of fun p hp => by
    rcases List.mem_append.mp hp with m | m
    · exact I2.pin p (List.mem_append_right _ m)
    · rw [List.mem_singleton.mp m]
      exact ⟨hf, hfn, (hst f hfr2).1, (hst f hfr2).2, nd⟩
  have hun : X.A.units + 100 < cLine := hu100 hr
  have kr : KeyRun X σ X.A.in1.in1 f fo xs rk H2 := by
    intro z u pins' s3 H3 hz rz sm I4 hm4
    have hf3 : s3.heap.get? f = some fo := (I4.pin (f, fo) (List.mem_append_right _ hm4)).1
    have hco3 : H3 c' = some (LamX.CodeO c' (X.env.qual ++ "<lambda>")) := sm _ _ hco
    refine wpAny_call (codeAny_mono (lam_run (k := k) (x := z) (u := u) (y := y) (Q := fun v H' => v = .str (keyTxt rk z) ∧ Same H3 H') I4 I4.env0.in1.in1 (hf3.trans (by rw [← hfo])) hco3 S (hbind pm ctv c' u) hr.in1.in1 rz fun hr' => ?_) fun r s4 hq => ?_)
    · exact ⟨tb, hbody _ _ _ _ _ hr', hk z hz H3 _ (ExtN.same eN sm) fun H4 sm4 => ⟨rfl, sm4⟩⟩
    · cases r with
      | error e => exact (show False from hq).elim
      | ok fl =>
        cases fl with
        | ret v =>
          obtain ⟨v', H', I5, rv, e5, sm5⟩ := I4.after hq
          subst e5
          exact ⟨rv, H', sm5, I5⟩
        | next => exact False.elim hq
        | brk => exact False.elim hq
        | cont => exact False.elim hq
  refine wpAny_mono (sort_run (rk := rk) I3 (List.mem_append_right _ (List.mem_singleton.mpr rfl)) (SqL.of hl2) hun kr (Q := Q) fun p H3 sm3 n3 e3 => ?_) (fun v s4 hv => ?_) fun _ _ hv => hv
  · exact q p H3 (ExtN.same eN sm3) (T2.ext sm3) e3
  · obtain ⟨v', H', I5, rv, q5⟩ := hv
    exact ⟨v', H', I5.unpinned, rv, q5⟩
end
end Wp
set_option Elab.async false
set_option linter.all false
set_option maxRecDepth 100000
set_option maxHeartbeats 2000000
/-! WpC: words that all walks share: what stands where. -/
namespace Wp
open PySem PySem.Spec PyProof.Rows L2 WP
theorem if1 {b : Bool} {A B : Prop} (h : b = true) (a : A) : if b = true then A else B := by
  rw [if_pos h]
  exact a
theorem if0 {b : Bool} {A B : Prop} (h : b = false) (a : B) : if b = true then A else B := by
  rw [if_neg (by rw [h]; exact Bool.false_ne_true)]
  exact a
/-- a row's tuple -/
def RowAt (H : Hp) (a : Addr) (r : List Nat) : Prop := H a = some (.tup (rv r))
/-- a log's numbers -/
structure LogD where
  ns : List Nat
  L : Nat
  q : Bool
  ps : List (Nat × Bool)
/-- a log's places -/
structure LogA where
  lg : Addr
  dx : Addr
  rd : Addr
  dr : Addr
  wd : Addr
  dw : Addr
  nt : Addr
  pt : Addr
  pas : List Addr
structure RoadAt (c : Cs) (H : Hp) (a : LogA) (d : LogD) : Prop where
  rd : H a.rd = some (.ins c.road a.dr [("widths", .ref a.wd), ("losses", .int (d.L : Int)), ("in_a_row", .bl d.q)])
  wd : H a.wd = some (.ins c.widths a.dw [("numbers", .ref a.nt)])
  nt : H a.nt = some (.tup (rv d.ns))
/-- pairs at a list of places -/
def PairsAt (H : Hp) (as : List Addr) (ps : List (Nat × Bool)) : Prop := as.length = ps.length ∧ ∀ (i : Nat) (a : Addr) (p : Nat × Bool), as[i]? = some a → ps[i]? = some p → H a = some (.tup [.int (p.1 : Int), .bl p.2])
structure LogAt (c : Cs) (H : Hp) (a : LogA) (d : LogD) : Prop where
  road : RoadAt c H a d
  lg : H a.lg = some (.ins c.log a.dx [("road", .ref a.rd), ("pairs", .ref a.pt)])
  pt : H a.pt = some (.tup (a.pas.map V.ref))
  ps : PairsAt H a.pas d.ps
structure PriceAt (c : Cs) (H : Hp) (p dp : Addr) (pa ps : Nat) : Prop where
  ob : H p = some (.ins c.prices dp [("answer", .int (pa : Int)), ("silence", .int (ps : Int))])
/-- what nobody writes: tuples, instances -/
inductive Fixd : HO → Prop where
  | tup (xs : List V) : Fixd (.tup xs)
  | ins (C dx : Addr) (fs : List (Str × V)) : Fixd (.ins C dx fs)
def Keep (H H' : Hp) : Prop := ∀ b o, H b = some o → Fixd o → H' b = some o
theorem Keep.refl (H : Hp) : Keep H H := fun _ _ e _ => e
theorem Keep.trans {H H1 H2 : Hp} (a : Keep H H1) (b : Keep H1 H2) : Keep H H2 := fun c o e f => b c o (a c o e f) f
theorem Keep.ext {H H' : Hp} (s : LamX.ExtN H H') : Keep H H' := fun b o e f => s b o e (fun ps z => by subst z; cases f)
theorem RoadAt.to {c : Cs} {H H' : Hp} {a : LogA} {d : LogD} (r : RoadAt c H a d) (s : Keep H H') : RoadAt c H' a d :=
  ⟨s _ _ r.rd (.ins ..), s _ _ r.wd (.ins ..), s _ _ r.nt (.tup _)⟩
theorem PairsAt.to {H H' : Hp} {as : List Addr} {ps : List (Nat × Bool)} (r : PairsAt H as ps) (s : Keep H H') : PairsAt H' as ps :=
  ⟨r.1, fun i a p h1 h2 => s _ _ (r.2 i a p h1 h2) (.tup _)⟩
theorem LogAt.to {c : Cs} {H H' : Hp} {a : LogA} {d : LogD} (r : LogAt c H a d) (s : Keep H H') : LogAt c H' a d :=
  ⟨r.road.to s, s _ _ r.lg (.ins ..), s _ _ r.pt (.tup _), r.ps.to s⟩
theorem PriceAt.to {c : Cs} {H H' : Hp} {p dp : Addr} {pa ps : Nat} (r : PriceAt c H p dp pa ps) (s : Keep H H') : PriceAt c H' p dp pa ps := ⟨s _ _ r.ob (.ins ..)⟩
theorem RowAt.to {H H' : Hp} {a : Addr} {r : List Nat} (h : RowAt H a r) (s : Keep H H') : RowAt H' a r := s _ _ h (.tup _)
theorem Same.x {H H' : Hp} (s : Same H H') : Keep H H' := fun b o e _ => s b o e
theorem RowAt.sq {K : PySem.W.Frag} {H : Hp} {a : Addr} {r : List Nat} (h : RowAt H a r) : SqT K H a (rv r) := SqT.of h
/-- whole numbers as the sums ask them -/
theorem rv_ints (r : List Nat) : rv r = (r.map fun n : Nat => (n : Int)).map V.int := by
  unfold rv
  rw [List.map_map]
  rfl
theorem sum_ints : ∀ r : List Nat, (r.map fun n : Nat => (n : Int)).sum = ((r.sum : Nat) : Int)
  | [] => rfl
  | n :: r => by
    rw [List.map_cons, List.sum_cons, List.sum_cons, sum_ints r]
    omega
theorem tup_ne {H : Hp} {a p : Addr} {xs : List V} {o : HO} (h : H a = some (.tup xs)) (h2 : H p = some o) (n : ∀ ys, o ≠ .tup ys) : a ≠ p := fun z => by
  subst z
  rw [h] at h2
  exact n xs (Option.some.inj h2).symm
end Wp
set_option Elab.async false
set_option linter.all false
set_option maxRecDepth 100000
set_option maxHeartbeats 2000000
/-! WpC2: dicts whose keys are rows; costs; prices. -/
namespace Wp
open PySem PySem.Spec PyProof.Rows L2 WP
theorem rk_inj : ∀ {r s : List Nat}, rk r = rk s → r = s
  | [], [], _ => rfl
  | [], _ :: _, h => by simp [rk] at h
  | _ :: _, [], h => by simp [rk] at h
  | n :: r, m :: s, h => by
    simp only [rk, List.map_cons, List.cons.injEq, Sum.inl.injEq] at h
    rw [rk_inj h.2, show n = m by omega]
/-- entries by rows -/
abbrev RE := List (List Nat × V)
def rkE (es : RE) : List (List Key × V) := es.map fun e => (rk e.1, e.2)
def lkp (es : RE) (r : List Nat) : Option V := (es.find? fun e => decide (e.1 = r)).map (·.2)
def insR (es : RE) (r : List Nat) (v : V) : RE := if (es.any fun e => decide (e.1 = r)) = true then es.map (fun e => if e.1 = r then (e.1, v) else e) else es ++ [(r, v)]
def RowD (H : Hp) (a : Addr) (es : RE) : Prop := H a = some (.dT (rkE es))
theorem valV_rk (r : List Nat) : ∀ es : RE, valV (rkE es) (rk r) = lkp es r
  | [] => rfl
  | e :: es => by
    have ih := valV_rk r es
    unfold valV lkp rkE at *
    rw [List.map_cons, List.find?_cons, List.find?_cons]
    by_cases h : e.1 = r
    · rw [decide_eq_true h, decide_eq_true (show rk e.1 = rk r by rw [h])]
      rfl
    · rw [decide_eq_false h, decide_eq_false (fun z => h (rk_inj z))]
      exact ih
theorem any_rk (r : List Nat) : ∀ es : RE, ((rkE es).any fun kv => decide (kv.1 = rk r)) = es.any fun e => decide (e.1 = r)
  | [] => rfl
  | e :: es => by
    have ih := any_rk r es
    unfold rkE at *
    rw [List.map_cons, List.any_cons, List.any_cons, ih]
    congr 1
    by_cases h : e.1 = r
    · rw [decide_eq_true h, decide_eq_true (show rk e.1 = rk r by rw [h])]
    · rw [decide_eq_false h, decide_eq_false (fun z => h (rk_inj z))]
theorem putK_rk (es : RE) (r : List Nat) (v : V) : putK (rkE es) (rk r) v = rkE (insR es r v) := by
  unfold putK insR
  rw [any_rk]
  split
  · unfold rkE
    rw [List.map_map, List.map_map]
    apply List.map_congr_left
    intro e _
    simp only [Function.comp]
    by_cases h : e.1 = r
    · rw [if_pos (show rk e.1 = rk r by rw [h]), if_pos h]
    · rw [if_neg (fun z => h (rk_inj z)), if_neg h]
  · unfold rkE
    rw [List.map_append]
    rfl
theorem lkp_ins (es : RE) (r r' : List Nat) (v : V) : lkp (insR es r v) r' = if r' = r then some v else lkp es r' := by
  have h := valV_rk r' (insR es r v)
  rw [← putK_rk] at h
  have h2 := valV_put (rkE es) (rk r) (rk r') v
  rw [← h, h2, valV_rk]
  by_cases e : r' = r
  · rw [if_pos e, if_pos (by rw [e])]
  · rw [if_neg e, if_neg (fun z => e (rk_inj z))]
theorem rd_get {H : Hp} {a b : Addr} {es : RE} {r : List Nat} (h : RowD H a es) (hb : RowAt H b r) : DGet H a (.ref b) (lkp es r) := by
  rw [← valV_rk]
  exact DGet.t h (by rw [rk_rv]; exact hb)
theorem rd_val {H : Hp} {a b : Addr} {es : RE} {r : List Nat} {v : V} (h : RowD H a es) (hb : RowAt H b r) (e : lkp es r = some v) : DGet H a (.ref b) (some v) := e ▸ rd_get h hb
theorem rd_put {H : Hp} {a b : Addr} {es : RE} {r : List Nat} (v : V) (h : RowD H a es) (hb : RowAt H b r) (hl : es.length < sizeLine) : DPut H a (.ref b) v (upd H a (.dT (rkE (insR es r v)))) := by
  rw [← putK_rk]
  exact DPut.t h (by rw [rk_rv]; exact hb) (by unfold rkE; rw [List.length_map]; exact hl)
theorem lkp_none {es : RE} {r : List Nat} : lkp es r = none ↔ r ∉ es.map (·.1) := by
  unfold lkp
  rw [Option.map_eq_none_iff, List.find?_eq_none]
  simp only [List.mem_map, not_exists, not_and, decide_eq_true_eq]
theorem lkp_some {es : RE} {r : List Nat} : (lkp es r).isSome = decide (r ∈ es.map (·.1)) := by
  cases h : lkp es r with
  | none => rw [decide_eq_false (lkp_none.mp h)]; rfl
  | some v =>
    by_cases hm : r ∈ es.map (·.1)
    · rw [decide_eq_true hm]; rfl
    · rw [lkp_none.mpr hm] at h; cases h
theorem insR_new {es : RE} {r : List Nat} (v : V) (h : r ∉ es.map (·.1)) : insR es r v = es ++ [(r, v)] := by
  unfold insR
  rw [if_neg]
  intro z
  obtain ⟨e, he, hd⟩ := List.any_eq_true.mp z
  exact h (List.mem_map.mpr ⟨e, he, of_decide_eq_true hd⟩)
theorem insR_keys (es : RE) (r : List Nat) (v : V) : (insR es r v).map (·.1) = addR (es.map (·.1)) r := by
  unfold insR addR
  by_cases hm : r ∈ es.map (·.1)
  · rw [if_pos hm]
    split
    · rw [List.map_map]
      apply List.map_congr_left
      intro e _
      simp only [Function.comp]
      split <;> rfl
    · rename_i hz
      obtain ⟨e, he, hr⟩ := List.mem_map.mp hm
      exact absurd (List.any_eq_true.mpr ⟨e, he, decide_eq_true hr⟩) hz
  · rw [if_neg hm]
    split
    · rename_i hz
      obtain ⟨e, he, hd⟩ := List.any_eq_true.mp hz
      exact absurd (List.mem_map.mpr ⟨e, he, of_decide_eq_true hd⟩) hm
    · rw [List.map_append]
      rfl
theorem insR_len (es : RE) (r : List Nat) (v : V) : (insR es r v).length ≤ es.length + 1 := by
  unfold insR
  split
  · rw [List.length_map]; omega
  · rw [List.length_append]; simp
/-- all but one stay -/
def SameX (x : Addr) (H H' : Hp) : Prop := ∀ b o, b ≠ x → H b = some o → H' b = some o
theorem SameX.refl (x : Addr) (H : Hp) : SameX x H H := fun _ _ _ e => e
theorem SameX.trans {x : Addr} {H H1 H2 : Hp} (a : SameX x H H1) (b : SameX x H1 H2) : SameX x H H2 := fun c o n e => b c o n (a c o n e)
theorem SameX.of {x : Addr} {H H' : Hp} (s : Same H H') : SameX x H H' := fun b o _ e => s b o e
theorem SameX.upd {x : Addr} {H : Hp} (o : HO) : SameX x H (upd H x o) := fun b u n e => (upd_ne n).trans e
theorem SameX.same {x : Addr} {H H1 H2 : Hp} (a : Same H H1) (n : H x = none) (b : SameX x H1 H2) : Same H H2 := fun c o e => b c o (ne_of_none e n) (a c o e)
theorem SameX.keep {x : Addr} {H H' : Hp} {o : HO} (s : SameX x H H') (h : H x = some o) (n : ¬ Fixd o) : Keep H H' := fun b u e f => s b u (fun z => by subst z; rw [h] at e; cases e; exact n f) e
theorem Keep.upd {x : Addr} {H : Hp} {o u : HO} (h : H x = some o) (n : ¬ Fixd o) : Keep H (upd H x u) := SameX.keep (SameX.upd u) h n
/-- rows at a list of places -/
abbrev RL := List (Addr × List Nat)
def RowsAt (H : Hp) (rl : RL) : Prop := ∀ e ∈ rl, RowAt H e.1 e.2
def refs (rl : RL) : List V := rl.map fun e => V.ref e.1
theorem RowsAt.to {H H' : Hp} {rl : RL} (h : RowsAt H rl) (s : Keep H H') : RowsAt H' rl := fun e he => (h e he).to s
theorem refs_len (rl : RL) : (refs rl).length = rl.length := List.length_map _
theorem refs_get {rl : RL} {i : Nat} {x : V} (h : (refs rl)[i]? = some x) : ∃ e, rl[i]? = some e ∧ x = .ref e.1 := by
  unfold refs at h
  rw [List.getElem?_map] at h
  cases e : rl[i]? with
  | none => rw [e] at h; cases h
  | some e' => rw [e] at h; exact ⟨e', rfl, (Option.some.inj h).symm⟩
theorem refs_get' {rl : RL} {i : Nat} {e : Addr × List Nat} (h : rl[i]? = some e) : (refs rl)[i]? = some (.ref e.1) := by
  unfold refs
  rw [List.getElem?_map, h]
  rfl
theorem refs_app (a b : RL) : refs (a ++ b) = refs a ++ refs b := List.map_append
/-- a table of costs -/
structure CostA where
  o : Addr
  dx : Addr
  fa : Addr
  pp : Addr
  dp : Addr
def fdE (p : Par) (fd : List (List Nat)) : RE := fd.map fun r => (r, V.int (cost p r : Int))
structure CostsAt (c : Cs) (H : Hp) (a : CostA) (p : Par) (L : Nat) (fd : List (List Nat)) : Prop where
  ob : H a.o = some (.ins c.costs a.dx [("losses", .int (L : Int)), ("prices", .ref a.pp), ("in_a_row", .bl p.q), ("found", .ref a.fa)])
  pr : PriceAt c H a.pp a.dp p.pa p.ps
  fa : RowD H a.fa (fdE p fd)
  fd : Fd p.q (L + 1) fd
  hL : L ≤ 3
theorem CostsAt.to {c : Cs} {H H' : Hp} {a : CostA} {p : Par} {L : Nat} {fd : List (List Nat)} (h : CostsAt c H a p L fd) (s : Same H H') : CostsAt c H' a p L fd :=
  ⟨s _ _ h.ob, h.pr.to (Same.x s), s _ _ h.fa, h.fd, h.hL⟩
theorem CostsAt.keep {c : Cs} {H H' : Hp} {a : CostA} {p : Par} {L : Nat} {fd : List (List Nat)} (h : CostsAt c H a p L fd) (s : Keep H H') (e : H' a.fa = H a.fa) : CostsAt c H' a p L fd :=
  ⟨s _ _ h.ob (.ins ..), h.pr.to s, e.trans h.fa, h.fd, h.hL⟩
theorem not_lst {xs : List V} : ¬ Fixd (.lst xs) := fun z => by cases z
theorem not_dT {kvs : List (List Key × V)} : ¬ Fixd (.dT kvs) := fun z => by cases z
theorem lst_ne {H : Hp} {a b : Addr} {xs : List V} {o : HO} (h : H a = some (.lst xs)) (h2 : H b = some o) (n : ∀ ys, o ≠ .lst ys) : b ≠ a := fun z => by
  subst z
  rw [h] at h2
  exact n xs (Option.some.inj h2).symm
theorem fdE_keys (p : Par) (fd : List (List Nat)) : (fdE p fd).map (·.1) = fd := by
  unfold fdE
  rw [List.map_map]
  exact (List.map_congr_left (fun _ _ => rfl)).trans (List.map_id _)
theorem fdE_lkp {p : Par} {fd : List (List Nat)} {r : List Nat} (h : r ∈ fd) : lkp (fdE p fd) r = some (.int (cost p r : Int)) := by
  unfold lkp fdE
  induction fd with
  | nil => simp at h
  | cons x fd ih =>
    rw [List.map_cons, List.find?_cons]
    by_cases e : x = r
    · rw [decide_eq_true (show (x, V.int (cost p x : Int)).1 = r from e), e]
      rfl
    · rw [decide_eq_false (show ¬ (x, V.int (cost p x : Int)).1 = r from e)]
      exact ih ((List.mem_cons.mp h).resolve_left fun z => e z.symm)
theorem fdE_add (p : Par) (fd : List (List Nat)) (r : List Nat) : fdE p (fd ++ [r]) = fdE p fd ++ [(r, .int (cost p r : Int))] := by
  unfold fdE
  rw [List.map_append]
  rfl
theorem fdE_len (p : Par) (fd : List (List Nat)) : (fdE p fd).length = fd.length := List.length_map _
theorem Fd.few {q : Bool} {L : Nat} {fd : List (List Nat)} (h : Fd q L fd) (hL : L ≤ 4) : fd.length ≤ 390625 := WP.few hL h.nd h.ok
theorem small_m {n : Nat} (h : n ≤ 5000000) : n < sizeLine := by
  have : (5000000 : Nat) < sizeLine := by decide
  omega
end Wp
set_option Elab.async false
set_option linter.all false
set_option maxRecDepth 100000
set_option maxHeartbeats 2000000
/-! WpD2: whole numbers, rows: is_integer, check_number, is_row, check_row, after_answer, after_silence. -/
namespace Wp
open PySem PySem.Spec PyProof.Rows L2 WP
/-- what stood before -/
def pvv (c : Nat) (s : List Nat) : Nat → Nat
  | 0 => c
  | i + 1 => s.getD i 0
theorem sil0_get : ∀ {r s : List Nat} {c i n m : Nat}, r[i]? = some n → s[i]? = some m → (sil0 c r s)[i]? = some (n - m + pvv c s i)
  | [], _, _, _, _, _, h, _ => by simp at h
  | _ :: _, [], _, _, _, _, _, h => by simp at h
  | a :: r, b :: s, c, 0, n, m, h1, h2 => by
    have e1 : a = n := by simpa using h1
    have e2 : b = m := by simpa using h2
    subst e1 e2
    rfl
  | a :: r, b :: s, c, i + 1, n, m, h1, h2 => by
    have ih := sil0_get (r := r) (s := s) (c := b) (i := i) (n := n) (m := m) (by simpa using h1) (by simpa using h2)
    simp only [sil0, List.getElem?_cons_succ]
    rw [ih]
    cases i with
    | zero => rfl
    | succ i => simp [pvv]
def spII : Sp := fun vs H Q _ => ∃ n : Int, vs = [.int n] ∧ Q (.bl true) H
/-- a number within its ends -/
def spCN : Sp := fun vs H Q _ => ∃ (z : Str) (n lo : Int) (hi : V), vs = [.str z, .int n, .int lo, hi] ∧ lo ≤ n ∧ (∃ h, hi = .int h ∧ n ≤ h) ∧ Q (.int n) H
def spIR : Sp := fun vs H Q _ => ∃ (a : Addr) (r : List Nat) (L : Nat), vs = [.ref a] ∧ RowAt H a r ∧ Ok L r ∧ L ≤ 4 ∧ Q (.bl true) H
def spCR : Sp := fun vs H Q _ => ∃ (a : Addr) (r : List Nat) (L : Nat), vs = [.ref a] ∧ RowAt H a r ∧ Ok L r ∧ L ≤ 4 ∧ Q (.ref a) H
def spAA : Sp := fun vs H Q _ => ∃ (a : Addr) (r : List Nat) (b : Nat) (q : Bool), vs = [.ref a, .int b, .bl q] ∧ RowAt H a r ∧ r.length ≤ 4 ∧ r ≠ [] ∧ ∀ p H', Same H H' → RowAt H' p (ans q r b) → Q (.ref p) H'
def spAS : Sp := fun vs H Q _ => ∃ (a : Addr) (r : List Nat) (b : Nat), vs = [.ref a, .int b] ∧ RowAt H a r ∧ r.length ≤ 4 ∧ ∀ p H', Same H H' → RowAt H' p (sil r b) → Q (.ref p) H'
section
variable {P : Program} {w : World} {K : PySem.W.Frag} {mg : Str → Option Value} {base : Heap} {c : Cs}
theorem scII : FnScope ["value"] ["value"] (defScope (topS 13)) := ⟨rfl, rfl, rfl, by decide +kernel, rfl, by decide +kernel, by decide +kernel⟩
theorem scCN : FnScope ["what", "value", "low", "high"] ["what", "value", "low", "high"] (defScope (topS 14)) := ⟨rfl, rfl, rfl, by decide +kernel, rfl, by decide +kernel, by decide +kernel⟩
theorem scIR : FnScope ["value", "number"] ["value"] (defScope (topS 18)) := ⟨rfl, rfl, rfl, by decide +kernel, rfl, by decide +kernel, by decide +kernel⟩
theorem scCR : FnScope ["row"] ["row"] (defScope (topS 19)) := ⟨rfl, rfl, rfl, by decide +kernel, rfl, by decide +kernel, by decide +kernel⟩
theorem scAA : FnScope ["row", "below", "in_a_row", "rest"] ["row", "below", "in_a_row"] (defScope (topS 21)) := ⟨rfl, rfl, rfl, by decide +kernel, rfl, by decide +kernel, by decide +kernel⟩
theorem scAS : FnScope ["row", "below", "rest", "found", "before", "number", "still"] ["row", "below"] (defScope (topS 22)) := ⟨rfl, rfl, rfl, by decide +kernel, rfl, by decide +kernel, by decide +kernel⟩

theorem cal_ii (T : Txt K mg c) : C8.Cal P w K mg base 1 "is_integer" spII [] := by
  refine cal_mk T.is_integer scII (fun _ _ _ _ _ _ us hl => match us, hl with | [_], _ => rfl) (fun vs H Q E h => ?_) (fun f cdv A outer s H vs Q E hr h => ?_)
  · obtain ⟨n, rfl, _⟩ := h
    rfl
  obtain ⟨n, rfl, q⟩ := h
  refine ⟨_, (pss_one (ps_ret (pe_and (pe_callB call_isi (by rfl) T.bIsi (by decide +kernel) (pa_cons (pv 0) (pa_cons (pe_bltn (v := .ty "int") (u := .type "int") rfl T.bInt (by decide +kernel) rfl) pa_nil))) (pe_one (pe_not (pe_callB call_isi (by rfl) T.bIsi (by decide +kernel) (pa_cons (pv 0) (pa_cons (pe_bltn (v := .ty "bool") (u := .type "bool") rfl T.bBool (by decide +kernel) rfl) pa_nil)))))))), ?_⟩
  refine ⟨_, rfl, _, _, _, _, _, rfl, .ty _, .base (.int _), kit_ty (r := true) (by decide +kernel), true, rfl, iteT ?_⟩
  exact ⟨_, rfl, _, _, _, _, _, rfl, .ty _, .base (.int _), kit_ty (r := false) (by decide +kernel), false, rfl, q⟩
theorem cal_cn (T : Txt K mg c) : C8.Cal P w K mg base 2 "check_number" spCN [] := by
  refine cal_mk T.check_number scCN (fun _ _ _ _ _ _ us hl => match us, hl with | [_, _, _, _], _ => rfl) (fun vs H Q E h => ?_) (fun f cdv A outer s H vs Q E hr h => ?_)
  · obtain ⟨z, n, lo, hi, rfl, _⟩ := h
    rfl
  obtain ⟨z, n, lo, hi, rfl, h1, ⟨h, rfl, h2⟩, q⟩ := h
  refine ⟨_, (pss_cons (ps_if (PW.pt (pw_or (pt_not (pt_val (C8.pe_c (cal_ii T) hr (by decide) rfl (pa_cons (pv 1) pa_nil)))) (pw_or (pt_cmpR op_lt (pv 1) (pv 2) (nomark _)) (pw_or1 (PW.pt (pw_and (pt_cmpR op_notN (pv 3) pe_non (nomark _)) (pw_and1 (pt_cmpR op_gt (pv 1) (pv 3) (nomark _))))))))) (pss_one ps_never) pss_nil)
    (pss_one (ps_ret (pv 1)))), ?_⟩
  refine ⟨_, rfl, _, rfl, true, rfl, if0 rfl ⟨_, rfl, _, rfl, _, _, rfl, rfl, _, rfl, if0 (decide_eq_false (by omega)) ⟨_, rfl, rfl, _, rfl, iteT ⟨_, rfl, _, rfl, _, _, rfl, rfl, _, rfl, if0 (decide_eq_false (by omega)) ⟨_, rfl, q⟩⟩⟩⟩⟩
theorem cal_ir (T : Txt K mg c) : C8.Cal P w K mg base 2 "is_row" spIR [] := by
  obtain ⟨t1, gLen⟩ := T.gLen
  obtain ⟨t2, gSum⟩ := T.gSum
  refine cal_mk T.is_row scIR (fun _ _ _ _ _ _ us hl => match us, hl with | [_], _ => rfl) (fun vs H Q E h => ?_) (fun f cdv A outer s H vs Q E hr h => ?_)
  · obtain ⟨a, r, L, rfl, _⟩ := h
    rfl
  obtain ⟨a, r, L, rfl, ha, ho, hL, q⟩ := h
  have hl : (rv r).length = r.length := rv_len r
  have o1 := ho.len
  have o2 := ho.pos
  have o3 := ho.top
  have o4 : 1 ≤ r.length := List.length_pos_iff.mpr ho.ne
  refine ⟨_, (pss_cons (ps_if (PW.pt (pw_or (pt_not (pt_val (pe_callB call_isi (by rfl) T.bIsi (by decide +kernel) (pa_cons (pv 0) (pa_cons (pe_bltn (v := .ty "tuple") (u := .type "tuple") rfl T.bTuple (by decide +kernel) rfl) pa_nil))))) (pw_or (pt_cmpR op_lt (pe_callB call_len_seq (by rfl) T.bLen (by decide +kernel) (pa_cons (pv 0) pa_nil)) pe_int (nomark _)) (pw_or1 (pt_cmpR op_gt (pe_callB call_len_seq (by rfl) T.bLen (by decide +kernel) (pa_cons (pv 0) pa_nil)) (pe_glob (v := .int 4) rfl gLen ⟨_, rfl⟩) (nomark _)))))) (pss_one (ps_ret pe_bl)) pss_nil)
    (pss_cons (ps_for PassesOwn.never rfl (pi_tup (pv 0)) (pg_name (i := 1) scIR.nd rfl (.inl rfl))
    (pss_one (ps_if (PW.pt (pw_or (pt_not (pt_val (C8.pe_c (cal_ii T) hr (by decide) rfl (pa_cons (pv 1) pa_nil)))) (pw_or1 (pt_cmpR op_lt (pv 1) pe_int (nomark _))))) (pss_one (ps_ret pe_bl)) pss_nil)))
    (pss_one (ps_ret (pe_chain op_le op_le pe_int (pe_callB (cr_sumT rfl) (by rfl) T.bSum (by decide +kernel) (pa_cons (pv 0) pa_nil)) (pe_glob (v := .int 24) rfl gSum ⟨_, rfl⟩)))))), ?_⟩
  refine ⟨_, rfl, _, _, _, _, _, rfl, .ty _, .base (.tup ha), kit_ty (r := true) (by decide +kernel), true, rfl, if0 rfl ⟨_, rfl, a, _, rfl, .inr (SqT.of ha), _, _, rfl, rfl, _, rfl, if0 (decide_eq_false (by rw [hl]; omega)) ⟨_, rfl, a, _, rfl, .inr (SqT.of ha), _, _, rfl, rfl, _, rfl, if0 (decide_eq_false (by rw [hl]; omega)) ?_⟩⟩⟩
  refine ⟨_, rfl, a, rfl, ⟨_, SqT.of ha⟩, for_tup (K := K) (a := a) (xs := rv r) (fun i σ H' => ∃ c, σ = [some (.ref a), c] ∧ H' = H) ⟨none, rfl, rfl⟩ (fun i σ H' _ ⟨_, _, e⟩ => e ▸ SqT.of ha) ?_ ?_⟩
  · rintro i x σ H' hx ⟨c0, rfl, rfl⟩
    obtain ⟨n, hn2, rfl⟩ := rv_get hx
    refine ⟨_, rfl, ⟨(n : Int), rfl, true, rfl, if0 rfl ⟨_, rfl, _, _, rfl, rfl, _, rfl, if0 (decide_eq_false (by omega)) ⟨_, rfl, rfl⟩⟩⟩⟩
  · rintro σ H' ⟨c0, rfl, rfl⟩
    have e : rv r = (r.map fun n : Nat => (n : Int)).map V.int := rv_ints r
    refine ⟨_, rfl, a, _, rfl, e ▸ SqT.of ha, _, _, rfl, rfl, _, rfl, if1 (decide_eq_true (by rw [sum_ints]; omega)) ⟨_, _, rfl, rfl, ?_⟩⟩
    show Q (.bl (decide ((r.map fun n : Nat => (n : Int)).sum ≤ 24))) H'
    rw [decide_eq_true (by rw [sum_ints]; omega)]
    exact q
theorem cal_cr (T : Txt K mg c) : C8.Cal P w K mg base 3 "check_row" spCR [] := by
  refine cal_mk T.check_row scCR (fun _ _ _ _ _ _ us hl => match us, hl with | [_], _ => rfl) (fun vs H Q E h => ?_) (fun f cdv A outer s H vs Q E hr h => ?_)
  · obtain ⟨a, r, L, rfl, _⟩ := h
    rfl
  obtain ⟨a, r, L, rfl, ha, ho, hL, q⟩ := h
  refine ⟨_, (pss_cons (ps_if (pt_not (pt_val (C8.pe_c (cal_ir T) hr (by decide) rfl (pa_cons (pv 0) pa_nil)))) (pss_one ps_never) pss_nil)
    (pss_one (ps_ret (pv 0)))), ?_⟩
  exact ⟨_, rfl, a, r, L, rfl, ha, ho, hL, true, rfl, if0 rfl ⟨_, rfl, q⟩⟩
theorem cal_aa (T : Txt K mg c) : C8.Cal P w K mg base 2 "after_answer" spAA [] := by
  refine cal_mk T.after_answer scAA (fun _ _ _ _ _ _ us hl => match us, hl with | [_, _, _], _ => rfl) (fun vs H Q E h => ?_) (fun f cdv A outer s H vs Q E hr h => ?_)
  · obtain ⟨a, r, b, q, rfl, _⟩ := h
    rfl
  obtain ⟨a, r, b, qq, rfl, ha, hl, hne, q⟩ := h
  refine ⟨_, (pss_cons (ps_set (i := 3) scAA.nd rfl (.inl rfl) (C8.pe_c (cal_wl T) hr (by decide) rfl (pa_cons (pv 0) (pa_cons (pv 1) pa_nil))))
    (pss_cons (ps_if (pt_val (pv 2)) (pss_one (ps_ret (pe_op op_catT (pe_tup (pa_cons (pe_callB (cr_sumT rfl) (by rfl) T.bSum (by decide +kernel) (pa_cons (pv 3) pa_nil)) pa_nil)) (pe_op op_mulT (pe_tup (pa_cons pe_int pa_nil)) (pe_op op_sub (pe_callB call_len_seq (by rfl) T.bLen (by decide +kernel) (pa_cons (pv 0) pa_nil)) pe_int))))) pss_nil)
    (pss_one (ps_ret (pv 3))))), ?_⟩
  refine ⟨_, rfl, _, rfl, a, r, b, rfl, ha, by omega, fun p H1 s1 n1 e1 => ?_⟩
  refine ⟨_, rfl, qq, rfl, ?_⟩
  have es : rv (wl r b) = ((wl r b).map fun n : Nat => (n : Int)).map V.int := rv_ints _
  cases hq : qq with
  | false => exact iteF ⟨_, rfl, q p H1 s1 (by rw [hq]; exact e1)⟩
  | true =>
    refine iteT ⟨_, rfl, p, _, rfl, es ▸ SqT.of e1, by show 1 ≤ sizeLine; decide, fun t nt => ?_⟩
    have s2 : Same H1 (upd H1 t (.tup [V.int ((wl r b).map fun n : Nat => (n : Int)).sum])) := same_new nt
    have et : upd H1 t (.tup [V.int ((wl r b).map fun n : Nat => (n : Int)).sum]) t = some (.tup [.int (((wl r b).sum : Nat) : Int)]) := by rw [upd_same, sum_ints]
    generalize upd H1 t (.tup [V.int ((wl r b).map fun n : Nat => (n : Int)).sum]) = H2 at s2 et
    refine ⟨by show 1 ≤ sizeLine; decide, fun t2 nt2 => ?_⟩
    have s3 : Same H2 (upd H2 t2 (.tup [V.int 0])) := same_new nt2
    have et2 : upd H2 t2 (.tup [V.int 0]) t2 = some (.tup [V.int 0]) := upd_same
    generalize upd H2 t2 (.tup [V.int 0]) = H3 at s3 et2
    have a3 : H3 a = some (.tup (rv r)) := s3 _ _ (s2 _ _ (s1 _ _ ha))
    have h1 : 1 ≤ r.length := List.length_pos_iff.mpr hne
    refine ⟨_, rfl, a, _, rfl, .inr (SqT.of a3), _, _, rfl, rfl, t2, r.length - 1, [V.int 0], rfl, ?_, SqT.of et2, by simp, by omega, by simp, ?_⟩
    · show V.int (((rv r).length : Int) - 1) = _
      rw [rv_len]
      congr 1
      omega
    have fin : ∀ p3 H4, Same H3 H4 → H4 p3 = some (.tup (List.replicate (r.length - 1) (V.int 0))) → rCatT K (.ref t) (.ref p3) H4 (fun v H5 => Q v H5) := fun p3 H4 s4 e4 => by
      have et4 := s4 _ _ (s3 _ _ et)
      have ez : rv (ans true r b) = [V.int (((wl r b).sum : Nat) : Int)] ++ List.replicate (r.length - 1) (V.int 0) := by
        unfold rv ans
        simp
      refine ⟨t, p3, _, _, rfl, rfl, SqT.of et4, SqT.of e4, by simp, ?_, fun e5 => ?_, fun e5 p4 n4 => ?_⟩
      · rw [List.length_replicate]
        exact Nat.le_of_lt (small1000 (show 1 + (r.length - 1) ≤ 1000 by omega))
      · rw [e5, List.append_nil] at ez
        exact q t H4 (s1.trans (s2.trans (s3.trans s4))) (by unfold RowAt; rw [hq, ez]; exact et4)
      · exact q p4 _ (s1.trans (s2.trans (s3.trans (s4.trans (same_new n4))))) (by unfold RowAt; rw [hq, ez]; exact upd_same)
    refine ⟨fun e1 => ?_, fun e1 p3 n3 => ?_⟩
    · exact fin t2 H3 (Same.refl _) (by rw [et2, e1]; rfl)
    · refine fin p3 _ (same_new n3) ?_
      rw [upd_same]
      congr 2
      generalize r.length - 1 = k
      induction k with
      | zero => rfl
      | succ k ih => simp [List.replicate_succ, ih]
theorem cal_as (T : Txt K mg c) : C8.Cal P w K mg base 2 "after_silence" spAS [] := by
  refine cal_mk T.after_silence scAS (fun _ _ _ _ _ _ us hl => match us, hl with | [_, _], _ => rfl) (fun vs H Q E h => ?_) (fun f cdv A outer s H vs Q E hr h => ?_)
  · obtain ⟨a, r, b, rfl, _⟩ := h
    rfl
  obtain ⟨a, r, b, rfl, ha, hl, q⟩ := h
  refine ⟨_, (pss_cons (ps_set (i := 2) scAS.nd rfl (.inl rfl) (C8.pe_c (cal_wl T) hr (by decide) rfl (pa_cons (pv 0) (pa_cons (pv 1) pa_nil))))
    (pss_cons (ps_set (i := 3) scAS.nd rfl (.inl rfl) (pe_lst pa_nil))
    (pss_cons (ps_set (i := 4) scAS.nd rfl (.inl rfl) pe_int)
    (pss_cons (ps_for PassesOwn.never rfl (RZ.pi_zipA rfl T.bZip (pa_cons (pv 0) (pa_cons (pv 2) pa_nil))) (pg_tup rfl (pgs_cons (pg_name (i := 5) scAS.nd rfl (.inl rfl)) (pgs_cons (pg_name (i := 6) scAS.nd rfl (.inl rfl)) pgs_nil)))
    (pss_cons (ps_expr (pe_bm PySem.F.plainAttrs_list PySem.F.slot_list_append PySem.F.type_list_append mt_append (pv 3) (pa_cons (pe_op op_add (pe_op op_sub (pv 5) (pv 6)) (pv 4)) pa_nil)))
    (pss_one (ps_set (i := 4) scAS.nd rfl (.inl rfl) (pv 6)))))
    (pss_one (ps_ret (pe_callTy call_tuple_of (by rfl) T.bTuple (by decide +kernel) (pa_cons (pv 3) pa_nil)))))))), ?_⟩
  refine ⟨_, rfl, _, rfl, a, r, b, rfl, ha, by omega, fun p H1 s1 n1 e1 => ?_⟩
  refine ⟨Nat.zero_le _, fun l nl => ?_⟩
  have s2 : Same H1 (upd H1 l (.lst [])) := same_new nl
  refine ⟨_, rfl, _, rfl, a, p, _, _, rfl, .inr ⟨SqT.of (s2 _ _ (s1 _ _ ha)), SqT.of (s2 _ _ e1), RZ.for_zipT (xs := rv r) (ys := rv (wl r b)) (by rw [rv_len, rv_len, wl_len])
    (fun i σ H' => ∃ c d, σ = [some (.ref a), some (.int b), some (.ref p), some (.ref l), some (.int (pvv 0 (wl r b) i : Nat)), c, d] ∧ Same H1 H' ∧ H' l = some (.lst (rv ((sil r b).take i))))
    ⟨none, none, rfl, s2, by rw [upd_same]; rfl⟩ (fun i σ H' ⟨_, _, _, s3, _⟩ => ⟨SqT.of (s3 _ _ (s1 _ _ ha)), SqT.of (s3 _ _ e1)⟩) ?_ ?_⟩⟩
  · rintro i x y T0 σ H' hx hy ⟨c0, d0, rfl, s3, hL⟩ nT
    obtain ⟨n, hn, rfl⟩ := rv_get hx
    obtain ⟨m, hm, rfl⟩ := rv_get hy
    have hle : m ≤ n := by
      have := wl_get (b := b) hn
      rw [hm] at this
      have := Option.some.inj this
      omega
    have hi : i < r.length := (List.getElem?_eq_some_iff.mp hn).1
    refine ⟨T0, _, rfl, SqT.of upd_same, rfl, _, _, rfl, _, _, rfl, rfl, ?_⟩
    have nl2 : l ≠ T0 := fun z => by
      rw [← z, hL] at nT
      cases nT
    refine ⟨_, rfl, .inl ⟨rfl, _, SqL.of ((upd_ne nl2).trans hL)⟩, _, rfl, _, rfl, _, _, rfl, rfl, _, rfl, _, _, rfl, rfl, l, _, _, rfl, rfl, (upd_ne nl2).trans hL, ?_, ?_⟩
    · rw [rv_len, List.length_take]
      exact small1000 (by omega)
    · refine ⟨_, rfl, some (.int n), some (.int m), ?_, Same.mut (s3.trans (same_new nT)) nl, ?_⟩
      · have eg : (wl r b).getD i 0 = m := by rw [List.getD_eq_getElem?_getD, hm]; rfl
        show [_, _, _, _, some (V.int (m : Int)), _, _] = [_, _, _, _, some (V.int (((wl r b).getD i 0 : Nat) : Int)), _, _]
        rw [eg]
      · have eg2 : (sil r b)[i]? = some (n - m + pvv 0 (wl r b) i) := sil0_get (c := 0) hn hm
        rw [upd_same, take_snoc eg2, rv_app]
        congr 3
        show [V.int ((n : Int) - (m : Int) + (pvv 0 (wl r b) i : Int))] = [V.int _]
        congr 2
        omega
  · rintro σ H' ⟨c0, d0, rfl, s3, hL⟩
    have e : (sil r b).take (rv r).length = sil r b := by rw [rv_len, ← sil_len r b, List.take_length]
    rw [e] at hL
    exact ⟨_, rfl, l, _, rfl, .inl ⟨SqL.of hL, fun p2 hp => q p2 _ (s1.trans (s3.trans (same_new hp))) upd_same⟩⟩
end
end Wp
set_option Elab.async false
set_option linter.all false
set_option maxRecDepth 100000
set_option maxHeartbeats 2000000
/-! WpD3: Prices, the smaller methods of Costs. -/
namespace Wp
open PySem PySem.Spec PyProof.Rows L2 WP
theorem putF_len (f : Str) (v : V) : ∀ fs : List (Str × V), (putF f v fs).length ≤ fs.length + 1
  | [] => Nat.le_refl _
  | (g, x) :: r => by
    unfold putF
    split
    · simp
    · have := putF_len f v r
      simp only [List.length_cons]
      omega
theorem putF_few {f : Str} {v : V} {fs : List (Str × V)} {n : Nat} (h : fs.length < n) : (putF f v fs).length < n + 1 := by
  have := putF_len f v fs
  omega
/-- Prices.__init__ -/
def spPI (c : Cs) : Sp := fun vs H Q _ => ∃ (x dx : Addr) (a b : Nat), vs = [.ref x, .int a, .int b] ∧ H x = some (.ins c.prices dx []) ∧ a ≤ 100 ∧ b ≤ 100 ∧ 0 < a + b ∧ ∀ H', SameX x H H' → PriceAt c H' x dx a b → Q .non H'
def spCI (c : Cs) : Sp := fun vs H Q _ => ∃ (x dx pp dp : Addr) (L : Nat) (p : Par), vs = [.ref x, .int L, .ref pp, .bl p.q] ∧ H x = some (.ins c.costs dx []) ∧ PriceAt c H pp dp p.pa p.ps ∧ L ≤ 3 ∧ ∀ fa H', H fa = none → SameX x H H' → CostsAt c H' ⟨x, dx, fa, pp, dp⟩ p L [] → Q .non H'
def spCK (c : Cs) : Sp := fun vs H Q _ => ∃ (A : CostA) (a : Addr) (p : Par) (L : Nat) (fd : List (List Nat)) (r : List Nat), vs = [.ref A.o, .ref a] ∧ CostsAt c H A p L fd ∧ RowAt H a r ∧ Ok (L + 1) r ∧ Q .non H
def spBR (c : Cs) : Sp := fun vs H Q _ => ∃ (A : CostA) (a : Addr) (p : Par) (L : Nat) (fd : List (List Nat)) (r : List Nat) (b : Nat), vs = [.ref A.o, .ref a, .int b] ∧ CostsAt c H A p L fd ∧ RowAt H a r ∧ Ok (L + 1) r ∧
  ∀ t p1 p2 H', Same H H' → H' t = some (.tup [.ref p1, .ref p2]) → RowAt H' p1 (ans p.q r b) → RowAt H' p2 (sil r b) → Q (.ref t) H'
def spGR (c : Cs) : Sp := fun vs H Q _ => ∃ (A : CostA) (a : Addr) (p : Par) (L : Nat) (fd : List (List Nat)) (r : List Nat) (b : Nat), vs = [.ref A.o, .ref a, .int b] ∧ CostsAt c H A p L fd ∧ RowAt H a r ∧ Ok (L + 1) r ∧ ans p.q r b ∈ fd ∧ sil r b ∈ fd ∧
  ∀ H', Same H H' → Q (.int ((max (branch p (cost p) r b true) (branch p (cost p) r b false) : Nat) : Int)) H'
section
variable {P : Program} {w : World} {K : PySem.W.Frag} {mg : Str → Option Value} {base : Heap} {c : Cs}
theorem scPI : FnScope ["self", "answer", "silence"] ["self", "answer", "silence"] (defScope (metS 26 0)) := ⟨rfl, rfl, rfl, by decide +kernel, rfl, by decide +kernel, by decide +kernel⟩
theorem scCI : FnScope ["self", "losses", "prices", "in_a_row"] ["self", "losses", "prices", "in_a_row"] (defScope (metS 27 0)) := ⟨rfl, rfl, rfl, by decide +kernel, rfl, by decide +kernel, by decide +kernel⟩
theorem scCK : FnScope ["self", "row"] ["self", "row"] (defScope (metS 27 1)) := ⟨rfl, rfl, rfl, by decide +kernel, rfl, by decide +kernel, by decide +kernel⟩
theorem scBR : FnScope ["self", "row", "below"] ["self", "row", "below"] (defScope (metS 27 2)) := ⟨rfl, rfl, rfl, by decide +kernel, rfl, by decide +kernel, by decide +kernel⟩
theorem scGR : FnScope ["self", "row", "below", "answered", "silent", "one", "two"] ["self", "row", "below"] (defScope (metS 27 3)) := ⟨rfl, rfl, rfl, by decide +kernel, rfl, by decide +kernel, by decide +kernel⟩

theorem init_pi (T : Txt K mg c) : C8.Mak P w K mg base 3 "Prices" c.prices (spPI c) [] := by
  obtain ⟨t1, gPrice⟩ := T.gPrice
  obtain ⟨f, fd, F, hm⟩ := T.pInit.fn
  refine ⟨f, fd, ["self", "answer", "silence"], [], ⟨T.prices.mks, hm.at_, hm.fn, T.prices.kp⟩, F.ok scPI (fun vs H Q E h => ?_) fun cdv A outer s H vs Q E hr h => ?_, T.prices.g, F.bindsN (fun _ _ _ _ _ _ us hl => match us, hl with | [_, _, _], _ => rfl), .nil⟩
  · obtain ⟨x, dx, a, b, rfl, _⟩ := h
    rfl
  obtain ⟨x, dx, a, b, rfl, hx, ha, hb, hab, q⟩ := h
  suffices h : ∃ t, PSs (cxOf CX0 P w K mg base ["self", "answer", "silence"] "Prices.__init__" (defScope (metS 26 0)) f cdv A outer s H E).nox (defBody (metS 26 0)) t ∧ t { nx := fun _ H' => Q .non H', rt := Q } (start ["self", "answer", "silence"] [.ref x, .int a, .int b]) H by
    obtain ⟨t, h1, h2⟩ := h
    exact ⟨t, h1.nox, h2⟩
  refine ⟨_, (pss_cons (ps_fld (pv 0) (C8.pe_c (cal_cn T) hr (by decide) rfl (pa_cons pe_str (pa_cons (pv 1) (pa_cons pe_int (pa_cons (pe_glob (v := .int 100) rfl gPrice ⟨_, rfl⟩) pa_nil))))) rfl)
    (pss_cons (ps_fld (pv 0) (C8.pe_c (cal_cn T) hr (by decide) rfl (pa_cons pe_str (pa_cons (pv 2) (pa_cons pe_int (pa_cons (pe_glob (v := .int 100) rfl gPrice ⟨_, rfl⟩) pa_nil))))) rfl)
    (pss_one (ps_if (PW.pt (pw_and (pt_cmpR op_eq (pv 1) pe_int (nomark _)) (pw_and1 (pt_cmpR op_eq (pv 2) pe_int (nomark _))))) (pss_one ps_never) pss_nil)))), ?_⟩
  refine ⟨_, rfl, _, _, _, _, rfl, by omega, ⟨100, rfl, by omega⟩, _, rfl, x, c.prices, dx, _, rfl, hx, T.prices.cl, T.pN_answer, by simp, ?_⟩
  refine ⟨_, rfl, _, _, _, _, rfl, by omega, ⟨100, rfl, by omega⟩, _, rfl, x, c.prices, dx, _, rfl, upd_same, T.prices.cl, T.pN_silence, putF_few (by simp), ?_⟩
  have e1 : putF "silence" (.int (b : Int)) (putF "answer" (.int (a : Int)) []) = ([("answer", V.int (a : Int)), ("silence", .int (b : Int))] : List (Str × V)) := rfl
  have fin : Q .non (upd (upd H x (.ins c.prices dx (putF "answer" (.int (a : Int)) []))) x (.ins c.prices dx (putF "silence" (.int (b : Int)) (putF "answer" (.int (a : Int)) [])))) := by
    refine q _ (fun b' o n e => ?_) ⟨?_⟩
    · rw [upd_ne n, upd_ne n]; exact e
    · rw [upd_same, e1]
  by_cases h0 : a = 0
  · exact ⟨_, rfl, rfl, _, rfl, if1 (decide_eq_true (by rw [h0]; rfl)) ⟨_, rfl, rfl, _, rfl, if0 (decide_eq_false (fun z => by injection z with z; omega)) fin⟩⟩
  · exact ⟨_, rfl, rfl, _, rfl, if0 (decide_eq_false (fun z => by injection z with z; omega)) (if0 rfl fin)⟩
/-- Costs(losses, prices, in_a_row=..), by its parts -/
theorem fn_ci (T : Txt K mg c) : ∃ (f : Addr) (fd : FuncData), Mk K c.costs f ∧ FunD K "__init__" "Costs.__init__" (defArgs (metS 27 0)) (defBody (metS 27 0)) (defScope (metS 27 0)) [] [("in_a_row", .bl false)] f fd ∧ FnOk P w K mg base CX0 3 f fd ["self", "losses", "prices", "in_a_row"] (spCI c) := by
  obtain ⟨t1, gLoss⟩ := T.gLossC
  obtain ⟨f, fd, F, hm⟩ := T.cInit.fn
  refine ⟨f, fd, ⟨T.costs.mks, hm.at_, hm.fn, T.costs.kp⟩, F, F.ok scCI (fun vs H Q E h => ?_) fun cdv A outer s H vs Q E hr h => ?_⟩
  · obtain ⟨x, dx, pp, dp, L, p, rfl, _⟩ := h
    rfl
  obtain ⟨x, dx, pp, dp, L, p, rfl, hx, hp, hL, q⟩ := h
  suffices h : ∃ t, PSs (cxOf CX0 P w K mg base ["self", "losses", "prices", "in_a_row"] "Costs.__init__" (defScope (metS 27 0)) f cdv A outer s H E).nox (defBody (metS 27 0)) t ∧ t { nx := fun _ H' => Q .non H', rt := Q } (start ["self", "losses", "prices", "in_a_row"] [.ref x, .int L, .ref pp, .bl p.q]) H by
    obtain ⟨t, h1, h2⟩ := h
    exact ⟨t, h1.nox, h2⟩
  refine ⟨_, (pss_cons (ps_fld (pv 0) (C8.pe_c (cal_cn T) hr (by decide) rfl (pa_cons pe_str (pa_cons (pv 1) (pa_cons pe_int (pa_cons (pe_glob (v := .int 3) rfl gLoss ⟨_, rfl⟩) pa_nil))))) rfl)
    (pss_cons (ps_fld (pv 0) (pv 2) rfl)
    (pss_cons (ps_fld (pv 0) (pv 3) rfl)
    (pss_one (ps_fld (pv 0) (pe_dnewT) rfl))))), ?_⟩
  refine ⟨_, rfl, _, _, _, _, rfl, by omega, ⟨3, rfl, by omega⟩, _, rfl, x, c.costs, dx, _, rfl, hx, T.costs.cl, T.cN_losses, by simp, ?_⟩
  refine ⟨_, rfl, _, rfl, x, c.costs, dx, _, rfl, upd_same, T.costs.cl, T.cN_prices, putF_few (by simp), ?_⟩
  refine ⟨_, rfl, _, rfl, x, c.costs, dx, _, rfl, upd_same, T.costs.cl, T.cN_in_a_row, putF_few (putF_few (by simp)), ?_⟩
  intro d nd
  have nx : d ≠ x := fun z => by rw [z, upd_same] at nd; cases nd
  refine ⟨_, rfl, x, c.costs, dx, _, rfl, (upd_ne nx.symm).trans upd_same, T.costs.cl, T.cN_found, putF_few (putF_few (putF_few (by simp))), ?_⟩
  rw [upd_ne nx, upd_ne nx, upd_ne nx] at nd
  refine q d _ nd (fun b' o n e => ?_) ⟨upd_same, ⟨?_⟩, (upd_ne nx).trans upd_same, Fd.nil, hL⟩
  · have n2 : b' ≠ d := ne_of_none e nd
    rw [upd_ne n, upd_ne n2, upd_ne n, upd_ne n, upd_ne n]; exact e
  · have n1 : pp ≠ x := fun z => by rw [z] at hp; have := hp.ob; rw [hx] at this; injection Option.some.inj this with _ _ h3; cases h3
    have n2 : pp ≠ d := ne_of_none hp.ob nd
    rw [upd_ne n1, upd_ne n2, upd_ne n1, upd_ne n1, upd_ne n1]; exact hp.ob
theorem met_ck (T : Txt K mg c) : C8.Met P w K mg base 4 c.costs "check" (spCK c) [] := by
  refine met_mk T.costs.cl T.cCheck scCK (fun _ _ _ _ _ _ us hl => match us, hl with | [_, _], _ => rfl) (fun vs H Q E h => ?_) (fun f cdv A outer s H vs Q E hr h => ?_)
  · obtain ⟨A, a, p, L, fd, r, rfl, _⟩ := h
    rfl
  obtain ⟨C, a, p, L, fd, r, rfl, hC, ha, ho, q⟩ := h
  have hL := hC.hL
  refine ⟨_, (pss_cons (ps_expr (C8.pe_c (cal_cr T) hr (by decide) rfl (pa_cons (pv 1) pa_nil)))
    (pss_one (ps_if (pt_cmpR op_ne (pe_callB call_len_seq (by rfl) T.bLen (by decide +kernel) (pa_cons (pv 1) pa_nil)) (pe_op op_add (pe_fld (pv 0) rfl) pe_int) (nomark _)) (pss_one ps_never) pss_nil))), ?_⟩
  refine ⟨_, rfl, a, r, L + 1, rfl, ha, ho, by omega, ?_⟩
  refine ⟨_, rfl, a, _, rfl, .inr (SqT.of ha), _, rfl, C.o, c.costs, C.dx, _, _, rfl, hC.ob, T.costs.cl, T.cN_losses, rfl, _, _, rfl, rfl, rfl, _, rfl, if0 ?_ q⟩
  show (!decide (V.int ((rv r).length : Int) = V.int ((L : Int) + 1))) = false
  rw [rv_len, ho.len, decide_eq_true (by congr 1)]
  rfl
theorem met_br (T : Txt K mg c) : C8.Met P w K mg base 3 c.costs "branches" (spBR c) [] := by
  refine met_mk T.costs.cl T.cBranches scBR (fun _ _ _ _ _ _ us hl => match us, hl with | [_, _, _], _ => rfl) (fun vs H Q E h => ?_) (fun f cdv A outer s H vs Q E hr h => ?_)
  · obtain ⟨A, a, p, L, fd, r, b, rfl, _⟩ := h
    rfl
  obtain ⟨C, a, p, L, fd, r, b, rfl, hC, ha, ho, q⟩ := h
  have hL := hC.hL
  have hl := ho.len
  refine ⟨_, (pss_one (ps_ret (pe_tup (pa_cons (C8.pe_c (cal_aa T) hr (by decide) rfl (pa_cons (pv 1) (pa_cons (pv 2) (pa_cons (pe_fld (pv 0) rfl) pa_nil)))) (pa_cons (C8.pe_c (cal_as T) hr (by decide) rfl (pa_cons (pv 1) (pa_cons (pv 2) pa_nil))) pa_nil))))), ?_⟩
  refine ⟨_, rfl, _, rfl, _, rfl, C.o, c.costs, C.dx, _, _, rfl, hC.ob, T.costs.cl, T.cN_in_a_row, rfl, a, r, b, p.q, rfl, ha, by omega, ho.ne, fun p1 H1 s1 e1 => ?_⟩
  refine ⟨_, rfl, _, rfl, a, r, b, rfl, s1 _ _ ha, by omega, fun p2 H2 s2 e2 => ?_⟩
  refine ⟨by show 2 ≤ sizeLine; decide, fun t nt => ?_⟩
  exact q t p1 p2 _ (s1.trans (s2.trans (same_new nt))) upd_same (same_new nt _ _ (s2 _ _ e1)) (same_new nt _ _ e2)
theorem met_gr (T : Txt K mg c) : C8.Met P w K mg base 4 c.costs "greater" (spGR c) [] := by
  refine met_mk T.costs.cl T.cGreater scGR (fun _ _ _ _ _ _ us hl => match us, hl with | [_, _, _], _ => rfl) (fun vs H Q E h => ?_) (fun f cdv A outer s H vs Q E hr h => ?_)
  · obtain ⟨A, a, p, L, fd, r, b, rfl, _⟩ := h
    rfl
  obtain ⟨C, a, p, L, fd, r, b, rfl, hC, ha, ho, m1, m2, q⟩ := h
  refine ⟨_, (pss_cons (ps_asg (C8.pe_mt (met_br T) hr (by decide) (pv 0) (pa_cons (pv 1) (pa_cons (pv 2) pa_nil))) (pg_tup rfl (pgs_cons (pg_name (i := 3) scGR.nd rfl (.inl rfl)) (pgs_cons (pg_name (i := 4) scGR.nd rfl (.inl rfl)) pgs_nil))))
    (pss_cons (ps_set (i := 5) scGR.nd rfl (.inl rfl) (pe_op op_add (pe_fld (pe_fld (pv 0) rfl) rfl) (pe_dget (hu_of hr) (pe_fld (pv 0) rfl) (pv 3) (fun _ _ => rfl))))
    (pss_cons (ps_set (i := 6) scGR.nd rfl (.inl rfl) (pe_op op_add (pe_fld (pe_fld (pv 0) rfl) rfl) (pe_dget (hu_of hr) (pe_fld (pv 0) rfl) (pv 4) (fun _ _ => rfl))))
    (pss_one (ps_ret (pe_callB (call_max2 rfl) (by rfl) T.bMax (by decide +kernel) (pa_cons (pe_callTy call_int1 (by rfl) T.bInt (by decide +kernel) (pa_cons (pv 5) pa_nil)) (pa_cons (pe_callTy call_int1 (by rfl) T.bInt (by decide +kernel) (pa_cons (pv 6) pa_nil)) pa_nil)))))))), ?_⟩
  refine ⟨_, rfl, C.o, C.dx, _, rfl, hC.ob, rfl, _, rfl, _, rfl, C, a, p, L, fd, r, b, rfl, hC, ha, ho, fun t p1 p2 H1 s1 e0 e1 e2 => ?_⟩
  have hC1 := hC.to s1
  refine ⟨t, _, rfl, SqT.of e0, rfl, _, _, rfl, _, _, rfl, rfl, ?_⟩
  refine ⟨_, rfl, C.o, c.costs, C.dx, _, _, rfl, hC1.ob, T.costs.cl, T.cN_prices, rfl, C.pp, c.prices, C.dp, _, _, rfl, hC1.pr.ob, T.prices.cl, T.pN_answer, rfl, _, rfl, C.o, c.costs, C.dx, _, _, rfl, hC1.ob, T.costs.cl, T.cN_found, rfl, _, rfl, C.fa, _, rfl, rd_val hC1.fa e1 (fdE_lkp m1), _, _, rfl, rfl, ?_⟩
  refine ⟨_, rfl, C.o, c.costs, C.dx, _, _, rfl, hC1.ob, T.costs.cl, T.cN_prices, rfl, C.pp, c.prices, C.dp, _, _, rfl, hC1.pr.ob, T.prices.cl, T.pN_silence, rfl, _, rfl, C.o, c.costs, C.dx, _, _, rfl, hC1.ob, T.costs.cl, T.cN_found, rfl, _, rfl, C.fa, _, rfl, rd_val hC1.fa e2 (fdE_lkp m2), _, _, rfl, rfl, ?_⟩
  refine ⟨_, rfl, .inl ⟨_, rfl, _, rfl, .inl ⟨_, rfl, _, _, rfl, ?_⟩⟩⟩
  have e := q H1 s1
  have e3 : branch p (cost p) r b true = p.pa + cost p (ans p.q r b) := rfl
  have e4 : branch p (cost p) r b false = p.ps + cost p (sil r b) := rfl
  rw [e3, e4] at e
  have e5 : (if ((p.pa : Int) + (cost p (ans p.q r b) : Nat)) < (p.ps : Int) + (cost p (sil r b) : Nat) then ((p.ps : Int) + (cost p (sil r b) : Nat)) else ((p.pa : Int) + (cost p (ans p.q r b) : Nat))) = ((max (p.pa + cost p (ans p.q r b)) (p.ps + cost p (sil r b)) : Nat) : Int) := by split <;> omega
  rw [← e5] at e
  exact e
end
end Wp
set_option Elab.async false
set_option linter.all false
set_option maxRecDepth 100000
set_option maxHeartbeats 2000000
/-! WpD4: the greater methods of Costs. -/
namespace Wp
open PySem PySem.Spec PyProof.Rows L2 WP
def spMS (c : Cs) : Sp := fun vs H Q _ => ∃ (A : CostA) (a : Addr) (p : Par) (L : Nat) (fd : List (List Nat)) (r : List Nat), vs = [.ref A.o, .ref a] ∧ CostsAt c H A p L fd ∧ RowAt H a r ∧ Ok (L + 1) r ∧
  ∀ (l : Addr) (rl : RL) (H' : Hp), Same H H' → H l = none → H' l = some (.lst (refs rl)) → RowsAt H' rl → rl.map (·.2) = missing p.q fd r → Q (.ref l) H'
/-- a table of costs is filled for a row: all else stays -/
def FillTo (c : Cs) (H H' : Hp) (A : CostA) (p : Par) (L : Nat) (r : List Nat) : Prop := SameX A.fa H H' ∧ ∃ fd, CostsAt c H' A p L fd ∧ r ∈ fd
def spFL (c : Cs) : Sp := fun vs H Q _ => ∃ (A : CostA) (a : Addr) (p : Par) (L : Nat) (fd : List (List Nat)) (r : List Nat), vs = [.ref A.o, .ref a] ∧ CostsAt c H A p L fd ∧ RowAt H a r ∧ Ok (L + 1) r ∧ ∀ H', FillTo c H H' A p L r → Q .non H'
def spCA (c : Cs) : Sp := fun vs H Q _ => ∃ (A : CostA) (a : Addr) (p : Par) (L : Nat) (fd : List (List Nat)) (r : List Nat), vs = [.ref A.o, .ref a] ∧ CostsAt c H A p L fd ∧ RowAt H a r ∧ Ok (L + 1) r ∧ ∀ H', FillTo c H H' A p L r → Q (.int (cost p r : Nat)) H'
def spBE (c : Cs) : Sp := fun vs H Q _ => ∃ (A : CostA) (a : Addr) (p : Par) (L : Nat) (fd : List (List Nat)) (r : List Nat), vs = [.ref A.o, .ref a] ∧ CostsAt c H A p L fd ∧ RowAt H a r ∧ Ok (L + 1) r ∧
  ∀ l H', FillTo c H H' A p L r → H' l = some (.lst (rv ((bs r).filter fun b => decide (max (branch p (cost p) r b true) (branch p (cost p) r b false) = cost p r)))) → Q (.ref l) H'
/-- the values of the costs behind a row -/
def vals (p : Par) (r : List Nat) : List Nat := (bs r).map fun b => max (branch p (cost p) r b true) (branch p (cost p) r b false)
theorem mem_of_missing {q : Bool} {fd : List (List Nat)} {r : List Nat} (h : missing q fd r = []) {b : Nat} (h1 : 1 ≤ b) (h2 : b < r.sum) (a : Bool) : led q r b a ∈ fd := by
  by_cases hz : led q r b a ∈ fd
  · exact hz
  · have : led q r b a ∈ missing q fd r := mem_missing.mpr ⟨hz, b, a, h1, h2, rfl⟩
    rw [h] at this
    simp at this
section
variable {P : Program} {w : World} {K : PySem.W.Frag} {mg : Str → Option Value} {base : Heap} {c : Cs}
theorem scMS : FnScope ["self", "row", "rows", "below", "branch"] ["self", "row"] (defScope (metS 27 4)) := ⟨rfl, rfl, rfl, by decide +kernel, rfl, by decide +kernel, by decide +kernel⟩
theorem scFL : FnScope ["self", "row", "waiting", "now", "rows", "values", "below", "value"] ["self", "row"] (defScope (metS 27 5)) := ⟨rfl, rfl, rfl, by decide +kernel, rfl, by decide +kernel, by decide +kernel⟩
theorem scCA : FnScope ["self", "row"] ["self", "row"] (defScope (metS 27 6)) := ⟨rfl, rfl, rfl, by decide +kernel, rfl, by decide +kernel, by decide +kernel⟩
theorem scBE : FnScope ["self", "row", "below"] ["self", "row"] (defScope (metS 27 7)) := ⟨rfl, rfl, rfl, by decide +kernel, rfl, by decide +kernel, by decide +kernel⟩

theorem met_ms (T : Txt K mg c) : C8.Met P w K mg base 4 c.costs "missing" (spMS c) [] := by
  refine met_mk T.costs.cl T.cMissing scMS (fun _ _ _ _ _ _ us hl => match us, hl with | [_, _], _ => rfl) (fun vs H Q E h => ?_) (fun f cdv A outer s H vs Q E hr h => ?_)
  · obtain ⟨A, a, p, L, fd, r, rfl, _⟩ := h
    rfl
  obtain ⟨C, a, p, L, fd, r, rfl, hC, ha, ho, q⟩ := h
  refine ⟨_, (pss_cons (ps_set (i := 2) scMS.nd rfl (.inl rfl) (pe_lst pa_nil))
    (pss_cons (ps_for PassesOwn.never rfl (pi_range2 rfl T.bRange (pa_cons pe_int (pa_cons (pe_callB (cr_sumT rfl) (by rfl) T.bSum (by decide +kernel) (pa_cons (pv 1) pa_nil)) pa_nil))) (pg_name (i := 3) scMS.nd rfl (.inl rfl))
    (pss_one (ps_expr (pe_bm PySem.F.plainAttrs_list PySem.F.slot_list_extend PySem.F.type_list_extend mt_extend (pv 2) (pa_cons (pe_lc (own := [("branch", 4)]) (g := gName 4) (tt := tB (tDNotIn _ (tFld _ _ _))) rfl scMS.nd (pi_seq (pe_callTy call_list_of (by rfl) T.bList (by decide +kernel) (pa_cons (C8.pe_mt (met_br T) hr (by decide) (pv 0) (pa_cons (pv 1) (pa_cons (pv 3) pa_nil))) pa_nil))) (blkOk_by (N := ["self", "row", "rows", "below", "branch"]) (sc := (defScope (metS 27 4))) (by decide +kernel)) (fun _ _ _ _ _ => (pg_name (i := 4) scMS.nd rfl (.inl rfl))) (fun _ _ _ _ _ => (pts_one (pt_cmp (pc_dnotin (hu_of hr) (pv 4) (pe_fld (pv 0) rfl))))) (fun _ _ _ _ _ => (pv 4))) pa_nil)))))
    (pss_one (ps_ret (pv 2))))), ?_⟩
  refine ⟨Nat.zero_le _, fun l nl => ?_⟩
  have er : rv r = (r.map fun n : Nat => (n : Int)).map V.int := rv_ints r
  have s0 : Same H (upd H l (.lst [])) := same_new nl
  have hlo := ho.top
  refine ⟨_, rfl, a, _, rfl, er ▸ SqT.of (s0 _ _ ha), _, _, rfl, ⟨by decide, by decide, by rw [sum_ints]; omega, by rw [sum_ints]; omega⟩, ?_⟩
  rw [sum_ints]
  refine for_range (lo := 1) (n := ((r.sum : Nat) - 1 : Int).toNat) (fun i σ H' => ∃ (d : Option V) (rl : RL), σ = [some (.ref C.o), some (.ref a), some (.ref l), d, none] ∧ Same H H' ∧ H' l = some (.lst (refs rl)) ∧ RowsAt H' rl ∧ rl.map (·.2) = (((bs r).take i).flatMap fun b => [ans p.q r b, sil r b].filter fun x => decide (x ∉ fd)))
    ⟨none, [], rfl, s0, by rw [upd_same]; rfl, (fun e he => absurd he (by simp)), rfl⟩ ?_ ?_
  · rintro i σ H1 hi ⟨d, rl, rfl, s1, hl, hrl, em⟩
    have hb : (bs r)[i]? = some (1 + i) := bs_get (by omega)
    have hC1 := hC.to s1
    refine ⟨_, rfl, .inl ⟨rfl, _, SqL.of hl⟩, ?_⟩
    refine ⟨_, rfl, C.o, C.dx, _, rfl, hC1.ob, rfl, _, rfl, _, rfl, C, a, p, L, fd, r, 1 + i, by rw [Int.natCast_add]; rfl, hC1, s1 _ _ ha, ho, fun t p1 p2 H2 s2 e0 e1 e2 => ?_⟩
    refine ⟨t, _, rfl, .inr (SqT.of e0), fun l2 nl2 => ⟨l2, _, rfl, .inl ⟨SqL.of upd_same, fun D nD => ?_⟩⟩⟩
    have s3 : Same H2 (upd H2 l2 (.lst [V.ref p1, V.ref p2])) := same_new nl2
    have e3 : upd H2 l2 (.lst [V.ref p1, V.ref p2]) l2 = some (.lst [V.ref p1, V.ref p2]) := upd_same
    generalize upd H2 l2 (.lst [V.ref p1, V.ref p2]) = H3 at s3 e3 nD
    have s4 : Same H3 (upd H3 D (.lst [])) := same_new nD
    have hC3 := hC1.to (s2.trans s3)
    refine lc_list (K := K) (a := l2) (xs := [V.ref p1, V.ref p2]) (fun j H' => Same H3 H' ∧ ∃ rl2 : RL, H' D = some (.lst (refs rl2)) ∧ RowsAt H' rl2 ∧ rl2.map (·.2) = ([ans p.q r (1 + i), sil r (1 + i)].take j).filter fun x => decide (x ∉ fd))
      ⟨s4, [], by rw [upd_same]; rfl, (fun e he => absurd he (by simp)), rfl⟩ (fun j H' _ ⟨s5, _⟩ => SqL.of (s5 _ _ e3)) ?_ ?_
    · rintro j x H4 hx ⟨s5, rl2, hD, hr2, em2⟩
      obtain ⟨pj, y, rfl, hy, hyx⟩ : ∃ pj y, x = V.ref pj ∧ RowAt H3 pj y ∧ [ans p.q r (1 + i), sil r (1 + i)][j]? = some y := by
        match j, hx with
        | 0, hx => exact ⟨p1, _, (Option.some.inj hx).symm, s3 _ _ e1, rfl⟩
        | 1, hx => exact ⟨p2, _, (Option.some.inj hx).symm, s3 _ _ e2, rfl⟩
        | j + 2, hx => cases hx
      have hC4 := hC3.to s5
      refine ⟨rfl, _, rfl, _, rfl, C.o, c.costs, C.dx, _, _, rfl, hC4.ob, T.costs.cl, T.cN_found, rfl, C.fa, _, rfl, rd_get hC4.fa (s5 _ _ hy), _, rfl, ?_⟩
      rw [lkp_some, fdE_keys]
      have ht := take_snoc hyx
      by_cases hm : y ∈ fd
      · rw [decide_eq_true hm]
        refine iteF ⟨s5, rl2, hD, hr2, ?_⟩
        rw [ht, List.filter_append, em2]
        simp [hm]
      · rw [decide_eq_false hm]
        refine iteT ⟨_, rfl, refs rl2, hD, ?_, Same.mut s5 nD, rl2 ++ [(pj, y)], ?_, ?_, ?_⟩
        · have h2 := congrArg List.length em2
          rw [List.length_map] at h2
          have h3 : (([ans p.q r (1 + i), sil r (1 + i)].take j).filter fun x => decide (x ∉ fd)).length ≤ 2 := Nat.le_trans (List.length_filter_le _ _) (by rw [List.length_take]; exact Nat.min_le_right _ _)
          rw [refs_len]
          exact small1000 (by omega)
        · rw [upd_same, refs_app]
          rfl
        · have hk : Keep H4 (upd H4 D (.lst (refs rl2 ++ [V.ref pj]))) := Keep.upd hD not_lst
          intro e he
          rcases List.mem_append.mp he with he | he
          · exact (hr2 e he).to hk
          · rw [List.mem_singleton.mp he]
            exact RowAt.to (s5 _ _ hy) hk
        · rw [ht, List.filter_append, List.map_append, em2]
          simp [hm]
    · rintro H4 ⟨s5, rl2, hD, hr2, em2⟩
      have em3 : rl2.map (·.2) = [ans p.q r (1 + i), sil r (1 + i)].filter fun x => decide (x ∉ fd) := em2
      have s6 : Same H1 H4 := s2.trans (s3.trans s5)
      have hl4 := s6 _ _ hl
      have hlen : rl.length + rl2.length ≤ 1000 := by
        have h1 := congrArg List.length em
        have h2 := congrArg List.length em3
        rw [List.length_map] at h1 h2
        have h3 : ([ans p.q r (1 + i), sil r (1 + i)].filter fun x => decide (x ∉ fd)).length ≤ 2 := List.length_filter_le _ _
        have h4 : ((((bs r).take i).flatMap fun b => [ans p.q r b, sil r b].filter fun x => decide (x ∉ fd))).length ≤ 2 * i := by
          have : ∀ k : List Nat, (k.flatMap fun b => [ans p.q r b, sil r b].filter fun x => decide (x ∉ fd)).length ≤ 2 * k.length := fun k => by
            induction k with
            | nil => exact Nat.le_refl _
            | cons b k ih =>
              rw [List.flatMap_cons, List.length_append, List.length_cons]
              have : ([ans p.q r b, sil r b].filter fun x => decide (x ∉ fd)).length ≤ 2 := List.length_filter_le _ _
              omega
          refine Nat.le_trans (this _) ?_
          rw [List.length_take]
          omega
        omega
      refine ⟨l, D, _, _, rfl, rfl, hl4, hD, ?_, ?_⟩
      · rw [refs_len, refs_len]
        exact Nat.le_of_lt (small1000 hlen)
      · have hk : Keep H4 (upd H4 l (.lst (refs rl ++ refs rl2))) := Keep.upd hl4 not_lst
        refine ⟨_, rl ++ rl2, rfl, Same.mut (s1.trans s6) nl, ?_, ?_, ?_⟩
        · rw [upd_same, refs_app]
        · intro e he
          rcases List.mem_append.mp he with he | he
          · exact (hrl.to (Same.x s6) e he).to hk
          · exact (hr2 e he).to hk
        · rw [List.map_append, em, em3, take_snoc hb, List.flatMap_append]
          simp
  · rintro σ H1 ⟨d, rl, rfl, s1, hl, hrl, em⟩
    have e : (bs r).take ((r.sum : Nat) - 1 : Int).toNat = bs r := List.take_of_length_le (by rw [bs_len]; omega)
    rw [e] at em
    exact ⟨_, rfl, q l rl H1 s1 nl hl hrl em⟩
theorem met_fl (T : Txt K mg c) : C8.Met P w K mg base 5 c.costs "fill" (spFL c) [] := by
  refine met_mk T.costs.cl T.cFill scFL (fun _ _ _ _ _ _ us hl => match us, hl with | [_, _], _ => rfl) (fun vs H Q E h => ?_) (fun f cdv A outer s H vs Q E hr h => ?_)
  · obtain ⟨A, a, p, L, fd, r, rfl, _⟩ := h
    rfl
  obtain ⟨C, a, p, L, fd0, r, rfl, hC, ha, ho, q⟩ := h
  have hL := hC.hL
  refine ⟨_, (pss_cons (ps_set (i := 2) scFL.nd rfl (.inl rfl) (pe_lst (pa_cons (pv 1) pa_nil)))
    (pss_one (ps_while PassesOwn.never (pt_cmpR op_gt (pe_callB call_len_seq (by rfl) T.bLen (by decide +kernel) (pa_cons (pv 2) pa_nil)) pe_int (nomark _))
    (pss_cons (ps_set (i := 3) scFL.nd rfl (.inr rfl) (pe_ix ix_list (pv 2) (pe_un un_neg pe_int) (fun _ _ => rfl)))
    (pss_cons (ps_set (i := 4) scFL.nd rfl (.inl rfl) (pe_ifExp (pt_cmp (pc_din (hu_of hr) (pv 3) (pe_fld (pv 0) rfl))) (pe_lst pa_nil) (C8.pe_mt (met_ms T) hr (by decide) (pv 0) (pa_cons (pv 3) pa_nil))))
    (pss_cons (ps_if (pt_cmpR op_gt (pe_callB call_len_seq (by rfl) T.bLen (by decide +kernel) (pa_cons (pv 4) pa_nil)) pe_int (nomark _)) (pss_cons (ps_expr (pe_bm PySem.F.plainAttrs_list PySem.F.slot_list_extend PySem.F.type_list_extend mt_extend (pv 2) (pa_cons (pe_callTy call_list_of (by rfl) T.bList (by decide +kernel) (pa_cons (pv 4) pa_nil)) pa_nil)))
    (pss_one ps_continue)) pss_nil)
    (pss_cons (ps_expr (pe_bm0 PySem.F.plainAttrs_list PySem.F.slot_list_pop PySem.F.type_list_pop mt_pop (pv 2)))
    (pss_one (ps_if (pt_cmp (pc_dnotin (hu_of hr) (pv 3) (pe_fld (pv 0) rfl))) (pss_cons (ps_setLc (i := 5) (own := [("below", 6)]) (g := gName 6) (tt := tYes) rfl scFL.nd rfl rfl (sw_true rfl rfl rfl (by decide +kernel)) (pi_range2 rfl T.bRange (pa_cons pe_int (pa_cons (pe_callB (cr_sumT rfl) (by rfl) T.bSum (by decide +kernel) (pa_cons (pv 3) pa_nil)) pa_nil))) (blkOk_by (N := ["self", "row", "waiting", "now", "rows", "values", "below", "value"]) (sc := (defScope (metS 27 5))) (by decide +kernel)) (fun _ _ _ _ _ => (pg_name (i := 6) scFL.nd rfl (.inl rfl))) (fun _ _ _ _ _ => pts_nil) (fun _ _ _ _ _ => (pe_callTy call_int1 (by rfl) T.bInt (by decide +kernel) (pa_cons (C8.pe_mt (met_gr T) hr (by decide) (pv 0) (pa_cons (pv 3) (pa_cons (pv 6) pa_nil))) pa_nil))))
    (pss_one (ps_dput (hu_of hr) (pe_fld (pv 0) rfl) (pv 3) (pe_ifExp (pt_cmpR op_gt (pe_callB call_len_seq (by rfl) T.bLen (by decide +kernel) (pa_cons (pv 5) pa_nil)) pe_int (nomark _)) (pe_callB (cr_min rfl) (by rfl) T.bMin (by decide +kernel) (pa_cons (pe_lc (own := [("value", 7)]) (g := gName 7) (tt := tYes) rfl scFL.nd (pi_seq (pv 5)) (blkOk_by (N := ["self", "row", "waiting", "now", "rows", "values", "below", "value"]) (sc := (defScope (metS 27 5))) (by decide +kernel)) (fun _ _ _ _ _ => (pg_name (i := 7) scFL.nd rfl (.inl rfl))) (fun _ _ _ _ _ => pts_nil) (fun _ _ _ _ _ => (pe_callTy call_int1 (by rfl) T.bInt (by decide +kernel) (pa_cons (pv 7) pa_nil)))) pa_nil)) pe_int) rfl))) pss_nil))))))))), ?_⟩
  refine ⟨_, rfl, by show 1 ≤ sizeLine; decide, fun l nl => ?_⟩
  obtain ⟨n0, hn0⟩ := fill_ends p.q (by omega) ho fd0
  have s0 : Same H (upd H l (.lst [V.ref a])) := same_new nl
  refine ⟨fun n σ H' => ∃ (fd : List (List Nat)) (rl : RL) (d1 d2 d3 : Option V), σ = [some (.ref C.o), some (.ref a), some (.ref l), d1, d2, d3, none, none] ∧ Runs p.q 2000000 n (rl.map (·.2)).reverse fd ∧ SameX C.fa H H' ∧ CostsAt c H' C p L fd ∧ H' l = some (.lst (refs rl)) ∧
    RowsAt H' rl ∧ (∀ e ∈ rl, Ok (L + 1) e.2) ∧ (r ∈ fd ∨ r ∈ rl.map (·.2)), ⟨n0, fd0, [(a, r)], none, none, none, rfl, hn0, SameX.of s0, hC.to s0, upd_same, ?_, ?_, .inr (by simp)⟩, ?_⟩
  · intro e he
    rw [List.mem_singleton.mp he]
    exact s0 _ _ ha
  · intro e he
    rw [List.mem_singleton.mp he]
    exact ho
  rintro n σ H1 ⟨fd, rl, d1, d2, d3, rfl, hR, sx, hC1, hl, hrl, hok, hin⟩
  refine ⟨_, rfl, l, _, rfl, .inl (SqL.of hl), _, _, rfl, rfl, _, rfl, ?_⟩
  rw [refs_len]
  rcases List.eq_nil_or_concat rl with e0 | ⟨rl0, ⟨na, now⟩, e0⟩
  · subst e0
    refine if0 (by decide) (q H1 ⟨sx, fd, hC1, hin.resolve_right (by simp)⟩)
  rw [List.concat_eq_append] at e0
  subst e0
  have est : ((rl0 ++ [(na, now)]).map (·.2)).reverse = now :: (rl0.map (·.2)).reverse := by simp
  rw [est] at hR
  have hnow : RowAt H1 na now := hrl _ (List.mem_append_right _ (List.mem_singleton.mpr rfl))
  have onow : Ok (L + 1) now := hok _ (List.mem_append_right _ (List.mem_singleton.mpr rfl))
  have hrl0 : RowsAt H1 rl0 := fun e he => hrl e (List.mem_append_left _ he)
  have hok0 : ∀ e ∈ rl0, Ok (L + 1) e.2 := fun e he => hok e (List.mem_append_left _ he)
  have elst : refs (rl0 ++ [(na, now)]) = refs rl0 ++ [V.ref na] := refs_app _ _
  have nlf : C.fa ≠ l := lst_ne hl hC1.fa (fun ys z => by cases z)
  have hin2 : now ∉ fd → (r ∈ fd ++ [now] ∨ r ∈ rl0.map (·.2)) := fun _ => by
    rcases hin with h | h
    · exact .inl (List.mem_append_left _ h)
    · rw [List.map_append] at h
      rcases List.mem_append.mp h with h | h
      · exact .inr h
      · exact .inl (List.mem_append_right _ h)
  refine if1 (decide_eq_true (by simp)) ?_
  have hget : (rl0 ++ [(na, now)]).length = rl0.length + 1 := by simp
  have Wnow : ∀ {d1' d2' d3' : Option V} {H2 : Hp} {fd' : List (List Nat)} {rl' : RL} {m : Nat}, m < n → Runs p.q 2000000 m (rl'.map (·.2)).reverse fd' → SameX C.fa H H2 → CostsAt c H2 C p L fd' → H2 l = some (.lst (refs rl')) → RowsAt H2 rl' → (∀ e ∈ rl', Ok (L + 1) e.2) → (r ∈ fd' ∨ r ∈ rl'.map (·.2)) → 
      ∃ m' < n, ∃ (fd : List (List Nat)) (rl : RL) (e1 e2 e3 : Option V), [some (V.ref C.o), some (.ref a), some (.ref l), d1', d2', d3', none, none] = [some (.ref C.o), some (.ref a), some (.ref l), e1, e2, e3, none, none] ∧ Runs p.q 2000000 m' (rl.map (·.2)).reverse fd ∧ SameX C.fa H H2 ∧ CostsAt c H2 C p L fd ∧ H2 l = some (.lst (refs rl)) ∧
    RowsAt H2 rl ∧ (∀ e ∈ rl, Ok (L + 1) e.2) ∧ (r ∈ fd ∨ r ∈ rl.map (·.2)) := fun hm r1 r2 r3 r4 r5 r6 r7 => ⟨_, hm, _, _, _, _, _, rfl, r1, r2, r3, r4, r5, r6, r7⟩
  refine ⟨_, fun σ' H' z => z, ?_⟩
  refine ⟨_, rfl, _, rfl, l, _, _, _, rfl, rfl, SqL.of hl, elst ▸ atI_last _ _, ?_⟩
  refine ⟨_, rfl, _, rfl, C.o, c.costs, C.dx, _, _, rfl, hC1.ob, T.costs.cl, T.cN_found, rfl, C.fa, _, rfl, rd_get hC1.fa hnow, _, rfl, ?_⟩
  rw [lkp_some, fdE_keys]
  have hlast : (refs (rl0 ++ [(na, now)]))[(refs (rl0 ++ [(na, now)])).length - 1]? = some (V.ref na) := by
    rw [elst, List.length_append, List.length_singleton, Nat.add_sub_cancel, List.getElem?_append_right (Nat.le_refl _), Nat.sub_self]
    rfl
  have hdrop : (refs (rl0 ++ [(na, now)])).dropLast = refs rl0 := by
    rw [elst]
    exact List.dropLast_concat
  -- the last turn's end: what is popped stands in the table
  have pop : ∀ (H2 : Hp) (l2 : Addr), Same H1 H2 → l2 ≠ l → CostsAt c H2 C p L fd → Keep H2 (upd H2 l (.lst (refs rl0))) ∧ CostsAt c (upd H2 l (.lst (refs rl0))) C p L fd ∧ SameX C.fa H (upd H2 l (.lst (refs rl0))) ∧ upd H2 l (.lst (refs rl0)) l = some (.lst (refs rl0)) ∧ RowsAt (upd H2 l (.lst (refs rl0))) rl0 ∧ RowAt (upd H2 l (.lst (refs rl0))) na now := by
    intro H2 l2 s2 n2 hC2
    have hk : Keep H2 (upd H2 l (.lst (refs rl0))) := Keep.upd (s2 _ _ hl) not_lst
    refine ⟨hk, hC2.keep hk (upd_ne nlf), ?_, upd_same, (hrl0.to (Same.x s2)).to hk, (hnow.to (Same.x s2)).to hk⟩
    intro b o nb e
    rw [upd_ne (ne_of_none e nl)]
    exact s2 _ _ (sx b o nb e)
  cases hR with
  | hit hm hB hR' =>
    rw [decide_eq_true hm]
    refine iteT ⟨Nat.zero_le _, fun l2 nl2 => ?_⟩
    have s2 : Same H1 (upd H1 l2 (.lst [])) := same_new nl2
    have n2 : l2 ≠ l := (ne_of_none hl nl2).symm
    obtain ⟨hk, hC3, sx3, hl3, hr3, hn3⟩ := pop _ l2 s2 n2 (hC1.to s2)
    refine ⟨_, rfl, l2, _, rfl, .inl (SqL.of upd_same), _, _, rfl, rfl, _, rfl, if0 (by decide) ?_⟩
    refine ⟨_, rfl, .inl ⟨rfl, _, SqL.of (s2 _ _ hl)⟩, l, _, _, rfl, rfl, s2 _ _ hl, hlast, ?_⟩
    rw [hdrop]
    refine ⟨_, rfl, _, rfl, C.o, c.costs, C.dx, _, _, rfl, hC3.ob, T.costs.cl, T.cN_found, rfl, C.fa, _, rfl, rd_get hC3.fa hn3, _, rfl, ?_⟩
    rw [lkp_some, fdE_keys, decide_eq_true hm]
    refine if0 rfl (Wnow (Nat.lt_succ_self _) hR' sx3 hC3 hl3 hr3 hok0 ?_)
    rcases hin with h | h
    · exact .inl h
    · rw [List.map_append] at h
      rcases List.mem_append.mp h with h | h
      · exact .inr h
      · exact .inl (by rw [List.mem_singleton.mp h]; exact hm)
  | push hn hne hB hR' =>
    rw [decide_eq_false hn]
    refine iteF ⟨_, rfl, C.o, C.dx, _, rfl, hC1.ob, rfl, _, rfl, C, na, p, L, fd, now, rfl, hC1, hnow, onow, fun m rlm H2 s2 nm em hrm erm => ?_⟩
    have hl2 := s2 _ _ hl
    have hlm : rlm.length = (missing p.q fd now).length := by rw [← erm, List.length_map]
    have hpos : 0 < rlm.length := by
      rw [hlm]
      exact List.length_pos_iff.mpr hne
    refine ⟨_, rfl, m, _, rfl, .inl (SqL.of em), _, _, rfl, rfl, _, rfl, if1 (decide_eq_true (by rw [refs_len]; omega)) ?_⟩
    refine ⟨_, rfl, .inl ⟨rfl, _, SqL.of hl2⟩, _, rfl, m, _, rfl, .inl (SqL.of em), fun m2 nm2 => ?_⟩
    have s3 : Same H2 (upd H2 m2 (.lst (refs rlm))) := same_new nm2
    have em2 : upd H2 m2 (.lst (refs rlm)) m2 = some (.lst (refs rlm)) := upd_same
    generalize upd H2 m2 (.lst (refs rlm)) = H3 at s3 em2
    have hl3 := s3 _ _ hl2
    refine ⟨l, m2, _, _, rfl, rfl, hl3, em2, ?_, ?_⟩
    · rw [refs_len, refs_len, hlm]
      have : (rl0.map (·.2)).reverse.length = rl0.length := by simp
      refine Nat.le_of_lt (small_m ?_)
      rw [hget]
      omega
    · rw [← refs_app]
      have hk : Keep H3 (upd H3 l (.lst (refs ((rl0 ++ [(na, now)]) ++ rlm)))) := Keep.upd hl3 not_lst
      have s4 : Same H1 H3 := s2.trans s3
      refine Wnow (Nat.lt_succ_self _) (by rw [List.map_append, List.reverse_append, erm, est]; exact hR') ?_ ((hC1.to s4).keep hk (upd_ne nlf)) upd_same ?_ ?_ ?_
      · intro b o nb e
        rw [upd_ne (ne_of_none e nl)]
        exact s4 _ _ (sx b o nb e)
      · intro e he
        rcases List.mem_append.mp he with he | he
        · exact ((hrl.to (Same.x s4)).to hk) e he
        · exact ((hrm.to (Same.x s3)).to hk) e he
      · intro e he
        rcases List.mem_append.mp he with he | he
        · exact hok e he
        · have h1 : e.2 ∈ missing p.q fd now := by
            rw [← erm]
            exact List.mem_map.mpr ⟨e, he, rfl⟩
          obtain ⟨_, b, a', h2, h3, h4⟩ := mem_missing.mp h1
          rw [h4]
          exact onow.led p.q h2 h3 a'
      · rcases hin with h | h
        · exact .inl h
        · rw [List.map_append]
          exact .inr (List.mem_append_left _ h)
  | @add n1 _ _ _ hn he hB hR' =>
    rw [decide_eq_false hn]
    refine iteF ⟨_, rfl, C.o, C.dx, _, rfl, hC1.ob, rfl, _, rfl, C, na, p, L, fd, now, rfl, hC1, hnow, onow, fun m rlm H2 s2 nm em hrm erm => ?_⟩
    have hl2 := s2 _ _ hl
    have hnil : rlm = [] := by
      rw [he] at erm
      exact List.map_eq_nil_iff.mp erm
    subst hnil
    have n2 : m ≠ l := (ne_of_none hl nm).symm
    obtain ⟨hk, hC3, sx3, hl3, hr3, hn3⟩ := pop _ m s2 n2 (hC1.to s2)
    refine ⟨_, rfl, m, _, rfl, .inl (SqL.of em), _, _, rfl, rfl, _, rfl, if0 (by decide) ?_⟩
    refine ⟨_, rfl, .inl ⟨rfl, _, SqL.of hl2⟩, l, _, _, rfl, rfl, hl2, hlast, ?_⟩
    rw [hdrop]
    generalize upd H2 l (.lst (refs rl0)) = H3 at hk hC3 sx3 hl3 hr3 hn3
    refine ⟨_, rfl, _, rfl, C.o, c.costs, C.dx, _, _, rfl, hC3.ob, T.costs.cl, T.cN_found, rfl, C.fa, _, rfl, rd_get hC3.fa hn3, _, rfl, ?_⟩
    rw [lkp_some, fdE_keys, decide_eq_false hn]
    refine if1 rfl ?_
    have en : rv now = (now.map fun n : Nat => (n : Int)).map V.int := rv_ints now
    have htop := onow.top
    refine ⟨_, rfl, na, _, rfl, en ▸ SqT.of hn3, _, _, rfl, ⟨by decide, by decide, by rw [sum_ints]; omega, by rw [sum_ints]; omega⟩, fun D nD => ?_⟩
    rw [sum_ints]
    have hvl : (vals p now).length = now.sum - 1 := by
      unfold vals
      rw [List.length_map, bs_len]
    have s4 : Same H3 (upd H3 D (.lst [])) := same_new nD
    -- the table takes the row's cost
    have fin : ∀ H5, Same H3 H5 → ∀ d5 d6 d7 : Option V, ∃ H6, DPut H5 C.fa (.ref na) (.int (cost p now : Nat)) H6 ∧ ∃ m' < n1 + 1, ∃ (fd : List (List Nat)) (rl : RL) (e1 e2 e3 : Option V), [some (V.ref C.o), some (.ref a), some (.ref l), d5, d6, d7, none, none] = [some (.ref C.o), some (.ref a), some (.ref l), e1, e2, e3, none, none] ∧ Runs p.q 2000000 m' (rl.map (·.2)).reverse fd ∧ SameX C.fa H H6 ∧ CostsAt c H6 C p L fd ∧ H6 l = some (.lst (refs rl)) ∧
        RowsAt H6 rl ∧ (∀ e ∈ rl, Ok (L + 1) e.2) ∧ (r ∈ fd ∨ r ∈ rl.map (·.2)) := by
      intro H5 s5 d5 d6 d7
      have hC5 := hC3.to s5
      have few := Wp.Fd.few hC5.fd (by omega)
      refine ⟨_, rd_put _ hC5.fa (s5 _ _ hn3) (by rw [fdE_len]; exact small_m (by omega)), ?_⟩
      rw [insR_new _ (by rw [fdE_keys]; exact hn), ← fdE_add]
      have hk5 : Keep H5 (upd H5 C.fa (.dT (rkE (fdE p (fd ++ [now]))))) := Keep.upd hC5.fa not_dT
      refine Wnow (Nat.lt_succ_self _) hR' ?_ ⟨hk5 _ _ hC5.ob (.ins ..), hC5.pr.to hk5, upd_same, hC5.fd.add onow hn he, hL⟩ ((upd_ne nlf.symm).trans (s5 _ _ hl3)) ((hr3.to (Same.x s5)).to hk5) hok0 (hin2 hn)
      intro b o nb e
      rw [upd_ne nb]
      exact s5 _ _ (sx3 b o nb e)
    refine lc_range (lo := 1) (n := ((now.sum : Nat) - 1 : Int).toNat) (fun i H' => Same H3 H' ∧ H' D = some (.lst (rv ((vals p now).take i)))) ⟨s4, upd_same⟩ ?_ ?_
    · rintro i H4 hi ⟨s5, hD⟩
      have hC4 := hC3.to s5
      have hb : (bs now)[i]? = some (1 + i) := bs_get (by omega)
      have hv : (vals p now)[i]? = some (max (branch p (cost p) now (1 + i) true) (branch p (cost p) now (1 + i) false)) := by
        unfold vals
        rw [List.getElem?_map, hb]
        rfl
      refine ⟨rfl, _, rfl, C.o, C.dx, _, rfl, hC4.ob, rfl, _, rfl, _, rfl, C, na, p, L, fd, now, 1 + i, by rw [Int.natCast_add]; rfl, hC4, s5 _ _ hn3, onow, mem_of_missing he (by omega) (by omega) true, mem_of_missing he (by omega) (by omega) false, fun H5 s6 => .inl ⟨_, rfl, _, s6 _ _ hD, ?_, Same.mut (s5.trans s6) nD, ?_⟩⟩
      · rw [rv_len, List.length_take]
        exact small1000 (by omega)
      · rw [upd_same, take_snoc hv, rv_app]
        rfl
    · rintro H4 ⟨s5, hD⟩
      have et : (vals p now).take ((now.sum : Nat) - 1 : Int).toNat = vals p now := List.take_of_length_le (by omega)
      rw [et] at hD
      have ec : cost p now = minL (vals p now) := cost_eq (by omega) onow
      refine ⟨_, rfl, D, _, rfl, .inl (SqL.of hD), _, _, rfl, rfl, _, rfl, ?_⟩
      rw [rv_len]
      by_cases h0 : 0 < (vals p now).length
      · refine if1 (decide_eq_true (by omega)) ?_
        refine ⟨_, rfl, D, _, rfl, .inl ⟨SqL.of hD, fun D2 nD2 => ?_⟩⟩
        have s6 : Same H4 (upd H4 D2 (.lst [])) := same_new nD2
        refine lc_list (K := K) (a := D) (xs := rv (vals p now)) (fun i H' => Same H4 H' ∧ H' D2 = some (.lst (rv ((vals p now).take i)))) ⟨s6, upd_same⟩ (fun i H' _ ⟨s7, _⟩ => SqL.of (s7 _ _ hD)) ?_ ?_
        · rintro i x H5 hx ⟨s7, hD2⟩
          obtain ⟨n, hn5, rfl⟩ := rv_get hx
          refine ⟨rfl, _, rfl, .inl ⟨_, rfl, _, hD2, ?_, Same.mut s7 nD2, ?_⟩⟩
          · rw [rv_len, List.length_take]
            exact small1000 (by omega)
          · rw [upd_same, take_snoc hn5, rv_app]
            rfl
        · rintro H5 ⟨s7, hD2⟩
          rw [rv_len, List.take_length, rv_ints] at hD2
          refine ⟨D2, _, rfl, SqL.of hD2, by rw [List.length_map]; exact h0, fun m5 hm5 hle5 => ?_⟩
          have em5 : m5 = ((cost p now : Nat) : Int) := by
            obtain ⟨k, hk1, hk2⟩ := List.mem_map.mp hm5
            rw [ec, minL_eq hk1 (fun y hy => ?_), hk2]
            have := hle5 _ (List.mem_map.mpr ⟨y, hy, rfl⟩)
            omega
          rw [em5]
          have hC7 := hC3.to (s5.trans s7)
          refine ⟨_, rfl, C.o, c.costs, C.dx, _, _, rfl, hC7.ob, T.costs.cl, T.cN_found, rfl, _, rfl, C.fa, ?_⟩
          obtain ⟨H6, hp6, q6⟩ := fin H5 (s5.trans s7) _ _ _
          exact ⟨H6, rfl, hp6, q6⟩
      · refine if0 (decide_eq_false (by omega)) ?_
        have e0 : cost p now = 0 := by
          rw [ec, List.eq_nil_of_length_eq_zero (show (vals p now).length = 0 by omega)]
          rfl
        have hC7 := hC3.to s5
        refine ⟨_, rfl, C.o, c.costs, C.dx, _, _, rfl, hC7.ob, T.costs.cl, T.cN_found, rfl, _, rfl, C.fa, ?_⟩
        obtain ⟨H6, hp6, q6⟩ := fin H4 s5 _ _ _
        rw [e0] at hp6
        exact ⟨H6, rfl, hp6, q6⟩
theorem met_ca (T : Txt K mg c) : ∃ g, StX.CallO K c.costs g ∧ FnR P w K mg base CX0 6 g (spCA c) := by
  obtain ⟨f, fd, F, hm, fi⟩ := T.cCall
  refine ⟨f, ⟨hm.at_, hm.fn, fi⟩, fnR_of (F.ok scCA (fun vs H Q E h => ?_) fun cdv A outer s H vs Q E hr h => ?_) (F.bindsN (fun _ _ _ _ _ _ us hl => match us, hl with | [_, _], _ => rfl))⟩
  · obtain ⟨A, a, p, L, fd, r, rfl, _⟩ := h
    rfl
  obtain ⟨C, a, p, L, fd, r, rfl, hC, ha, ho, q⟩ := h
  suffices h : ∃ t, PSs (cxOf CX0 P w K mg base ["self", "row"] "Costs.__call__" (defScope (metS 27 6)) f cdv A outer s H E).nox (defBody (metS 27 6)) t ∧ t { nx := fun _ H' => Q .non H', rt := Q } (start ["self", "row"] [.ref C.o, .ref a]) H by
    obtain ⟨t, h1, h2⟩ := h
    exact ⟨t, h1.nox, h2⟩
  refine ⟨_, (pss_cons (ps_expr (C8.pe_mt (met_ck T) hr (by decide) (pv 0) (pa_cons (pv 1) pa_nil)))
    (pss_cons (ps_expr (C8.pe_mt (met_fl T) hr (by decide) (pv 0) (pa_cons (pv 1) pa_nil)))
    (pss_one (ps_ret (pe_dget (hu_of hr) (pe_fld (pv 0) rfl) (pv 1) (fun _ _ => rfl)))))), ?_⟩
  refine ⟨_, rfl, C.o, C.dx, _, rfl, hC.ob, rfl, _, rfl, C, a, p, L, fd, r, rfl, hC, ha, ho, ?_⟩
  refine ⟨_, rfl, C.o, C.dx, _, rfl, hC.ob, rfl, _, rfl, C, a, p, L, fd, r, rfl, hC, ha, ho, fun H1 hf => ?_⟩
  obtain ⟨sx, fd1, hC1, hin⟩ := id hf
  have hk : Keep H H1 := SameX.keep sx hC.fa not_dT
  exact ⟨_, rfl, C.o, c.costs, C.dx, _, _, rfl, hC1.ob, T.costs.cl, T.cN_found, rfl, _, rfl, C.fa, _, rfl, rd_val hC1.fa (ha.to hk) (fdE_lkp hin), q H1 hf⟩
theorem met_be (T : Txt K mg c) : C8.Met P w K mg base 6 c.costs "best" (spBE c) [] := by
  refine met_mk T.costs.cl T.cBest scBE (fun _ _ _ _ _ _ us hl => match us, hl with | [_, _], _ => rfl) (fun vs H Q E h => ?_) (fun f cdv A outer s H vs Q E hr h => ?_)
  · obtain ⟨A, a, p, L, fd, r, rfl, _⟩ := h
    rfl
  obtain ⟨C, a, p, L, fd, r, rfl, hC, ha, ho, q⟩ := h
  refine ⟨_, (pss_cons (ps_expr (C8.pe_mt (met_ck T) hr (by decide) (pv 0) (pa_cons (pv 1) pa_nil)))
    (pss_cons (ps_expr (C8.pe_mt (met_fl T) hr (by decide) (pv 0) (pa_cons (pv 1) pa_nil)))
    (pss_one (ps_ret (pe_lc (own := [("below", 2)]) (g := gName 2) (tt := tTest (tOp rEq _ (tDGet (tFld _ _ _) _))) rfl scBE.nd (pi_range2 rfl T.bRange (pa_cons pe_int (pa_cons (pe_callB (cr_sumT rfl) (by rfl) T.bSum (by decide +kernel) (pa_cons (pv 1) pa_nil)) pa_nil))) (blkOk_by (N := ["self", "row", "below"]) (sc := (defScope (metS 27 7))) (by decide +kernel)) (fun _ _ _ _ _ => (pg_name (i := 2) scBE.nd rfl (.inl rfl))) (fun _ _ _ _ _ => (pts_one (pt_cmpR op_eq (C8.pe_mt (met_gr T) hr (by decide) (pv 0) (pa_cons (pv 1) (pa_cons (pv 2) pa_nil))) (pe_dget (hu_of hr) (pe_fld (pv 0) rfl) (pv 1) (fun _ _ => rfl)) (nomark _)))) (fun _ _ _ _ _ => (pv 2))))))), ?_⟩
  refine ⟨_, rfl, C.o, C.dx, _, rfl, hC.ob, rfl, _, rfl, C, a, p, L, fd, r, rfl, hC, ha, ho, ?_⟩
  refine ⟨_, rfl, C.o, C.dx, _, rfl, hC.ob, rfl, _, rfl, C, a, p, L, fd, r, rfl, hC, ha, ho, fun H1 hf => ?_⟩
  obtain ⟨sx, fd1, hC1, hin⟩ := id hf
  have hk : Keep H H1 := SameX.keep sx hC.fa not_dT
  have ha1 := ha.to hk
  have er : rv r = (r.map fun n : Nat => (n : Int)).map V.int := rv_ints r
  have htop := ho.top
  refine ⟨_, rfl, a, _, rfl, er ▸ SqT.of ha1, _, _, rfl, ⟨by decide, by decide, by rw [sum_ints]; omega, by rw [sum_ints]; omega⟩, fun D nD => ?_⟩
  rw [sum_ints]
  have s1 : Same H1 (upd H1 D (.lst [])) := same_new nD
  refine lc_range (lo := 1) (n := ((r.sum : Nat) - 1 : Int).toNat) (fun i H' => Same H1 H' ∧ H' D = some (.lst (rv (((bs r).take i).filter fun b => decide (max (branch p (cost p) r b true) (branch p (cost p) r b false) = cost p r))))) ⟨s1, upd_same⟩ ?_ ?_
  · rintro i H2 hi ⟨s2, hD⟩
    have hC2 := hC1.to s2
    have hb : (bs r)[i]? = some (1 + i) := bs_get (by omega)
    refine ⟨rfl, _, rfl, C.o, C.dx, _, rfl, hC2.ob, rfl, _, rfl, _, rfl, C, a, p, L, fd1, r, 1 + i, by rw [Int.natCast_add]; rfl, hC2, s2 _ _ ha1, ho, hC2.fd.cl r hin (1 + i) true (by omega) (by omega), hC2.fd.cl r hin (1 + i) false (by omega) (by omega), fun H3 s3 => ?_⟩
    have hC3 := hC2.to s3
    refine ⟨_, rfl, C.o, c.costs, C.dx, _, _, rfl, hC3.ob, T.costs.cl, T.cN_found, rfl, _, rfl, C.fa, _, rfl, rd_val hC3.fa (s3 _ _ (s2 _ _ ha1)) (fdE_lkp hin), ?_⟩
    refine ⟨rfl, _, rfl, ?_⟩
    have ht := take_snoc hb
    by_cases he : max (branch p (cost p) r (1 + i) true) (branch p (cost p) r (1 + i) false) = cost p r
    · refine if1 (decide_eq_true (by rw [he])) ⟨_, rfl, _, s3 _ _ hD, ?_, Same.mut (s2.trans s3) nD, ?_⟩
      · rw [rv_len]
        refine small1000 ?_
        have h1 := List.length_filter_le (fun b => decide (max (branch p (cost p) r b true) (branch p (cost p) r b false) = cost p r)) ((bs r).take i)
        rw [List.length_take] at h1
        omega
      · rw [upd_same, ht, List.filter_append, rv_app]
        simp only [List.filter_cons, decide_eq_true he, if_true, List.filter_nil]
        rfl
    · refine if0 (decide_eq_false (fun z => he (by injection z with z; omega))) ⟨s2.trans s3, ?_⟩
      rw [ht, List.filter_append, s3 _ _ hD]
      simp [List.filter_cons, decide_eq_false he]
  · rintro H2 ⟨s2, hD⟩
    have et : (bs r).take ((r.sum : Nat) - 1 : Int).toNat = bs r := List.take_of_length_le (by rw [bs_len]; omega)
    rw [et] at hD
    exact q D H2 ⟨fun b o n e => s2 _ _ (sx b o n e), fd1, hC1.to s2, hin⟩ hD
end
end Wp
set_option linter.all false
/-! WpM4: needs of widths, the row of a log, in plain Lean. -/
namespace WP
def needF (L : Nat) (q : Bool) (w : Nat) : Nat → List (Nat × Bool) → Option Nat
  | lost, [] => some lost
  | lost, (p, a) :: r => if w < p then (if a then none else needF L q w lost r) else if a then needF L q w (if q then 0 else lost) r else if L < lost + 1 then none else needF L q w (lost + 1) r
theorem needF_le {L : Nat} {q : Bool} {w : Nat} : ∀ {ps : List (Nat × Bool)} {lost k : Nat}, lost ≤ L → needF L q w lost ps = some k → k ≤ L
  | [], lost, k, hl, h => by
    rw [← Option.some.inj h]
    exact hl
  | (p, a) :: r, lost, k, hl, h => by
    unfold needF at h
    split at h
    · split at h
      · cases h
      · exact needF_le hl h
    · split at h
      · refine needF_le ?_ h
        split
        · exact Nat.zero_le _
        · exact hl
      · split at h
        · cases h
        · rename_i hn
          exact needF_le (by omega) h
/-- the widths that can be; their needs; the row -/
def canF (L : Nat) (q : Bool) (ps : List (Nat × Bool)) (ns : List Nat) : List Nat := ns.filter fun w => (needF L q w 0 ps).isSome
def needsF (L : Nat) (q : Bool) (ps : List (Nat × Bool)) (ns : List Nat) : List Nat := (canF L q ps ns).map fun w => (needF L q w 0 ps).getD 0
def rowF (L : Nat) (ns : List Nat) : List Nat := (List.range (L + 1)).map fun k => ns.count k
theorem needsF_le {L : Nat} {q : Bool} {ps : List (Nat × Bool)} {ns : List Nat} {k : Nat} (h : k ∈ needsF L q ps ns) : k ≤ L := by
  unfold needsF canF at h
  obtain ⟨w, hw, rfl⟩ := List.mem_map.mp h
  obtain ⟨_, h2⟩ := List.mem_filter.mp hw
  obtain ⟨j, hj⟩ := Option.isSome_iff_exists.mp h2
  rw [hj]
  exact needF_le (Nat.zero_le _) hj
theorem cnt_cons (k n : Nat) (ns : List Nat) : (n :: ns).count k = ns.count k + if n = k then 1 else 0 := by
  rw [List.count_cons]
  by_cases h : n = k
  · simp [h]
  · simp [h]
theorem sum_add (f g : Nat → Nat) : ∀ l : List Nat, (l.map fun k => f k + g k).sum = (l.map f).sum + (l.map g).sum
  | [] => rfl
  | x :: l => by
    simp only [List.map_cons, List.sum_cons, sum_add f g l]
    omega
theorem sum_one (n : Nat) : ∀ m, n < m → ((List.range m).map fun k => if n = k then 1 else 0).sum = 1
  | 0, h => absurd h (Nat.not_lt_zero _)
  | m + 1, h => by
    rw [List.range_succ, List.map_append, List.sum_append]
    by_cases e : n = m
    · subst e
      have z : ((List.range n).map fun k => if n = k then 1 else 0) = List.replicate n 0 := by
        rw [List.eq_replicate_iff]
        refine ⟨by simp, fun b hb => ?_⟩
        obtain ⟨k, hk, rfl⟩ := List.mem_map.mp hb
        rw [if_neg (by have := List.mem_range.mp hk; omega)]
      rw [z]
      simp
    · rw [sum_one n m (by omega)]
      simp [e]
theorem rowF_sum {L : Nat} : ∀ {ns : List Nat}, (∀ k ∈ ns, k ≤ L) → (rowF L ns).sum = ns.length
  | [], _ => by
    unfold rowF
    have z : ((List.range (L + 1)).map fun k => ([] : List Nat).count k) = List.replicate (L + 1) 0 := by
      rw [List.eq_replicate_iff]
      exact ⟨by simp, fun b hb => by
        obtain ⟨k, _, rfl⟩ := List.mem_map.mp hb
        rfl⟩
    rw [z]
    simp
  | n :: ns, h => by
    have ih := rowF_sum (L := L) (ns := ns) fun k hk => h k (List.mem_cons_of_mem _ hk)
    unfold rowF at ih ⊢
    have e : ((List.range (L + 1)).map fun k => (n :: ns).count k) = (List.range (L + 1)).map fun k => ns.count k + if n = k then 1 else 0 := List.map_congr_left fun k _ => cnt_cons k n ns
    rw [e, sum_add, ih, sum_one n (L + 1) (by have := h n (List.mem_cons_self ..); omega)]
    rfl
theorem rowF_len (L : Nat) (ns : List Nat) : (rowF L ns).length = L + 1 := by
  unfold rowF
  simp
theorem rowF_ok {L : Nat} {q : Bool} {ps : List (Nat × Bool)} {ns : List Nat} (h1 : canF L q ps ns ≠ []) (h2 : ns.length ≤ 24) : Ok (L + 1) (rowF L (needsF L q ps ns)) := by
  have hl : (needsF L q ps ns).length = (canF L q ps ns).length := by
    unfold needsF
    rw [List.length_map]
  have hc : (canF L q ps ns).length ≤ ns.length := List.length_filter_le _ _
  have hp : 0 < (canF L q ps ns).length := List.length_pos_iff.mpr h1
  refine ⟨rowF_len _ _, ?_, ?_⟩ <;> rw [rowF_sum fun k hk => needsF_le hk] <;> omega
theorem cntF_map (l : List Nat) : ∀ (m j : Nat), cntF j m l = (List.range' j m).map fun k => l.count k
  | 0, _ => rfl
  | m + 1, j => by
    rw [List.range'_succ, List.map_cons, ← cntF_map l m (j + 1)]
    rfl
theorem rowF_cnt (L : Nat) (ns : List Nat) : rowF L ns = cntF 0 (L + 1) ns := by
  unfold rowF
  rw [cntF_map, List.range_eq_range']
end WP
set_option Elab.async false
set_option linter.all false
set_option maxRecDepth 100000
set_option maxHeartbeats 2000000
/-! WpD5: logs: needs, widths that can be, rows. -/
namespace Wp
open PySem PySem.Spec PyProof.Rows L2 WP
def optV : Option Nat → V
  | some n => .int (n : Int)
  | none => .non
def need (d : LogD) (w : Nat) : Option Nat := needF d.L d.q w 0 d.ps
def can (d : LogD) : List Nat := canF d.L d.q d.ps d.ns
def rowOf (d : LogD) : List Nat := rowF d.L (needsF d.L d.q d.ps d.ns)
/-- the pairs' tuple -/
def TupPs (H : Hp) (pt : Addr) (ps : List (Nat × Bool)) : Prop := ∃ pas : List Addr, H pt = some (.tup (pas.map V.ref)) ∧ PairsAt H pas ps
theorem TupPs.to {H H' : Hp} {pt : Addr} {ps : List (Nat × Bool)} (h : TupPs H pt ps) (k : Keep H H') : TupPs H' pt ps := by
  obtain ⟨pas, h1, h2⟩ := h
  exact ⟨pas, k _ _ h1 (.tup _), h2.to k⟩
theorem LogAt.tp {c : Cs} {H : Hp} {a : LogA} {d : LogD} (h : LogAt c H a d) : TupPs H a.pt d.ps := ⟨a.pas, h.pt, h.ps⟩
theorem pas_get {H : Hp} {pas : List Addr} {ps : List (Nat × Bool)} {i : Nat} {x : V} (h : PairsAt H pas ps) (hx : (pas.map V.ref)[i]? = some x) : ∃ a p, x = .ref a ∧ ps[i]? = some p ∧ H a = some (.tup [.int (p.1 : Int), .bl p.2]) := by
  rw [List.getElem?_map] at hx
  obtain ⟨a, ha, rfl⟩ := Option.map_eq_some_iff.mp hx
  have hi : i < ps.length := by
    rw [← h.1]
    exact (List.getElem?_eq_some_iff.mp ha).1
  exact ⟨a, ps[i], rfl, List.getElem?_eq_getElem hi, h.2 i a _ ha (List.getElem?_eq_getElem hi)⟩
theorem drop_get {α : Type} {l : List α} {i : Nat} {x : α} (h : l[i]? = some x) : l.drop i = x :: l.drop (i + 1) := by
  obtain ⟨h1, h2⟩ := List.getElem?_eq_some_iff.mp h
  rw [List.drop_eq_getElem_cons h1, h2]
def spNO (c : Cs) : Sp := fun vs H Q _ => ∃ (A : LogA) (d : LogD) (pt : Addr) (w : Nat), vs = [.ref A.rd, .ref pt, .int w] ∧ RoadAt c H A d ∧ TupPs H pt d.ps ∧ Q (optV (need d w)) H
def spWLF (c : Cs) : Sp := fun vs H Q _ => ∃ (A : LogA) (d : LogD) (pt : Addr), vs = [.ref A.rd, .ref pt] ∧ RoadAt c H A d ∧ TupPs H pt d.ps ∧ d.ns.length ≤ 24 ∧ ∀ l H', Same H H' → H l = none → H' l = some (.lst (rv (can d))) → Q (.ref l) H'
def spCB (c : Cs) : Sp := fun vs H Q _ => ∃ (A : LogA) (d : LogD), vs = [.ref A.lg] ∧ LogAt c H A d ∧ d.ns.length ≤ 24 ∧ ∀ l H', Same H H' → H l = none → H' l = some (.lst (rv (can d))) → Q (.ref l) H'
def spCP (c : Cs) : Sp := fun vs H Q _ => ∃ (A : LogA) (d : LogD), vs = [.ref A.lg] ∧ LogAt c H A d ∧ d.ns.length ≤ 24 ∧ can d ≠ [] ∧ ∀ l H', Same H H' → H l = none → H' l = some (.lst (rv (can d))) → Q (.ref l) H'
def spRO (c : Cs) : Sp := fun vs H Q _ => ∃ (A : LogA) (d : LogD), vs = [.ref A.lg] ∧ LogAt c H A d ∧ d.ns.length ≤ 24 ∧ d.L ≤ 3 ∧ can d ≠ [] ∧ ∀ p H', Same H H' → RowAt H' p (rowOf d) → Q (.ref p) H'
section
variable {P : Program} {w : World} {K : PySem.W.Frag} {mg : Str → Option Value} {base : Heap} {c : Cs}

theorem scNO : FnScope ["road", "pairs", "width", "lost", "probe", "answered"] ["road", "pairs", "width"] (defScope (topS 52)) := ⟨rfl, rfl, rfl, by decide +kernel, rfl, by decide +kernel, by decide +kernel⟩
theorem scWLF : FnScope ["road", "pairs", "width"] ["road", "pairs"] (defScope (topS 53)) := ⟨rfl, rfl, rfl, by decide +kernel, rfl, by decide +kernel, by decide +kernel⟩
theorem scCB : FnScope ["self"] ["self"] (defScope (metS 54 10)) := ⟨rfl, rfl, rfl, by decide +kernel, rfl, by decide +kernel, by decide +kernel⟩
theorem scCP : FnScope ["self", "widths"] ["self"] (defScope (metS 54 13)) := ⟨rfl, rfl, rfl, by decide +kernel, rfl, by decide +kernel, by decide +kernel⟩
theorem scRO : FnScope ["self", "needs", "width", "need"] ["self"] (defScope (metS 54 14)) := ⟨rfl, rfl, rfl, by decide +kernel, rfl, by decide +kernel, by decide +kernel⟩
theorem cal_no (T : Txt K mg c) : C8.Cal P w K mg base 1 "need_of" (spNO c) [] := by
  refine cal_mk T.need_of scNO (fun _ _ _ _ _ _ us hl => match us, hl with | [_, _, _], _ => rfl) (fun vs H Q E h => ?_) (fun f cdv A outer s H vs Q E hr h => ?_)
  · obtain ⟨A, d, pt, w, rfl, _⟩ := h
    rfl
  obtain ⟨L, d, pt, wd, rfl, hR, ⟨pas, hpt, hps⟩, q⟩ := h
  refine ⟨_, (pss_cons (ps_set (i := 3) scNO.nd rfl (.inl rfl) pe_int)
    (pss_cons (ps_for PassesOwn.never rfl (pi_tup (pv 1)) (pg_tup rfl (pgs_cons (pg_name (i := 4) scNO.nd rfl (.inl rfl)) (pgs_cons (pg_name (i := 5) scNO.nd rfl (.inl rfl)) pgs_nil)))
    (pss_one (ps_if (pt_cmpR op_gt (pv 4) (pv 2) (nomark _)) (pss_one (ps_if (pt_val (pv 5)) (pss_one (ps_ret pe_non)) pss_nil)) (pss_one (ps_if (pt_not (pt_val (pv 5))) (pss_cons (ps_aug (i := 3) scNO.nd rfl (.inl rfl) pe_int ip_add)
    (pss_one (ps_if (pt_cmpR op_gt (pv 3) (pe_fld (pv 0) rfl) (nomark _)) (pss_one (ps_ret pe_non)) pss_nil))) (pss_one (ps_if (pt_val (pe_fld (pv 0) rfl)) (pss_one (ps_set (i := 3) scNO.nd rfl (.inl rfl) pe_int)) pss_nil)))))))
    (pss_one (ps_ret (pv 3))))), ?_⟩
  refine ⟨_, rfl, pt, rfl, ⟨_, SqT.of hpt⟩, for_tup (K := K) (a := pt) (xs := pas.map V.ref) (fun i σ H' => ∃ (lost : Nat) (e1 e2 : Option V), σ = [some (.ref L.rd), some (.ref pt), some (.int wd), some (.int (lost : Nat)), e1, e2] ∧ H' = H ∧ need d wd = needF d.L d.q wd lost (d.ps.drop i))
    ⟨0, none, none, rfl, rfl, rfl⟩ (fun i σ H' _ ⟨_, _, _, _, e, _⟩ => e ▸ SqT.of hpt) ?_ ?_⟩
  · rintro i x σ H' hx ⟨lost, e1, e2, rfl, rfl, en⟩
    obtain ⟨a, ⟨p, b⟩, rfl, hp, ha⟩ := pas_get hps hx
    have ed : d.ps.drop i = (p, b) :: d.ps.drop (i + 1) := drop_get hp
    rw [ed] at en
    refine ⟨a, _, rfl, SqT.of ha, rfl, _, _, rfl, _, _, rfl, rfl, ?_⟩
    refine ⟨_, rfl, _, rfl, _, _, rfl, rfl, _, rfl, ?_⟩
    unfold needF at en
    by_cases h1 : wd < p
    · rw [if_pos h1] at en
      refine if1 (decide_eq_true (by omega)) ⟨_, rfl, b, rfl, ?_⟩
      cases b with
      | true =>
        refine if1 rfl ?_
        rw [if_pos rfl] at en
        rw [en] at q
        exact q
      | false =>
        refine if0 rfl ?_
        rw [if_neg Bool.false_ne_true] at en
        exact ⟨lost, _, _, rfl, rfl, en⟩
    · rw [if_neg h1] at en
      refine if0 (decide_eq_false (by omega)) ⟨_, rfl, b, rfl, ?_⟩
      cases b with
      | false =>
        rw [if_neg Bool.false_ne_true] at en
        refine if1 rfl ⟨_, rfl, _, _, rfl, rfl, _, rfl, _, rfl, L.rd, c.road, L.dr, _, _, rfl, hR.rd, T.road.cl, T.rN_losses, rfl, _, _, rfl, rfl, _, rfl, ?_⟩
        by_cases h2 : d.L < lost + 1
        · rw [if_pos h2] at en
          rw [en] at q
          exact if1 (decide_eq_true (show (d.L : Int) < (lost : Int) + 1 by omega)) q
        · rw [if_neg h2] at en
          exact if0 (decide_eq_false (show ¬ (d.L : Int) < (lost : Int) + 1 by omega)) ⟨lost + 1, _, _, rfl, rfl, en⟩
      | true =>
        rw [if_pos rfl] at en
        refine if0 rfl ⟨_, rfl, L.rd, c.road, L.dr, _, _, rfl, hR.rd, T.road.cl, T.rN_in_a_row, rfl, d.q, rfl, ?_⟩
        cases hq : d.q with
        | true =>
          rw [hq, if_pos rfl] at en
          exact if1 rfl ⟨0, _, _, rfl, rfl, en⟩
        | false =>
          rw [hq, if_neg Bool.false_ne_true] at en
          exact if0 rfl ⟨lost, _, _, rfl, rfl, en⟩
  · rintro σ H' ⟨lost, e1, e2, rfl, rfl, en⟩
    have hl : (pas.map V.ref).length = d.ps.length := by rw [List.length_map]; exact hps.1
    rw [hl, List.drop_length] at en
    rw [en] at q
    exact ⟨_, rfl, q⟩
theorem can_snoc {d : LogD} {i n : Nat} (h : d.ns[i]? = some n) : canF d.L d.q d.ps (d.ns.take (i + 1)) = canF d.L d.q d.ps (d.ns.take i) ++ if (need d n).isSome then [n] else [] := by
  unfold canF
  rw [take_snoc h, List.filter_append, List.filter_cons]
  rfl
theorem cal_wlf (T : Txt K mg c) : C8.Cal P w K mg base 2 "widths_left" (spWLF c) [] := by
  refine cal_mk T.widths_left scWLF (fun _ _ _ _ _ _ us hl => match us, hl with | [_, _], _ => rfl) (fun vs H Q E h => ?_) (fun f cdv A outer s H vs Q E hr h => ?_)
  · obtain ⟨A, d, pt, rfl, _⟩ := h
    rfl
  obtain ⟨L, d, pt, rfl, hR, hpt, hlen, q⟩ := h
  refine ⟨_, (pss_one (ps_ret (pe_lc (own := [("width", 2)]) (g := gName 2) (tt := tTest (tOp _ _ _)) rfl scWLF.nd (pi_tup (pe_fld (pe_fld (pv 0) rfl) rfl)) (blkOk_by (N := ["road", "pairs", "width"]) (sc := (defScope (topS 53))) (by decide +kernel)) (fun _ _ _ _ _ => (pg_name (i := 2) scWLF.nd rfl (.inl rfl))) (fun _ _ _ _ _ => (pts_one (pt_cmpR op_notN (C8.pe_c (cal_no T) hr (by decide) rfl (pa_cons (pv 0) (pa_cons (pv 1) (pa_cons (pv 2) pa_nil)))) pe_non (nomark _)))) (fun _ _ _ _ _ => (pv 2))))), ?_⟩
  refine ⟨_, rfl, L.rd, c.road, L.dr, _, _, rfl, hR.rd, T.road.cl, T.rN_widths, rfl, L.wd, c.widths, L.dw, _, _, rfl, hR.wd, T.widths.cl, T.wN_numbers, rfl, L.nt, rfl, ⟨_, SqT.of hR.nt⟩, fun D nD => ?_⟩
  have s1 : Same H (upd H D (.lst [])) := same_new nD
  refine lc_tup (K := K) (a := L.nt) (xs := rv d.ns) (fun i H' => Same H H' ∧ H' D = some (.lst (rv (canF d.L d.q d.ps (d.ns.take i))))) ⟨s1, upd_same⟩ (fun i H' _ ⟨s2, _⟩ => SqT.of (s2 _ _ hR.nt)) ?_ ?_
  · rintro i x H1 hx ⟨s2, hD⟩
    obtain ⟨n, hn, rfl⟩ := rv_get hx
    refine ⟨rfl, _, rfl, _, rfl, _, rfl, L, d, pt, n, rfl, hR.to (Same.x s2), hpt.to (Same.x s2), rfl, _, rfl, ?_⟩
    have hc := can_snoc hn
    cases hz : need d n with
    | none =>
      rw [hz] at hc
      refine if0 rfl ⟨s2, ?_⟩
      rw [hc, hD]
      simp
    | some k =>
      rw [hz] at hc
      refine if1 rfl ⟨_, rfl, _, hD, ?_, Same.mut s2 nD, ?_⟩
      · rw [rv_len]
        refine small1000 ?_
        have h1 : (canF d.L d.q d.ps (d.ns.take i)).length ≤ (d.ns.take i).length := List.length_filter_le _ _
        rw [List.length_take] at h1
        omega
      · rw [upd_same, hc, rv_app]
        rfl
  · rintro H1 ⟨s2, hD⟩
    rw [rv_len, List.take_length] at hD
    exact q D H1 s2 nD hD
theorem met_cb (T : Txt K mg c) : C8.Met P w K mg base 3 c.log "can_be" (spCB c) [] := by
  refine met_mk T.log.cl T.gCan scCB (fun _ _ _ _ _ _ us hl => match us, hl with | [_], _ => rfl) (fun vs H Q E h => ?_) (fun f cdv A outer s H vs Q E hr h => ?_)
  · obtain ⟨A, d, rfl, _⟩ := h
    rfl
  obtain ⟨L, d, rfl, hL, hlen, q⟩ := h
  refine ⟨_, (pss_one (ps_ret (C8.pe_c (cal_wlf T) hr (by decide) rfl (pa_cons (pe_fld (pv 0) rfl) (pa_cons (pe_fld (pv 0) rfl) pa_nil))))), ?_⟩
  exact ⟨_, rfl, L.lg, c.log, L.dx, _, _, rfl, hL.lg, T.log.cl, T.gN_road, rfl, _, rfl, L.lg, c.log, L.dx, _, _, rfl, hL.lg, T.log.cl, T.gN_pairs, rfl, L, d, L.pt, rfl, hL.road, hL.tp, hlen, q⟩
theorem met_cp (T : Txt K mg c) : C8.Met P w K mg base 4 c.log "check_possible" (spCP c) [] := by
  refine met_mk T.log.cl T.gPoss scCP (fun _ _ _ _ _ _ us hl => match us, hl with | [_], _ => rfl) (fun vs H Q E h => ?_) (fun f cdv A outer s H vs Q E hr h => ?_)
  · obtain ⟨A, d, rfl, _⟩ := h
    rfl
  obtain ⟨L, d, rfl, hL, hlen, hne, q⟩ := h
  refine ⟨_, (pss_cons (ps_set (i := 1) scCP.nd rfl (.inl rfl) (C8.pe_mt0 (met_cb T) hr (by decide) (pv 0)))
    (pss_cons (ps_if (pt_cmpR op_eq (pe_callB call_len_seq (by rfl) T.bLen (by decide +kernel) (pa_cons (pv 1) pa_nil)) pe_int (nomark _)) (pss_one ps_never) pss_nil)
    (pss_one (ps_ret (pv 1))))), ?_⟩
  refine ⟨_, rfl, L.lg, L.dx, _, rfl, hL.lg, rfl, L, d, rfl, hL, hlen, fun l H1 s1 nl hl => ?_⟩
  refine ⟨_, rfl, l, _, rfl, .inl (SqL.of hl), rfl, _, rfl, if0 (decide_eq_false fun z => ?_) ⟨_, rfl, q l H1 s1 nl hl⟩⟩
  injection z with z
  rw [rv_len] at z
  exact hne (List.eq_nil_of_length_eq_zero (by omega))
theorem cnt_int (k : Nat) : ∀ ns : List Nat, (ns.map fun n : Nat => (n : Int)).count (k : Int) = ns.count k
  | [] => rfl
  | n :: ns => by
    rw [List.map_cons, List.count_cons, List.count_cons, cnt_int k ns]
    by_cases h : n = k
    · subst h; simp
    · have h2 : (n : Int) ≠ (k : Int) := fun z => h (by omega)
      simp [h, h2]
theorem met_ro (T : Txt K mg c) : C8.Met P w K mg base 5 c.log "row" (spRO c) [] := by
  refine met_mk T.log.cl T.gRow scRO (fun _ _ _ _ _ _ us hl => match us, hl with | [_], _ => rfl) (fun vs H Q E h => ?_) (fun f cdv A outer s H vs Q E hr h => ?_)
  · obtain ⟨A, d, rfl, _⟩ := h
    rfl
  obtain ⟨L, d, rfl, hL, hlen, hL3, hne, q⟩ := h
  refine ⟨_, (pss_cons (ps_set (i := 1) scRO.nd rfl (.inr rfl) (pe_lc (own := [("width", 2)]) (g := gName 2) (tt := tYes) (te := tCall _ _ _ (tCons (tFld _ _ _) (tCons (tFld _ _ _) _))) rfl scRO.nd (pi_seq (C8.pe_mt0 (met_cp T) hr (by decide) (pv 0))) (blkOk_by (N := ["self", "needs", "width", "need"]) (sc := (defScope (metS 54 14))) (by decide +kernel)) (fun _ _ _ _ _ => (pg_name (i := 2) scRO.nd rfl (.inl rfl))) (fun _ _ _ _ _ => pts_nil) (fun _ _ _ _ _ => (C8.pe_c (cal_no T) hr (by decide) rfl (pa_cons (pe_fld (pv 0) rfl) (pa_cons (pe_fld (pv 0) rfl) (pa_cons (pv 2) pa_nil)))))))
    (pss_one (ps_ret (pe_callTy call_tuple_of (by rfl) T.bTuple (by decide +kernel) (pa_cons (pe_lc (own := [("need", 3)]) (g := gName 3) (tt := tYes) (te := tBM K "list" (rCntI K) _ _) rfl scRO.nd (pi_range1 rfl T.bRange (pa_cons (pe_op op_add (pe_fld (pe_fld (pv 0) rfl) rfl) pe_int) pa_nil)) (blkOk_by (N := ["self", "needs", "width", "need"]) (sc := (defScope (metS 54 14))) (by decide +kernel)) (fun _ _ _ _ _ => (pg_name (i := 3) scRO.nd rfl (.inl rfl))) (fun _ _ _ _ _ => pts_nil) (fun _ _ _ _ _ => (pe_bm PySem.F.plainAttrs_list PySem.F.slot_list_count PySem.F.type_list_count mt_lcount (pv 1) (pa_cons (pv 3) pa_nil)))) pa_nil))))), ?_⟩
  refine ⟨_, rfl, L.lg, L.dx, _, rfl, hL.lg, rfl, L, d, rfl, hL, hlen, hne, fun l H1 s1 nl hl => ⟨l, _, rfl, .inl ⟨SqL.of hl, fun D nD => ?_⟩⟩⟩
  have s2 : Same H1 (upd H1 D (.lst [])) := same_new nD
  refine lc_list (K := K) (a := l) (xs := rv (can d)) (fun i H' => Same H1 H' ∧ H' D = some (.lst (rv ((needsF d.L d.q d.ps d.ns).take i)))) ⟨s2, upd_same⟩ (fun i H' _ ⟨s3, _⟩ => SqL.of (s3 _ _ hl)) ?_ ?_
  · rintro i x H2 hx ⟨s3, hD⟩
    obtain ⟨n, hn, rfl⟩ := rv_get hx
    have hL2 := hL.to (Same.x (s1.trans s3))
    have hsome : (need d n).isSome = true := (List.mem_filter.mp (List.mem_of_getElem? hn)).2
    obtain ⟨k, hk⟩ := Option.isSome_iff_exists.mp hsome
    have hi : i < (can d).length := (List.getElem?_eq_some_iff.mp hn).1
    have hi2 : (can d).length ≤ d.ns.length := List.length_filter_le _ _
    have hg : (needsF d.L d.q d.ps d.ns)[i]? = some k := by
      unfold needsF
      rw [List.getElem?_map, show (canF d.L d.q d.ps d.ns)[i]? = some n from hn]
      show some ((need d n).getD 0) = _
      rw [hk]
      rfl
    refine ⟨rfl, _, rfl, L.lg, c.log, L.dx, _, _, rfl, hL2.lg, T.log.cl, T.gN_road, rfl, _, rfl, L.lg, c.log, L.dx, _, _, rfl, hL2.lg, T.log.cl, T.gN_pairs, rfl, _, rfl, L, d, L.pt, n, rfl, hL2.road, hL2.tp, _, hD, ?_, Same.mut s3 nD, ?_⟩
    · rw [rv_len, List.length_take]
      exact small1000 (by omega)
    · rw [upd_same, take_snoc hg, rv_app, hk]
      rfl
  · rintro H2 ⟨s3, hD⟩
    have hln : (needsF d.L d.q d.ps d.ns).length = (can d).length := by
      unfold needsF
      rw [List.length_map]
      rfl
    rw [rv_len, ← hln, List.take_length] at hD
    have hL2 := hL.to (Same.x (s1.trans s3))
    refine ⟨_, rfl, L.lg, c.log, L.dx, _, _, rfl, hL2.lg, T.log.cl, T.gN_road, rfl, L.rd, c.road, L.dr, _, _, rfl, hL2.road.rd, T.road.cl, T.rN_losses, rfl, _, _, rfl, rfl, (d.L : Int) + 1, rfl, by omega, by omega, fun D2 nD2 => ?_⟩
    have s4 : Same H2 (upd H2 D2 (.lst [])) := same_new nD2
    refine lc_range (lo := 0) (n := ((d.L : Int) + 1).toNat) (fun i H' => Same H2 H' ∧ H' D2 = some (.lst (rv ((rowOf d).take i)))) ⟨s4, upd_same⟩ ?_ ?_
    · rintro i H3 hi ⟨s5, hD2⟩
      have hg : (rowOf d)[i]? = some ((needsF d.L d.q d.ps d.ns).count i) := by
        unfold rowOf rowF
        rw [List.getElem?_map, List.getElem?_range (by omega)]
        rfl
      have hD3 := s5 _ _ hD
      rw [rv_ints] at hD3
      refine ⟨rfl, _, rfl, .inl ⟨rfl, _, SqL.of hD3⟩, _, rfl, D, _, (i : Int), rfl, by rw [Int.zero_add], SqL.of hD3, _, hD2, ?_, Same.mut s5 nD2, ?_⟩
      · rw [rv_len, List.length_take]
        exact small1000 (by omega)
      · rw [upd_same, take_snoc hg, rv_app, cnt_int]
        rfl
    · rintro H3 ⟨s5, hD2⟩
      have hln2 : (rowOf d).take ((d.L : Int) + 1).toNat = rowOf d := List.take_of_length_le (by unfold rowOf; rw [rowF_len]; omega)
      rw [hln2] at hD2
      exact ⟨D2, _, rfl, .inl ⟨SqL.of hD2, fun p np => q p _ (s1.trans (s3.trans (s5.trans (same_new np)))) upd_same⟩⟩
end
end Wp
set_option Elab.async false
set_option linter.all false
set_option maxRecDepth 100000
set_option maxHeartbeats 1000000
/-! WpR9: own rule: for i, x in enumerate(t), t a tuple. -/
namespace Wp
open PySem PySem.Spec PyProof.Rows L2 WP
/-- enumerate(v), one argument -/
theorem enum_new1 {v : Value} {o : Obj} {G : Heap → Prop} (B : Begins v o G) :
    Meets (Builtin.«enumerate.__new__» ⟨[.type "enumerate", v], []⟩) (fun _ R s => G s.heap ∧
      R (.ok (.ret (.ref (s.heap.push o).objs.size))) { s with heap := (s.heap.push o).push { cls := .type "enumerate", data := .fields #[.none, .bool false, .ref s.heap.objs.size, rawInt 0, .none, .none] } }) :=
  .of_wp fun prog w A R s h => by
    obtain ⟨hp, g, d, tk, os⟩ := s
    obtain ⟨h1, h⟩ := h
    have sb := sub_enumerate
    have pit : ∀ {A' : Around} {E : Value → Shared → Prop} {Q : Value → Shared → Prop}, Q (.ref hp.objs.size) ⟨hp.push o, g, d, tk, os⟩ → wpAny (model prog w) A' (pyIter v) Q E ⟨hp, g, d, tk, os⟩ :=
      fun q => B.iter prog w _ _ ⟨hp, g, d, tk, os⟩ _ h1 q
    wp_walk using pit
    refine wpAny_stack_any fun st => wpAny_pure ?_
    split
    · rename_i cc _ _ _ _ _
      cases (cc == Value.type "enumerate") <;> (wp_walk using pit; exact ⟨_, rfl, h⟩)
    · (wp_walk using pit; exact ⟨_, rfl, h⟩)
theorem enum_call1 {prog : Program} {w : World} {A : Around} {E : Value → Shared → Prop} {s : Shared} {v : Value} {o : Obj} {G : Heap → Prop} {Q : Value → Shared → Prop} (B : Begins v o G) (h1 : G s.heap)
    (h : ∀ h', IsEnum h' (s.heap.objs.size + 1) s.heap.objs.size 0 .none → h'.get? s.heap.objs.size = some o → (∀ b u, s.heap.get? b = some u → h'.get? b = some u) → Q (.ref (s.heap.objs.size + 1)) { s with heap := h' }) :
    wpAny (model prog w) A (call (.type "enumerate") [v]) Q E s := by
  refine callType_new F.called_enumerate (by decide) (F.typeCall_enumerate_1 _) (F.newCall_enumerate_1 _) (fun obj => F.args_object_init_2 obj _) F.entry_enumerate_new (enum_new1 B) ⟨h1, ?_⟩
  have sz : (s.heap.push o).objs.size = s.heap.objs.size + 1 := Heap.size_push ..
  show _ ∧ _
  rw [sz]
  have en : IsEnum ((s.heap.push o).push { cls := .type "enumerate", data := .fields #[.none, .bool false, .ref s.heap.objs.size, rawInt 0, .none, .none] }) (s.heap.objs.size + 1) s.heap.objs.size 0 .none := by
    have g := Heap.get?_push_size (s.heap.push o) (o := { cls := .type "enumerate", data := .fields #[.none, .bool false, .ref s.heap.objs.size, rawInt 0, .none, .none] }) rfl
    rwa [sz] at g
  exact ⟨⟨_, en, rfl⟩, h _ en (Heap.get?_push_of_some _ (Heap.get?_push_size _ B.free)) fun b u x => Heap.get?_push_of_some _ (Heap.get?_push_of_some _ x)⟩
/-- the tuple at a, each item in a new pair -/
def IteT (K : PySem.W.Frag) (a : Addr) : It :=
  ⟨fun i H => ∃ (xs : List V) (x : V), SqT K H a xs ∧ xs[i]? = some x, fun i H v H' => ∃ T x, v = .ref T ∧ H T = none ∧ H' = upd H T (.tup [.int (i : Nat), x]) ∧ ∀ xs, SqT K H a xs → xs[i]? = some x, fun i H => ∃ xs : List V, SqT K H a xs ∧ xs.length ≤ i⟩
theorem cls_ne {h : Heap} {a b : Addr} {o u : Obj} (h1 : h.get? a = some o) (h2 : h.get? b = some u) (n : o.cls ≠ u.cls) : a ≠ b := fun z => by
  subst z
  rw [h1] at h2
  cases h2
  exact n rfl
theorem turn_enumT {P : Program} {w : World} {K : PySem.W.Frag} {elts : List Expr} {kk : Nat} {tpos : Pos} (a e it : Addr) :
    Turn P w K (.Tuple elts kk tpos) (IteT K a) [e, it] e (fun i h => (∃ old, IsEnum h e it ((i : Nat) : Int) old) ∧ h.IsTupleIter it a i) where
  mem := List.mem_cons_self ..
  obj := fun i h st b hb => by
    obtain ⟨⟨old, he⟩, ⟨o, ho, _, hd⟩⟩ := st
    rcases List.mem_cons.mp hb with rfl | hb
    · exact ⟨_, he, fun v q => by cases q⟩
    · rw [List.mem_singleton.mp hb]
      exact ⟨o, ho, fun v q => by rw [hd] at q; cases q⟩
  keep := fun i h h' st k => let ⟨⟨old, he⟩, hi⟩ := st; ⟨⟨old, k e (List.mem_cons_self ..) _ he⟩, hi.at fun o q => k it (List.mem_cons_of_mem _ (List.mem_cons_self ..)) o q⟩
  item := by
    intro X hP hw hK hc i pins s σ H E I hf st hg
    subst hP hw hK
    obtain ⟨⟨old, he⟩, hit⟩ := st
    obtain ⟨xs, x, hq, hx⟩ := hg
    obtain ⟨its, rv, p, hz⟩ := I.tuple hq
    obtain ⟨u, hu, ru⟩ := rv.get hx
    have hel : e < s.heap.objs.size := Heap.lt_size he
    obtain ⟨oi, hoi, hci, hdi⟩ := id hit
    have hil : it < s.heap.objs.size := Heap.lt_size hoi
    obtain ⟨ot, hot, hct, nt, hdt⟩ := id (show s.heap.IsTuple a its.toArray from p)
    have n1 : a ≠ it := cls_ne hot hoi (by rw [hct, hci]; decide)
    have n2 : e ≠ it := cls_ne he hoi (by rw [hci]; show Value.type "enumerate" ≠ _; decide)
    have n3 : e ≠ a := cls_ne he hot (by rw [hct]; show Value.type "enumerate" ≠ _; decide)
    refine wpAny_pyNext_enum_itemD (n := its.toArray.size) (D := Draws.tuple (A := X.A.in1) (show X.A.in1.handled = none from I.ok.hd hc) it a n1 its.toArray) he ⟨hit, p⟩ (by have := (List.getElem?_eq_some_iff.mp hu).1; simpa using this) n2 (by intro z; rcases List.mem_cons.mp z with z | z; exact n2 z; exact n3 (List.mem_singleton.mp z)) fun x' h' tk hP ho hst' hT hsz hk => ?_
    have ex : x' = u := by
      have e2 : its.toArray[i]? = some x' := hP
      rw [List.getElem?_toArray, hu] at e2
      exact (Option.some.inj e2).symm
    subst ex
    refine ⟨_, rfl, wpAny_letOwnedTupleGo_enum (s := { s with heap := h', toks := tk + 1 }) ho fun h'' he' sb => ?_⟩
    have hT2 : h''.get? s.heap.objs.size = some { cls := .type "tuple", data := .seq #[.int i tk, x'] } := (sb.2 _ (Nat.ne_of_gt hel)).trans hT
    have new : ObjOk X.prog X.w (upd H s.heap.objs.size (.tup [.int (i : Nat), x])) h'' s.heap.objs.size (.tup [.int (i : Nat), x]) :=
      ⟨by show 2 ≤ sizeLine; decide, [.int i tk, x'], .cons ⟨_, rfl⟩ (.cons ru .nil), ⟨_, hT2, rfl, _, rfl⟩⟩
    have I1 : Inv X pins σ (upd H s.heap.objs.size (.tup [.int (i : Nat), x])) { s with heap := h'', toks := tk + 1 } :=
      I.turnedNew (ch := [e, it]) (fun b ob hb q => (sb.2 b (fun z => hb (by rw [z]; exact List.mem_cons_self ..))).trans (hk b ob (fun z => hb (by rw [z]; exact List.mem_cons_self ..)) (fun z => hb (by rw [z]; exact List.mem_cons_of_mem _ (List.mem_cons_self ..))) q)) hf (Nat.le_refl _) new
    refine ⟨.ref s.heap.objs.size, _, I1, rfl, ⟨_, x, rfl, I.hok.fresh (Nat.le_refl _), rfl, fun ys hy => by rw [I.tuple_inj hy hq]; exact hx⟩, ⟨⟨x', ?_⟩, hst'.1.at fun o q => (sb.2 it n2.symm).trans q⟩, fun b hb => ?_⟩
    · have e1 : ((i + 1 : Nat) : Int) = (i : Int) + 1 := by omega
      rw [e1]
      exact he'
    · have lb : b < s.heap.objs.size := by
        rcases List.mem_cons.mp hb with z | z
        · rw [z]; exact hel
        · rw [List.mem_singleton.mp z]; exact hil
      rw [upd_ne (Nat.ne_of_lt lb)]
      exact (hf b hb).1
  done := by
    intro X hP hw hK hc i pins s σ H E I hf st hg
    subst hP hw hK
    obtain ⟨⟨old, he⟩, hit⟩ := st
    obtain ⟨xs, hq, hx⟩ := hg
    obtain ⟨its, rv, p, hz⟩ := I.tuple hq
    obtain ⟨f0, f1, f2, f3, f4, f5⟩ := hf it (List.mem_cons_of_mem _ (List.mem_cons_self ..))
    have hl := rv.length
    have hT : s.TypeIs (.ref e) "enumerate" := ⟨_, he, rfl⟩
    unfold pyNext
    refine wpAny_bind (wpAny_attempt (wpAny_callSpecial?_slot (name := Str.ofString "__next__") hT F.slot_enumerate_next (wpAny_call_entry F.slot_enumerate_next hT F.entry_enumerate_next ?_ (F.args_enumerate_next_1 _))))
    show wpAny _ _ (field (.ref e) 2 >>= _) _ _ _
    refine wpAny_bind (wpAny_field he rfl (x := .ref it) rfl ?_)
    refine wpAny_bind (wpAny_nextOf_tuple_end (I.ok.hd hc) hit p (by rw [List.getElem?_toArray]; exact List.getElem?_eq_none (by omega)) fun h' x' he' hx' => ?_)
    obtain ⟨o, ho, hcl⟩ := hx'
    refine wpAny_bind (wpAny_isInstance (T := "StopIteration") (b := true) ⟨o, ho, hcl⟩ isSubtype_stop ?_)
    exact wpAny_pure ⟨rfl, I.turned (t' := s.toks) (fun b o hb q => he' b o hb q) f0 f1 f3 f4 f5⟩
  self := fun A i s Q E st h => let ⟨⟨_, he⟩, _⟩ := st; wpAny_pyIter_enum he h
def iEnumT (K : PySem.W.Frag) (ta : TA) : TI := fun σ H R => ta σ H fun vs H1 => ∃ a xs, vs = [.ref a] ∧ SqT K H1 a xs ∧ R (IteT K a) H1
theorem pi_enumT {X : Cx} {e : Expr} {ta : TA} {p pos tpos : Pos} {elts : List Expr} {kk : Nat} (hg : Gl X "enumerate") (hm : X.mg "enumerate" = none) (ha : PA X [e] ta) (hs : starEach [e] X.env = [(false, eval e X.env)] := by rfl) :
    PI X (.Tuple elts kk tpos) (.Call (.Name "enumerate" p) [e] [] pos) (iEnumT X.K ta) := by
  refine ⟨fun pins s σ H R I h => ?_⟩
  refine Call_ (ld_blt I hg hm boot_enumerate (PyProof.Rows.callWith_type1 (thn (ha.run pos pins s σ H _ I h) fun us s1 ⟨vs, H1, I1, r1, a, xs, ex, hq, q⟩ => ?_) hs rfl))
  subst ex
  rw [Vals.ref1 r1]
  obtain ⟨its, rv, p', hz⟩ := I1.tuple hq
  refine enum_call1 (begins_tuple a its.toArray) p' fun h' he hit hk => wpAny_pyIter_enum he ?_
  have I2 : Inv X pins σ H1 { s1 with heap := h' } := I1.kept (t' := s1.toks) hk
  refine ⟨s1.heap.objs.size + 1, [s1.heap.objs.size + 1, s1.heap.objs.size], _, _, H1, rfl, I2, turn_enumT a (s1.heap.objs.size + 1) s1.heap.objs.size, ⟨⟨.none, he⟩, ⟨_, hit, rfl, rfl⟩⟩, fun b hb => ?_, q⟩
  have hle : s1.heap.objs.size ≤ b := by
    rcases List.mem_cons.mp hb with z | z
    · rw [z]; exact Nat.le_add_right _ _
    · rw [List.mem_singleton.mp z]; exact Nat.le_refl _
  exact I1.fpOk hle (I1.hok.fresh hle)
theorem walk_enumT {K : PySem.W.Frag} {a : Addr} {xs : List V} : Walk (IteT K a) xs.length (fun H => SqT K H a xs) (YPair (fun i => some (.int (i : Nat))) (fun i => xs[i]?)) := by
  refine ⟨fun i _ hi q => ⟨xs, xs[i], q, by simp [hi]⟩, fun _ q => ⟨xs, q, Nat.le_refl _⟩, fun i H v H' _ q y => ?_⟩
  obtain ⟨T, x, h1, h2, h3, h4⟩ := y
  exact ⟨T, .int (i : Nat), x, h1, h2, h3, rfl, h4 xs q⟩
end Wp
set_option Elab.async false
set_option linter.all false
set_option maxRecDepth 100000
set_option maxHeartbeats 2000000
/-! WpD6: roads, widths, logs are made. -/
namespace Wp
open PySem PySem.Spec PyProof.Rows L2 WP
theorem inV_rv (n : Nat) : ∀ r : List Nat, inV (.int (n : Int)) (rv r) = decide (n ∈ r)
  | [] => rfl
  | m :: r => by
    have ih := inV_rv n r
    unfold inV rv at *
    rw [List.map_cons, List.any_cons, ih]
    by_cases h : n = m
    · subst h
      simp [eqV]
    · have h2 : ¬ (m : Int) = (n : Int) := fun z => h (by omega)
      simp [eqV, h, h2]
theorem flat_rv (r : List Nat) : (rv r).all flatV = true := by
  rw [List.all_eq_true]
  intro x hx
  obtain ⟨n, _, rfl⟩ := List.mem_map.mp hx
  rfl
/-- a log that can be made: widths of a road, pairs of its widths but the first -/
structure DOk (d : LogD) : Prop where
  len : d.ns.length ≤ 24
  hL : d.L ≤ 3
  ps : ∀ p ∈ d.ps, p.1 ∈ d.ns ∧ d.ns[0]? ≠ some p.1
  few : d.ps.length ≤ 100
def spWC (c : Cs) : Sp := fun vs H Q _ => ∃ (A : LogA) (d : LogD) (n : Nat), vs = [.ref A.wd, .int n] ∧ RoadAt c H A d ∧ Q (.bl (decide (n ∈ d.ns))) H
def spCPS (c : Cs) : Sp := fun vs H Q _ => ∃ (A : LogA) (d : LogD) (pt : Addr), vs = [.ref A.rd, .ref pt] ∧ RoadAt c H A d ∧ TupPs H pt d.ps ∧ DOk d ∧ ∀ H', Same H H' → Q .non H'
def spRI (c : Cs) : Sp := fun vs H Q _ => ∃ (x dx wd : Addr) (L : Nat) (q : Bool), vs = [.ref x, .ref wd, .int L, .bl q] ∧ H x = some (.ins c.road dx []) ∧ L ≤ 3 ∧ ∀ H', SameX x H H' → H' x = some (.ins c.road dx [("widths", .ref wd), ("losses", .int (L : Int)), ("in_a_row", .bl q)]) → Q .non H'
/-- widths one greater than the other, of 1 to 100000 -/
def Up (ns : List Nat) : Prop := 1 ≤ ns.length ∧ ns.length ≤ 24 ∧ (∀ n ∈ ns, 1 ≤ n ∧ n ≤ 100000) ∧ ∀ i a b, ns[i]? = some a → ns[i + 1]? = some b → a < b
def spWI (c : Cs) : Sp := fun vs H Q _ => ∃ (x dx nt : Addr) (ns : List Nat), vs = [.ref x, .ref nt] ∧ H x = some (.ins c.widths dx []) ∧ H nt = some (.tup (rv ns)) ∧ Up ns ∧ ∀ H', SameX x H H' → H' x = some (.ins c.widths dx [("numbers", .ref nt)]) → Q .non H'
def spLI (c : Cs) : Sp := fun vs H Q _ => ∃ (A : LogA) (d : LogD) (x dx pt : Addr), vs = [.ref x, .ref A.rd, .ref pt] ∧ H x = some (.ins c.log dx []) ∧ RoadAt c H A d ∧ TupPs H pt d.ps ∧ DOk d ∧
  ∀ p pas H', SameX x H H' → H' x = some (.ins c.log dx [("road", .ref A.rd), ("pairs", .ref p)]) → H' p = some (.tup (pas.map V.ref)) → PairsAt H' pas d.ps → Q .non H'
theorem PairsAt.snoc {H : Hp} {as : List Addr} {ps : List (Nat × Bool)} {t : Addr} {p : Nat} {b : Bool} (h : PairsAt H as ps) (ht : H t = some (.tup [.int (p : Int), .bl b])) : PairsAt H (as ++ [t]) (ps ++ [(p, b)]) := by
  refine ⟨by rw [List.length_append, List.length_append, h.1]; rfl, fun j a' p' h1 h2 => ?_⟩
  by_cases hj : j < as.length
  · rw [List.getElem?_append_left hj] at h1
    rw [List.getElem?_append_left (by rw [← h.1]; exact hj)] at h2
    exact h.2 j a' p' h1 h2
  · have e1 : as.length ≤ j := by omega
    rw [List.getElem?_append_right e1] at h1
    rw [List.getElem?_append_right (by rw [← h.1]; exact e1)] at h2
    have e2 : j - as.length = 0 := by
      have := (List.getElem?_eq_some_iff.mp h1).1
      simp at this
      omega
    rw [e2] at h1
    rw [← h.1, e2] at h2
    cases h1
    cases h2
    exact ht
/-- a log with one pair more -/
def spTE (c : Cs) : Sp := fun vs H Q _ => ∃ (A : LogA) (d : LogD) (p : Nat) (b : Bool), vs = [.ref A.lg, .int p, .bl b] ∧ LogAt c H A d ∧ DOk { d with ps := d.ps ++ [(p, b)] } ∧
  ∀ A' H', Same H H' → LogAt c H' A' { d with ps := d.ps ++ [(p, b)] } → Q (.ref A'.lg) H'
section
variable {P : Program} {w : World} {K : PySem.W.Frag} {mg : Str → Option Value} {base : Heap} {c : Cs}

theorem scWC : FnScope ["self", "width"] ["self", "width"] (defScope (metS 61 4)) := ⟨rfl, rfl, rfl, by decide +kernel, rfl, by decide +kernel, by decide +kernel⟩
theorem scCPS : FnScope ["road", "pairs", "place", "probe", "answered"] ["road", "pairs"] (defScope (topS 51)) := ⟨rfl, rfl, rfl, by decide +kernel, rfl, by decide +kernel, by decide +kernel⟩
theorem scRI : FnScope ["self", "widths", "losses", "in_a_row"] ["self", "widths", "losses", "in_a_row"] (defScope (metS 57 0)) := ⟨rfl, rfl, rfl, by decide +kernel, rfl, by decide +kernel, by decide +kernel⟩
theorem scWI : FnScope ["self", "widths", "place", "width"] ["self", "widths"] (defScope (metS 61 0)) := ⟨rfl, rfl, rfl, by decide +kernel, rfl, by decide +kernel, by decide +kernel⟩
theorem scLI : FnScope ["self", "road", "pairs", "probe", "answered"] ["self", "road", "pairs"] (defScope (metS 54 0)) := ⟨rfl, rfl, rfl, by decide +kernel, rfl, by decide +kernel, by decide +kernel⟩
theorem scTE : FnScope ["self", "probe", "answered", "pairs"] ["self", "probe", "answered"] (defScope (metS 54 7)) := ⟨rfl, rfl, rfl, by decide +kernel, rfl, by decide +kernel, by decide +kernel⟩
theorem met_wc (T : Txt K mg c) : C8.Met P w K mg base 2 c.widths "__contains__" (spWC c) [] := by
  refine met_mk T.widths.cl T.wCont scWC (fun _ _ _ _ _ _ us hl => match us, hl with | [_, _], _ => rfl) (fun vs H Q E h => ?_) (fun f cdv A outer s H vs Q E hr h => ?_)
  · obtain ⟨A, d, n, rfl, _⟩ := h
    rfl
  obtain ⟨L, d, n, rfl, hR, q⟩ := h
  refine ⟨_, (pss_one (ps_ret (pe_and (C8.pe_c (cal_ii T) hr (by decide) rfl (pa_cons (pv 1) pa_nil)) (pe_one (pe_cmpR op_in_seq (pv 1) (pe_fld (pv 0) rfl) rfl))))), ?_⟩
  refine ⟨_, rfl, (n : Int), rfl, true, rfl, if1 rfl ⟨_, rfl, _, rfl, L.wd, c.widths, L.dw, _, _, rfl, hR.wd, T.widths.cl, T.wN_numbers, rfl, L.nt, _, rfl, .inr (SqT.of hR.nt), rfl, flat_rv _, ?_⟩⟩
  rw [if_neg Bool.false_ne_true, inV_rv]
  exact q
theorem cal_cps (T : Txt K mg c) : C8.Cal P w K mg base 3 "check_pairs" (spCPS c) [] := by
  obtain ⟨t1, gPairs⟩ := T.gPairs
  refine cal_mk T.check_pairs scCPS (fun _ _ _ _ _ _ us hl => match us, hl with | [_, _], _ => rfl) (fun vs H Q E h => ?_) (fun f cdv A outer s H vs Q E hr h => ?_)
  · obtain ⟨A, d, pt, rfl, _⟩ := h
    rfl
  obtain ⟨L, d, pt, rfl, hR, ⟨pas, hpt, hps⟩, hd, q⟩ := h
  refine ⟨_, (pss_cons (ps_for PassesOwn.never rfl (pi_enumT rfl T.bEnum (pa_cons (pv 1) pa_nil)) (pg_tup rfl (pgs_cons (pg_name (i := 2) scCPS.nd rfl (.inl rfl)) (pgs_cons (pg_tup rfl (pgs_cons (pg_name (i := 3) scCPS.nd rfl (.inl rfl)) (pgs_cons (pg_name (i := 4) scCPS.nd rfl (.inl rfl)) pgs_nil))) pgs_nil)))
    (pss_one (ps_if (PW.pt (pw_or (pt_cmpR (op_notInOwn (met_wc T) hr (by decide)) (pv 3) (pe_fld (pv 0) rfl) rfl) (pw_or (pt_cmpR op_eq (pv 3) (pe_ix ix_tup (pe_fld (pe_fld (pv 0) rfl) rfl) pe_int (fun _ _ => rfl)) (nomark _)) (pw_or1 (pt_not (pt_val (pe_callB call_isi (by rfl) T.bIsi (by decide +kernel) (pa_cons (pv 4) (pa_cons (pe_bltn (v := .ty "bool") (u := .type "bool") rfl T.bBool (by decide +kernel) rfl) pa_nil))))))))) (pss_one ps_never) pss_nil)))
    (pss_one (ps_if (pt_cmpR op_gt (pe_callB call_len_seq (by rfl) T.bLen (by decide +kernel) (pa_cons (pv 1) pa_nil)) (pe_glob (v := .int 100) rfl gPairs ⟨_, rfl⟩) (nomark _)) (pss_one ps_never) pss_nil))), ?_⟩
  refine ⟨_, rfl, pt, _, rfl, SqT.of hpt, for_it walk_enumT (fun i σ H' => ∃ e1 e2 e3 : Option V, σ = [some (.ref L.rd), some (.ref pt), e1, e2, e3] ∧ Same H H') ⟨none, none, none, rfl, Same.refl H⟩ (fun i σ H' _ ⟨_, _, _, _, s1⟩ => SqT.of (s1 _ _ hpt)) ?_ ?_⟩
  · rintro i x σ H1 H2 hi ⟨e1, e2, e3, rfl, s1⟩ ⟨T0, v1, v2, rfl, nT, rfl, g1, g2⟩
    obtain ⟨a, ⟨p, b⟩, rfl, hp, ha⟩ := pas_get hps g2
    obtain rfl : V.int (i : Nat) = v1 := Option.some.inj g1
    have s2 : Same H (upd H1 T0 (.tup [.int (i : Nat), .ref a])) := s1.trans (same_new nT)
    have hT : upd H1 T0 (.tup [.int (i : Nat), .ref a]) T0 = some (.tup [.int (i : Nat), .ref a]) := upd_same
    generalize upd H1 T0 (.tup [.int (i : Nat), .ref a]) = H2 at s2 hT
    have hR2 := hR.to (Same.x s2)
    obtain ⟨m1, m2⟩ := hd.ps _ (List.mem_of_getElem? hp)
    obtain ⟨n0, hn0⟩ : ∃ n0, d.ns[0]? = some n0 := by
      cases hz : d.ns with
      | nil => rw [hz] at m1; simp at m1
      | cons n0 r => exact ⟨n0, rfl⟩
    refine ⟨T0, _, rfl, SqT.of hT, rfl, _, _, rfl, _, _, rfl, a, _, rfl, SqT.of (s2 _ _ ha), rfl, _, _, rfl, _, _, rfl, rfl, rfl, ?_⟩
    refine ⟨_, rfl, _, rfl, L.rd, c.road, L.dr, _, _, rfl, hR2.rd, T.road.cl, T.rN_widths, rfl, L.wd, L.dw, _, rfl, hR2.wd, L, d, p, rfl, hR2, _, rfl, _, rfl, ?_⟩
    rw [decide_eq_true m1]
    refine if0 rfl ⟨_, rfl, _, rfl, L.rd, c.road, L.dr, _, _, rfl, hR2.rd, T.road.cl, T.rN_widths, rfl, L.wd, c.widths, L.dw, _, _, rfl, hR2.wd, T.widths.cl, T.wN_numbers, rfl, L.nt, _, _, _, rfl, rfl, SqT.of hR2.nt, atI_nat (rv_get' hn0), rfl, _, rfl, if0 (decide_eq_false fun z => ?_) ⟨_, rfl, _, _, _, _, _, rfl, .ty _, .base (.bl _), kit_ty (r := true) (by decide +kernel), true, rfl, if0 rfl ⟨_, _, _, rfl, s2⟩⟩⟩
    injection z with z
    exact m2 (by rw [hn0]; congr 1; omega)
  · rintro σ H1 ⟨e1, e2, e3, rfl, s1⟩
    have hl : (pas.map V.ref).length = d.ps.length := by rw [List.length_map]; exact hps.1
    have hf := hd.few
    exact ⟨_, rfl, pt, _, rfl, .inr (SqT.of (s1 _ _ hpt)), _, _, rfl, rfl, _, rfl, if0 (decide_eq_false (by rw [hl]; omega)) (q H1 s1)⟩
/-- Road(widths, losses, in_a_row=..), by its parts -/
theorem fn_ri (T : Txt K mg c) : ∃ (f : Addr) (fd : FuncData), Mk K c.road f ∧ FunD K "__init__" "Road.__init__" (defArgs (metS 57 0)) (defBody (metS 57 0)) (defScope (metS 57 0)) [] [("in_a_row", .bl false)] f fd ∧ FnOk P w K mg base CX0 3 f fd ["self", "widths", "losses", "in_a_row"] (spRI c) := by
  obtain ⟨t1, gLoss⟩ := T.gLossR
  obtain ⟨f, fd, F, hm⟩ := T.rInit.fn
  refine ⟨f, fd, ⟨T.road.mks, hm.at_, hm.fn, T.road.kp⟩, F, F.ok scRI (fun vs H Q E h => ?_) fun cdv A outer s H vs Q E hr h => ?_⟩
  · obtain ⟨x, dx, wd, L, q, rfl, _⟩ := h
    rfl
  obtain ⟨x, dx, wd, L, q0, rfl, hx, hL, q⟩ := h
  suffices h : ∃ t, PSs (cxOf CX0 P w K mg base ["self", "widths", "losses", "in_a_row"] "Road.__init__" (defScope (metS 57 0)) f cdv A outer s H E).nox (defBody (metS 57 0)) t ∧ t { nx := fun _ H' => Q .non H', rt := Q } (start ["self", "widths", "losses", "in_a_row"] [.ref x, .ref wd, .int L, .bl q0]) H by
    obtain ⟨t, h1, h2⟩ := h
    exact ⟨t, h1.nox, h2⟩
  refine ⟨_, (pss_cons (ps_fld (pv 0) (pv 1) rfl)
    (pss_cons (ps_fld (pv 0) (C8.pe_c (cal_cn T) hr (by decide) rfl (pa_cons pe_str (pa_cons (pv 2) (pa_cons pe_int (pa_cons (pe_glob (v := .int 3) rfl gLoss ⟨_, rfl⟩) pa_nil))))) rfl)
    (pss_one (ps_fld (pv 0) (pv 3) rfl)))), ?_⟩
  refine ⟨_, rfl, _, rfl, x, c.road, dx, _, rfl, hx, T.road.cl, T.rN_widths, by simp, ?_⟩
  refine ⟨_, rfl, _, _, _, _, rfl, by omega, ⟨3, rfl, by omega⟩, _, rfl, x, c.road, dx, _, rfl, upd_same, T.road.cl, T.rN_losses, putF_few (by simp), ?_⟩
  refine ⟨_, rfl, _, rfl, x, c.road, dx, _, rfl, upd_same, T.road.cl, T.rN_in_a_row, putF_few (putF_few (by simp)), ?_⟩
  refine q _ (fun b' o n e => ?_) upd_same
  rw [upd_ne n, upd_ne n, upd_ne n]
  exact e
/-- Widths(..), by its parts -/
theorem fn_wi (T : Txt K mg c) : ∃ f : Addr, Mk K c.widths f ∧ FnR P w K mg base CX0 3 f (fun vs H Q E => ∃ ws rest, vs = ws ++ rest ∧ ws.length = ["self"].length ∧ rest.length ≤ sizeLine ∧ ∀ p, H p = none → spWI c (ws ++ [V.ref p]) (upd H p (.tup rest)) Q E) := by
  obtain ⟨t1, gWs⟩ := T.gWidths
  obtain ⟨t2, gW⟩ := T.gWidth
  obtain ⟨f, fd, F, hm⟩ := T.wInit.fn
  obtain ⟨oc, od, dV, kV, doc, pm, an, cdv, ct, osl, rfl, lk, hcd, dfl, kwd⟩ := F.ex
  refine ⟨f, ⟨T.widths.mks, hm.at_, hm.fn, T.widths.kp⟩, StX.fn_star (ps := ["self"]) (pv := "widths") lk hcd scWI StX.cxUp_none ?_ fun A outer s H vs Q E hr h => ?_⟩
  · obtain rfl : dV = .none := dfl.elim (fun z => z.2) fun z => absurd rfl z.1
    exact StX.bind_star1 (p1 := "self") (pv := "widths") (B := fun us => bindArgs (PySem.W.fnOf "__init__" "Widths.__init__" (defArgs (metS 61 0)) (defBody (metS 61 0)) (defScope (metS 61 0)) .none kV doc pm an cdv ct) ⟨us, []⟩) (fun a => rfl) (fun a r rs => rfl)
  obtain ⟨x, dx, nt, ns, rfl, hx, hn, hup, q⟩ := h
  suffices h : ∃ t, PSs (cxOf CX0 P w K mg base ["self", "widths", "place", "width"] "Widths.__init__" (defScope (metS 61 0)) f cdv A outer s H E).nox (defBody (metS 61 0)) t ∧ t { nx := fun _ H' => Q .non H', rt := Q } (start ["self", "widths", "place", "width"] [.ref x, .ref nt]) H by
    obtain ⟨t, h1, h2⟩ := h
    exact ⟨t, h1.nox, h2⟩
  refine ⟨_, (pss_cons (ps_expr (C8.pe_c (cal_cn T) hr (by decide) rfl (pa_cons pe_str (pa_cons (pe_callB call_len_seq (by rfl) T.bLen (by decide +kernel) (pa_cons (pv 1) pa_nil)) (pa_cons pe_int (pa_cons (pe_glob (v := .int 24) rfl gWs ⟨_, rfl⟩) pa_nil))))))
    (pss_cons (ps_for PassesOwn.never rfl (pi_enumT rfl T.bEnum (pa_cons (pv 1) pa_nil)) (pg_tup rfl (pgs_cons (pg_name (i := 2) scWI.nd rfl (.inl rfl)) (pgs_cons (pg_name (i := 3) scWI.nd rfl (.inl rfl)) pgs_nil)))
    (pss_cons (ps_expr (C8.pe_c (cal_cn T) hr (by decide) rfl (pa_cons pe_str (pa_cons (pv 3) (pa_cons pe_int (pa_cons (pe_glob (v := .int 100000) rfl gW ⟨_, rfl⟩) pa_nil))))))
    (pss_one (ps_if (PW.pt (pw_and (pt_cmpR op_gt (pv 2) pe_int (nomark _)) (pw_and1 (pt_cmpR op_le (pv 3) (pe_ix ix_tup (pv 1) (pe_op op_sub (pv 2) pe_int) (fun _ _ => rfl)) (nomark _))))) (pss_one ps_never) pss_nil))))
    (pss_one (ps_fld (pv 0) (pe_callTy call_tuple_of (by rfl) T.bTuple (by decide +kernel) (pa_cons (pv 1) pa_nil)) rfl)))), ?_⟩
  obtain ⟨u1, u2, u3, u4⟩ := hup
  refine ⟨_, rfl, nt, _, rfl, .inr (SqT.of hn), _, _, _, _, rfl, by rw [rv_len]; omega, ⟨24, rfl, by rw [rv_len]; omega⟩, ?_⟩
  refine ⟨_, rfl, nt, _, rfl, SqT.of hn, for_it walk_enumT (fun i σ H' => ∃ e1 e2 : Option V, σ = [some (.ref x), some (.ref nt), e1, e2] ∧ Same H H') ⟨none, none, rfl, Same.refl H⟩ (fun i σ H' _ ⟨_, _, _, s1⟩ => SqT.of (s1 _ _ hn)) ?_ ?_⟩
  · rintro i y σ H1 H2 hi ⟨e1, e2, rfl, s1⟩ ⟨T0, v1, v2, rfl, nT, rfl, g1, g2⟩
    obtain ⟨b, hb, rfl⟩ := rv_get g2
    obtain rfl : V.int (i : Nat) = v1 := Option.some.inj g1
    have s2 : Same H (upd H1 T0 (.tup [.int (i : Nat), .int (b : Nat)])) := s1.trans (same_new nT)
    have hT : upd H1 T0 (.tup [.int (i : Nat), .int (b : Nat)]) T0 = some (.tup [.int (i : Nat), .int (b : Nat)]) := upd_same
    generalize upd H1 T0 (.tup [.int (i : Nat), .int (b : Nat)]) = H2 at s2 hT
    obtain ⟨w1, w2⟩ := u3 b (List.mem_of_getElem? hb)
    refine ⟨T0, _, rfl, SqT.of hT, rfl, _, _, rfl, _, _, rfl, rfl, ?_⟩
    refine ⟨_, rfl, _, _, _, _, rfl, by omega, ⟨100000, rfl, by omega⟩, ?_⟩
    refine ⟨_, rfl, _, _, rfl, rfl, _, rfl, ?_⟩
    cases i with
    | zero => exact if0 (by decide) (if0 rfl ⟨_, _, rfl, s2⟩)
    | succ i =>
      obtain ⟨a, ha⟩ : ∃ a, ns[i]? = some a := ⟨_, List.getElem?_eq_getElem (by have := (List.getElem?_eq_some_iff.mp hb).1; omega)⟩
      have hlt := u4 i a b ha hb
      have hat : atI (rv ns) (((i + 1 : Nat) : Int) - 1) = some (.int (a : Nat)) := by
        have e : ((i + 1 : Nat) : Int) - 1 = (i : Int) := by omega
        rw [e]
        exact atI_nat (rv_get' ha)
      have hnl : ¬ ((b : Nat) : Int) ≤ ((a : Nat) : Int) := by omega
      exact if1 (decide_eq_true (by omega)) ⟨_, rfl, _, rfl, _, rfl, _, _, rfl, rfl, nt, _, _, _, rfl, rfl, SqT.of (s2 _ _ hn), hat, _, _, rfl, rfl, _, rfl, if0 (decide_eq_false hnl) ⟨_, _, rfl, s2⟩⟩
  · rintro σ H1 ⟨e1, e2, rfl, s1⟩
    refine ⟨_, rfl, nt, _, rfl, .inr ⟨SqT.of (s1 _ _ hn), _, rfl, x, c.widths, dx, _, rfl, s1 _ _ hx, T.widths.cl, T.wN_numbers, by simp, ?_⟩⟩
    refine q _ (fun b' o n e => ?_) upd_same
    rw [upd_ne n]
    exact s1 _ _ e
/-- Log(road, ..), by its parts -/
theorem fn_li (T : Txt K mg c) : ∃ f : Addr, Mk K c.log f ∧ FnR P w K mg base CX0 4 f (fun vs H Q E => ∃ ws rest, vs = ws ++ rest ∧ ws.length = ["self", "road"].length ∧ rest.length ≤ sizeLine ∧ ∀ p, H p = none → spLI c (ws ++ [V.ref p]) (upd H p (.tup rest)) Q E) := by
  obtain ⟨f, fd, F, hm⟩ := T.gInit.fn
  obtain ⟨oc, od, dV, kV, doc, pm, an, cdv, ct, osl, rfl, lk, hcd, dfl, kwd⟩ := F.ex
  refine ⟨f, ⟨T.log.mks, hm.at_, hm.fn, T.log.kp⟩, StX.fn_star (ps := ["self", "road"]) (pv := "pairs") lk hcd scLI StX.cxUp_none ?_ fun A outer s H vs Q E hr h => ?_⟩
  · obtain rfl : dV = .none := dfl.elim (fun z => z.2) fun z => absurd rfl z.1
    exact StX.bind_star2 (p1 := "self") (p2 := "road") (pv := "pairs") (B := fun us => bindArgs (PySem.W.fnOf "__init__" "Log.__init__" (defArgs (metS 54 0)) (defBody (metS 54 0)) (defScope (metS 54 0)) .none kV doc pm an cdv ct) ⟨us, []⟩) (fun a b => rfl) (fun a b r rs => rfl)
  obtain ⟨L, d, x, dx, pt, rfl, hx, hR, hpt, hd, q⟩ := h
  suffices h : ∃ t, PSs (cxOf CX0 P w K mg base ["self", "road", "pairs", "probe", "answered"] "Log.__init__" (defScope (metS 54 0)) f cdv A outer s H E).nox (defBody (metS 54 0)) t ∧ t { nx := fun _ H' => Q .non H', rt := Q } (start ["self", "road", "pairs", "probe", "answered"] [.ref x, .ref L.rd, .ref pt]) H by
    obtain ⟨t, h1, h2⟩ := h
    exact ⟨t, h1.nox, h2⟩
  refine ⟨_, (pss_cons (ps_expr (C8.pe_c (cal_cps T) hr (by decide) rfl (pa_cons (pv 1) (pa_cons (pv 2) pa_nil))))
    (pss_cons (ps_fld (pv 0) (pv 1) rfl)
    (pss_one (ps_fld (pv 0) (pe_callTy call_tuple_of (by rfl) T.bTuple (by decide +kernel) (pa_cons (pe_lc (own := [("probe", 3), ("answered", 4)]) (g := gTup _ 2 (gCons (gName 3) (gCons (gName 4) gNil))) (tt := tYes) rfl scLI.nd (pi_tup (pv 2)) (blkOk_by (N := ["self", "road", "pairs", "probe", "answered"]) (sc := (defScope (metS 54 0))) (by decide +kernel)) (fun _ _ _ _ _ => (pg_tup rfl (pgs_cons (pg_name (i := 3) scLI.nd rfl (.inl rfl)) (pgs_cons (pg_name (i := 4) scLI.nd rfl (.inl rfl)) pgs_nil)))) (fun _ _ _ _ _ => pts_nil) (fun _ _ _ _ _ => (pe_tup (pa_cons (pv 3) (pa_cons (pv 4) pa_nil))))) pa_nil)) rfl)))), ?_⟩
  refine ⟨_, rfl, _, rfl, L, d, pt, rfl, hR, hpt, hd, fun H1 s1 => ?_⟩
  refine ⟨_, rfl, _, rfl, x, c.log, dx, _, rfl, s1 _ _ hx, T.log.cl, T.gN_road, by simp, ?_⟩
  obtain ⟨pas, hp1, hp2⟩ := hpt
  have hH : upd H1 x (.ins c.log dx (putF "road" (.ref L.rd) [])) x = some (.ins c.log dx (putF "road" (.ref L.rd) [])) := upd_same
  have sx : SameX x H (upd H1 x (.ins c.log dx (putF "road" (.ref L.rd) []))) := fun b o n e => by
    rw [upd_ne n]
    exact s1 _ _ e
  generalize upd H1 x (.ins c.log dx (putF "road" (.ref L.rd) [])) = H2 at hH sx
  have npt : pt ≠ x := tup_ne hp1 hx (fun ys z => by cases z)
  have nx : ∀ (i : Nat) (a : Addr) (p : Nat × Bool), pas[i]? = some a → d.ps[i]? = some p → H2 a = some (.tup [.int (p.1 : Int), .bl p.2]) := fun i a p h1 h2 => sx _ _ (tup_ne (hp2.2 i a p h1 h2) hx (fun ys z => by cases z)) (hp2.2 i a p h1 h2)
  have hp3 : PairsAt H2 pas d.ps := ⟨hp2.1, nx⟩
  have hpt2 := sx _ _ npt hp1
  refine ⟨_, rfl, pt, rfl, ⟨_, SqT.of hpt2⟩, fun D nD => ?_⟩
  have s3 : Same H2 (upd H2 D (.lst [])) := same_new nD
  refine lc_tup (K := K) (a := pt) (xs := pas.map V.ref) (fun i H' => Same H2 H' ∧ ∃ qas : List Addr, H' D = some (.lst (qas.map V.ref)) ∧ PairsAt H' qas (d.ps.take i)) ⟨s3, [], upd_same, rfl, fun i a p h1 _ => by simp at h1⟩ (fun i H' _ ⟨s4, _⟩ => SqT.of (s4 _ _ hpt2)) ?_ ?_
  · rintro i y H3 hy ⟨s4, qas, hD, hqa⟩
    obtain ⟨a, ⟨p, b⟩, rfl, hp, ha⟩ := pas_get hp3 hy
    refine ⟨a, _, rfl, SqT.of (s4 _ _ ha), rfl, _, _, rfl, _, _, rfl, rfl, rfl, _, rfl, _, rfl, by show 2 ≤ sizeLine; decide, fun t nt => ?_⟩
    have s5 : Same H3 (upd H3 t (.tup [.int (p : Nat), .bl b])) := same_new nt
    have ht : upd H3 t (.tup [.int (p : Nat), .bl b]) t = some (.tup [.int (p : Nat), .bl b]) := upd_same
    refine ⟨_, s5 _ _ hD, ?_, Same.mut (s4.trans s5) nD, qas ++ [t], ?_, ?_⟩
    · rw [List.length_map, hqa.1, List.length_take]
      have := hd.few
      exact small1000 (by omega)
    · rw [upd_same, List.map_append]
      rfl
    · rw [take_snoc hp]
      have hk : Keep (upd H3 t (.tup [.int (p : Nat), .bl b])) (upd (upd H3 t (.tup [.int (p : Nat), .bl b])) D (.lst (qas.map V.ref ++ [.ref t]))) := Keep.upd (s5 _ _ hD) not_lst
      exact PairsAt.snoc (PairsAt.to (PairsAt.to hqa (Same.x s5)) hk) (hk _ _ ht (.tup _))
  · rintro H3 ⟨s4, qas, hD, hqa⟩
    have hl : (pas.map V.ref).length = d.ps.length := by rw [List.length_map]; exact hp2.1
    rw [hl, List.take_length] at hqa
    refine ⟨D, _, rfl, .inl ⟨SqL.of hD, fun p np => ?_⟩⟩
    have s5 : Same H3 (upd H3 p (.tup (qas.map V.ref))) := same_new np
    have npx : p ≠ x := fun z => by
      rw [z, s4 _ _ hH] at np
      cases np
    have hx5 := s5 _ _ (s4 _ _ hH)
    refine ⟨_, rfl, x, c.log, dx, _, rfl, hx5, T.log.cl, T.gN_pairs, putF_few (by simp), ?_⟩
    have hk : Keep H3 (upd H3 p (.tup (qas.map V.ref))) := Same.x s5
    refine q p qas _ (fun b' o n e => ?_) upd_same ((upd_ne npx).trans upd_same) ⟨hqa.1, fun j a' p' h1 h2 => ?_⟩
    · rw [upd_ne n]
      exact s5 _ _ (s4 _ _ (sx _ _ n e))
    · rw [upd_ne (tup_ne (s5 _ _ (hqa.2 j a' p' h1 h2)) hx5 (fun ys z => by cases z))]
      exact s5 _ _ (hqa.2 j a' p' h1 h2)
theorem met_te (T : Txt K mg c) : C8.Met P w K mg base 6 c.log "told" (spTE c) [] := by
  obtain ⟨g, M, FR⟩ := fn_li (P := P) (w := w) (base := base) T
  refine met_mk T.log.cl T.gTold scTE (fun _ _ _ _ _ _ us hl => match us, hl with | [_, _, _], _ => rfl) (fun vs H Q E h => ?_) (fun f cdv A outer s H vs Q E hr h => ?_)
  · obtain ⟨A, d, p, b, rfl, _⟩ := h
    rfl
  obtain ⟨L, d, p, b, rfl, hL, hd, q⟩ := h
  refine ⟨_, (pss_cons (ps_set (i := 3) scTE.nd rfl (.inl rfl) (pe_op op_catA (pe_fld (pv 0) rfl) (pe_tup (pa_cons (pe_tup (pa_cons (pv 1) (pa_cons (pv 2) pa_nil))) pa_nil))))
    (pss_one (ps_ret (pe_makeRS (E := C8.E0) M FR (hr.mono (by decide)) rfl T.log.g C8.pass0 (pa_cons (pe_fld (pv 0) rfl) (StX.pa_star (pv 3) pa_nil)))))), ?_⟩
  refine ⟨_, rfl, L.lg, c.log, L.dx, _, _, rfl, hL.lg, T.log.cl, T.gN_pairs, rfl, _, rfl, _, rfl, by show 2 ≤ sizeLine; decide, fun t nt => ?_⟩
  have s1 : Same H (upd H t (.tup [.int (p : Nat), .bl b])) := same_new nt
  have ht : upd H t (.tup [.int (p : Nat), .bl b]) t = some (.tup [.int (p : Nat), .bl b]) := upd_same
  generalize upd H t (.tup [.int (p : Nat), .bl b]) = H1 at s1 ht
  refine ⟨by show 1 ≤ sizeLine; decide, fun u nu => ?_⟩
  have s2 : Same H1 (upd H1 u (.tup [.ref t])) := same_new nu
  have hu : upd H1 u (.tup [.ref t]) u = some (.tup [.ref t]) := upd_same
  generalize upd H1 u (.tup [.ref t]) = H2 at s2 hu
  have hL2 := hL.to (Same.x (s1.trans s2))
  have hf : d.ps.length + 1 ≤ 100 := by
    have := hd.few
    simpa using this
  have hpl := hL2.ps.1
  -- the making, behind the longer tuple at v
  have fin : ∀ v H3, Same H2 H3 → H3 v = some (.tup ((L.pas ++ [t]).map V.ref)) → StX.tMakeR c.log (fun vs H Q E => ∃ ws rest, vs = ws ++ rest ∧ ws.length = ["self", "road"].length ∧ rest.length ≤ sizeLine ∧ ∀ p, H p = none → spLI c (ws ++ [V.ref p]) (upd H p (.tup rest)) Q E) E0 (tCons (tFld K (tVar 0) "road") (StX.tStar K (tVar 3) tNil))
      [some (.ref L.lg), some (.int p), some (.bl b), some (.ref v)] H3 Q := by
    intro v H3 s3 hv
    have hL3 := hL2.to (Same.x s3)
    refine ⟨_, rfl, L.lg, c.log, L.dx, _, _, rfl, hL3.lg, T.log.cl, T.gN_road, rfl, ?_⟩
    refine ⟨_, rfl, v, _, rfl, .inl (SqT.of hv), ?_⟩
    intro x dx nx nd ne
    refine ⟨[.ref x, .ref L.rd], (L.pas ++ [t]).map V.ref, by rw [List.append_nil]; rfl, rfl, ?_, fun pp npp => ?_⟩
    · rw [List.length_map, List.length_append, hpl]
      exact Nat.le_of_lt (small1000 (by simp; omega))
    have hx4 : upd (upd H3 dx (.own x)) x (.ins c.log dx []) x = some (.ins c.log dx []) := upd_same
    have s4 : Same H3 (upd (upd H3 dx (.own x)) x (.ins c.log dx [])) := fun b' o e => by
      rw [upd_ne (ne_of_none e nx), upd_ne (ne_of_none e nd)]
      exact e
    generalize upd (upd H3 dx (.own x)) x (.ins c.log dx []) = H4 at hx4 s4 npp
    have s5 : Same H4 (upd H4 pp (.tup ((L.pas ++ [t]).map V.ref))) := same_new npp
    have hp5 : upd H4 pp (.tup ((L.pas ++ [t]).map V.ref)) pp = some (.tup ((L.pas ++ [t]).map V.ref)) := upd_same
    generalize upd H4 pp (.tup ((L.pas ++ [t]).map V.ref)) = H5 at s5 hp5
    have s6 : Same H3 H5 := s4.trans s5
    have hL5 := hL3.to (Same.x s6)
    have hR5 : RoadAt c H5 L { d with ps := d.ps ++ [(p, b)] } := ⟨hL5.road.rd, hL5.road.wd, hL5.road.nt⟩
    refine ⟨L, { d with ps := d.ps ++ [(p, b)] }, x, dx, pp, rfl, s5 _ _ hx4, hR5, ⟨_, hp5, PairsAt.snoc hL5.ps (s6 _ _ (s3 _ _ (s2 _ _ ht)))⟩, hd, fun p' pas' H' sx e1 e2 e3 => ⟨rfl, ?_⟩⟩
    have s7 : Same H3 H' := fun b' o e => sx _ _ (ne_of_none e nx) (s6 _ _ e)
    have hR7 := hL3.road.to (Same.x s7)
    exact q { L with lg := x, dx := dx, pt := p', pas := pas' } H' (s1.trans (s2.trans (s3.trans s7))) ⟨⟨hR7.rd, hR7.wd, hR7.nt⟩, e1, e2, e3⟩
  refine ⟨L.pt, u, L.pas.map V.ref, [.ref t], rfl, rfl, SqT.of hL2.pt, SqT.of hu, ?_, fun e0 => ?_, fun _ e0 => (by cases e0), fun _ _ v nv => ?_⟩
  · rw [List.length_map, hpl]
    exact Nat.le_of_lt (small1000 (by simp; omega))
  · refine fin u H2 (Same.refl H2) ?_
    rw [List.map_append, e0]
    exact hu
  · refine fin v _ (same_new nv) ?_
    rw [upd_same, List.map_append]
    rfl
end
end Wp
set_option Elab.async false
set_option linter.all false
set_option maxRecDepth 100000
set_option maxHeartbeats 2000000
/-! WpD7: the smaller defs of plans and foes. -/
namespace Wp
open PySem PySem.Spec PyProof.Rows L2 WP
/-- a log as the greater defs ask it -/
structure LogOk (c : Cs) (H : Hp) (A : LogA) (d : LogD) : Prop where
  at_ : LogAt c H A d
  len : d.ns.length ≤ 24
  hL : d.L ≤ 3
  ne : can d ≠ []
theorem LogOk.to {c : Cs} {H H' : Hp} {A : LogA} {d : LogD} (h : LogOk c H A d) (k : Keep H H') : LogOk c H' A d := ⟨h.at_.to k, h.len, h.hL, h.ne⟩
theorem LogOk.ok {c : Cs} {H : Hp} {A : LogA} {d : LogD} (h : LogOk c H A d) : Ok (d.L + 1) (rowOf d) := rowF_ok h.ne h.len
def parOf (d : LogD) (pa ps : Nat) : Par := ⟨pa, ps, d.q⟩
theorem FoeAt.to {P : Program} {w : World} {H H' : Hp} {a : Addr} {es : List FE} (h : FoeAt P w H a es) (s : Same H H') : FoeAt P w H' a es :=
  ⟨s _ _ h.ob, h.en.big, h.en.sys, fun e he => ⟨s _ _ (h.en.key e he).1, s _ _ (h.en.key e he).2⟩, h.en.nd⟩
theorem FoeAt.keep {P : Program} {w : World} {H H' : Hp} {a : Addr} {es : List FE} (h : FoeAt P w H a es) (s : Keep H H') (e : H' a = H a) : FoeAt P w H' a es :=
  ⟨e.trans h.ob, h.en.big, h.en.sys, fun e he => ⟨s _ _ (h.en.key e he).1 (.tup _), s _ _ (h.en.key e he).2 (.tup _)⟩, h.en.nd⟩
def spCO (c : Cs) : Sp := fun vs H Q _ => ∃ (A : LogA) (d : LogD) (pp dp pa ps : Nat), vs = [.ref A.lg, .ref pp] ∧ LogOk c H A d ∧ PriceAt c H pp dp pa ps ∧ ∀ C H', Same H H' → H C.fa = none → CostsAt c H' C (parOf d pa ps) d.L [] → Q (.ref C.o) H'
def spLC (c : Cs) : Sp := fun vs H Q _ => ∃ (A : LogA) (d : LogD) (pp dp pa ps : Nat), vs = [.ref A.lg, .ref pp] ∧ LogOk c H A d ∧ PriceAt c H pp dp pa ps ∧ ∀ H', Same H H' → Q (.int (cost (parOf d pa ps) (rowOf d) : Nat)) H'
def spBO (c : Cs) : Sp := fun vs H Q _ => ∃ (A : LogA) (d : LogD) (a : Addr) (r : List Nat) (b : Nat), vs = [.ref A.lg, .ref a, .int b] ∧ LogAt c H A d ∧ RowAt H a r ∧ r.length ≤ 4 ∧ r ≠ [] ∧
  ∀ t p1 p2 H', Same H H' → H' t = some (.tup [.ref p1, .ref p2]) → RowAt H' p1 (ans d.q r b) → RowAt H' p2 (sil r b) → Q (.ref t) H'
def spNF : Sp := fun vs H Q _ => ∃ (pl a : Addr) (es : RE) (r : List Nat) (b : Nat), vs = [.ref pl, .ref a] ∧ RowD H pl es ∧ RowAt H a r ∧ lkp es r = some (.int b) ∧ 1 ≤ b ∧ b < r.sum ∧ Q (.int b) H
def spRK : Sp := fun vs H Q _ => ∃ (a : Addr) (r : List Nat) (L : Nat), vs = [.ref a] ∧ RowAt H a r ∧ Ok L r ∧ L ≤ 4 ∧ Q (.int ((100000 + rank r : Nat) : Int)) H
def spGO : Sp := fun vs H Q _ => ∃ (l : Addr) (x y : Nat), vs = [.ref l] ∧ H l = some (.lst [.int x, .int y]) ∧ ∀ H', Same H H' → Q (.int ((max x y : Nat) : Int)) H'
def spLR (c : Cs) : Sp := fun vs H Q _ => ∃ (A : LogA) (d : LogD) (a : Addr) (r : List Nat) (b : Nat) (z : Bool), vs = [.ref A.lg, .ref a, .int b, .bl z] ∧ LogAt c H A d ∧ RowAt H a r ∧ r.length ≤ 4 ∧ r ≠ [] ∧ ∀ p H', Same H H' → RowAt H' p (led d.q r b z) → Q (.ref p) H'
def spPO (c : Cs) : Sp := fun vs H Q _ => ∃ (pp dp pa ps : Nat) (z : Bool), vs = [.ref pp, .bl z] ∧ PriceAt c H pp dp pa ps ∧ Q (.int ((if z then pa else ps : Nat) : Int)) H
def spAT (P : Program) (w : World) : Sp := fun vs H Q _ => ∃ (fo a : Addr) (es : List FE) (r : List Nat) (b : Nat) (z : Bool), vs = [.ref fo, .ref a, .int b] ∧ FoeAt P w H fo es ∧ RowAt H a r ∧ foeVal es r b = some z ∧ ∀ H', Same H H' → Q (.bl z) H'
section
variable {P : Program} {w : World} {K : PySem.W.Frag} {mg : Str → Option Value} {base : Heap} {c : Cs}
theorem scCO : FnScope ["log", "prices"] ["log", "prices"] (defScope (topS 29)) := ⟨rfl, rfl, rfl, by decide +kernel, rfl, by decide +kernel, by decide +kernel⟩
theorem scLC : FnScope ["log", "prices", "row", "costs"] ["log", "prices"] (defScope (topS 30)) := ⟨rfl, rfl, rfl, by decide +kernel, rfl, by decide +kernel, by decide +kernel⟩
theorem scBO : FnScope ["log", "row", "below"] ["log", "row", "below"] (defScope (topS 32)) := ⟨rfl, rfl, rfl, by decide +kernel, rfl, by decide +kernel, by decide +kernel⟩
theorem scNF : FnScope ["plan", "row", "below"] ["plan", "row"] (defScope (topS 33)) := ⟨rfl, rfl, rfl, by decide +kernel, rfl, by decide +kernel, by decide +kernel⟩
theorem scRK : FnScope ["row", "left", "spare", "number"] ["row"] (defScope (topS 35)) := ⟨rfl, rfl, rfl, by decide +kernel, rfl, by decide +kernel, by decide +kernel⟩
theorem scGO : FnScope ["numbers", "number"] ["numbers"] (defScope (topS 39)) := ⟨rfl, rfl, rfl, by decide +kernel, rfl, by decide +kernel, by decide +kernel⟩
theorem scLR : FnScope ["log", "row", "below", "is_answered", "answered", "silent"] ["log", "row", "below", "is_answered"] (defScope (topS 43)) := ⟨rfl, rfl, rfl, by decide +kernel, rfl, by decide +kernel, by decide +kernel⟩
theorem scPO : FnScope ["prices", "is_answered"] ["prices", "is_answered"] (defScope (topS 45)) := ⟨rfl, rfl, rfl, by decide +kernel, rfl, by decide +kernel, by decide +kernel⟩
theorem scAT : FnScope ["foe", "row", "below", "key"] ["foe", "row", "below"] (defScope (topS 42)) := ⟨rfl, rfl, rfl, by decide +kernel, rfl, by decide +kernel, by decide +kernel⟩
theorem cal_co (T : Txt K mg c) : C8.Cal P w K mg base 5 "costs_of" (spCO c) [] := by
  obtain ⟨f0, fd0, M, F0, FO⟩ := fn_ci (P := P) (w := w) (base := base) T
  obtain ⟨mv, hb⟩ := F0.kbinds0 (ps := ["self", "losses", "prices", "in_a_row"]) 3 ["in_a_row"] [] (fun vs _ zs => vs ++ zs) (by simp) (fun q hq => absurd hq (by simp)) (fun r1 _ r3 => r1.append r3) (fun D doc pm an cdv ct us mv ws h1 h2 h3 => match us, h1, mv, h2, ws, h3 with | [_, _, _], _, [], _, [_], _ => rfl)
  refine cal_mk T.costs_of scCO (fun _ _ _ _ _ _ us hl => match us, hl with | [_, _], _ => rfl) (fun vs H Q E h => ?_) (fun f cdv A outer s H vs Q E hr h => ?_)
  · obtain ⟨A, d, pp, dp, pa, ps, rfl, _⟩ := h
    rfl
  obtain ⟨L, d, pp, dp, pa, ps, rfl, hL, hp, q⟩ := h
  refine ⟨_, (pss_one (ps_ret (pe_makeK (E := C8.E0) M FO (hr.mono (by decide)) rfl T.costs.g hb C8.pass0 (pa_cons (pe_fld (pe_fld (pv 0) rfl) rfl) (pa_cons (pv 1) pa_nil)) (pk_cons (pe_fld (pe_fld (pv 0) rfl) rfl) pk_nil)))), ?_⟩
  have h1 := hL.at_.lg
  have h2 := hL.at_.road.rd
  refine ⟨_, rfl, L.lg, c.log, L.dx, _, _, rfl, h1, T.log.cl, T.gN_road, rfl, L.rd, c.road, L.dr, _, _, rfl, h2, T.road.cl, T.rN_losses, rfl, _, rfl, _, rfl, L.lg, c.log, L.dx, _, _, rfl, h1, T.log.cl, T.gN_road, rfl, L.rd, c.road, L.dr, _, _, rfl, h2, T.road.cl, T.rN_in_a_row, rfl, rfl, rfl, fun x dx nx nd ne => ?_⟩
  have s1 : Same H (upd (upd H dx (.own x)) x (.ins c.costs dx [])) := fun b' o e => by
    rw [upd_ne (ne_of_none e nx), upd_ne (ne_of_none e nd)]
    exact e
  refine ⟨x, dx, pp, dp, d.L, parOf d pa ps, rfl, upd_same, hp.to (Same.x s1), hL.hL, fun fa H' nf sx hC => ⟨rfl, ?_⟩⟩
  have nfa : H fa = none := by
    by_cases e1 : fa = x
    · rw [e1]; exact nx
    · rw [upd_ne e1] at nf
      by_cases e2 : fa = dx
      · rw [e2]; exact nd
      · rwa [upd_ne e2] at nf
  exact q _ H' (fun b' o e => sx _ _ (ne_of_none e nx) (s1 _ _ e)) nfa hC
theorem cal_lc (T : Txt K mg c) : C8.Cal P w K mg base 7 "least_cost" (spLC c) [] := by
  obtain ⟨g, CO, FR⟩ := met_ca (P := P) (w := w) (mg := mg) (base := base) T
  refine cal_mk T.least_cost scLC (fun _ _ _ _ _ _ us hl => match us, hl with | [_, _], _ => rfl) (fun vs H Q E h => ?_) (fun f cdv A outer s H vs Q E hr h => ?_)
  · obtain ⟨A, d, pp, dp, pa, ps, rfl, _⟩ := h
    rfl
  obtain ⟨L, d, pp, dp, pa, ps, rfl, hL, hp, q⟩ := h
  refine ⟨_, (pss_cons (ps_set (i := 2) scLC.nd rfl (.inl rfl) (C8.pe_mt0 (met_ro T) hr (by decide) (pv 0)))
    (pss_cons (ps_set (i := 3) scLC.nd rfl (.inl rfl) (C8.pe_c (cal_co T) hr (by decide) rfl (pa_cons (pv 0) (pa_cons (pv 1) pa_nil))))
    (pss_one (ps_ret (StX.pe_callO (E := C8.E0) (pv 3) CO FR (hr.mono (by decide)) C8.pass0 (pa_cons (pv 2) pa_nil)))))), ?_⟩
  refine ⟨_, rfl, L.lg, L.dx, _, rfl, hL.at_.lg, rfl, L, d, rfl, hL.at_, hL.len, hL.hL, hL.ne, fun p H1 s1 hr1 => ?_⟩
  refine ⟨_, rfl, _, rfl, L, d, pp, dp, pa, ps, rfl, hL.to (Same.x s1), hp.to (Same.x s1), fun C H2 s2 nf hC => ?_⟩
  refine ⟨_, rfl, C.o, rfl, _, rfl, .inr ⟨_, _, hC.ob⟩, C, p, parOf d pa ps, d.L, [], _, rfl, hC, s2 _ _ hr1, hL.ok, fun H3 hf => ?_⟩
  exact q H3 (SameX.same (s1.trans s2) (s1.free nf) hf.1)
theorem cal_bo (T : Txt K mg c) : C8.Cal P w K mg base 3 "branches_of" (spBO c) [] := by
  refine cal_mk T.branches_of scBO (fun _ _ _ _ _ _ us hl => match us, hl with | [_, _, _], _ => rfl) (fun vs H Q E h => ?_) (fun f cdv A outer s H vs Q E hr h => ?_)
  · obtain ⟨A, d, a, r, b, rfl, _⟩ := h
    rfl
  obtain ⟨L, d, a, r, b, rfl, hL, ha, hl, hne, q⟩ := h
  refine ⟨_, (pss_one (ps_ret (pe_tup (pa_cons (C8.pe_c (cal_aa T) hr (by decide) rfl (pa_cons (pv 1) (pa_cons (pv 2) (pa_cons (pe_fld (pe_fld (pv 0) rfl) rfl) pa_nil)))) (pa_cons (C8.pe_c (cal_as T) hr (by decide) rfl (pa_cons (pv 1) (pa_cons (pv 2) pa_nil))) pa_nil))))), ?_⟩
  refine ⟨_, rfl, _, rfl, _, rfl, L.lg, c.log, L.dx, _, _, rfl, hL.lg, T.log.cl, T.gN_road, rfl, L.rd, c.road, L.dr, _, _, rfl, hL.road.rd, T.road.cl, T.rN_in_a_row, rfl, a, r, b, d.q, rfl, ha, hl, hne, fun p1 H1 s1 e1 => ?_⟩
  refine ⟨_, rfl, _, rfl, a, r, b, rfl, s1 _ _ ha, hl, fun p2 H2 s2 e2 => ?_⟩
  refine ⟨by show 2 ≤ sizeLine; decide, fun t nt => ?_⟩
  exact q t p1 p2 _ (s1.trans (s2.trans (same_new nt))) upd_same (same_new nt _ _ (s2 _ _ e1)) (same_new nt _ _ e2)
theorem cal_nf (T : Txt K mg c) : C8.Cal P w K mg base 2 "number_for" spNF [] := by
  refine cal_mk T.number_for scNF (fun _ _ _ _ _ _ us hl => match us, hl with | [_, _], _ => rfl) (fun vs H Q E h => ?_) (fun f cdv A outer s H vs Q E hr h => ?_)
  · obtain ⟨pl, a, es, r, b, rfl, _⟩ := h
    rfl
  obtain ⟨pl, a, es, r, b, rfl, hp, ha, hv, h1, h2, q⟩ := h
  refine ⟨_, (pss_cons (ps_if (pt_cmp (pc_dnotin (hu_of hr) (pv 1) (pv 0))) (pss_one ps_never) pss_nil)
    (pss_cons (ps_set (i := 2) scNF.nd rfl (.inl rfl) (pe_dget (hu_of hr) (pv 0) (pv 1) (fun _ _ => rfl)))
    (pss_cons (ps_if (PW.pt (pw_or (pt_not (pt_val (C8.pe_c (cal_ii T) hr (by decide) rfl (pa_cons (pv 2) pa_nil)))) (pw_or (pt_cmpR op_lt (pv 2) pe_int (nomark _)) (pw_or1 (pt_cmpR op_ge (pv 2) (pe_callB (cr_sumT rfl) (by rfl) T.bSum (by decide +kernel) (pa_cons (pv 1) pa_nil)) (nomark _)))))) (pss_one ps_never) pss_nil)
    (pss_one (ps_ret (pv 2)))))), ?_⟩
  have er : rv r = (r.map fun n : Nat => (n : Int)).map V.int := rv_ints r
  refine ⟨_, rfl, _, rfl, pl, _, rfl, rd_get hp ha, _, rfl, if0 (by rw [hv]; rfl) ?_⟩
  refine ⟨_, rfl, _, rfl, pl, _, rfl, rd_val hp ha hv, ?_⟩
  refine ⟨_, rfl, (b : Int), rfl, true, rfl, if0 rfl ⟨_, rfl, _, _, rfl, rfl, _, rfl, if0 (decide_eq_false (by omega)) ⟨_, rfl, _, rfl, a, _, rfl, er ▸ SqT.of ha, _, _, rfl, rfl, _, rfl, if0 (decide_eq_false ?_) ⟨_, rfl, q⟩⟩⟩⟩
  rw [sum_ints]
  omega
theorem cal_rk (T : Txt K mg c) : C8.Cal P w K mg base 1 "rank_of" spRK [] := by
  refine cal_mk T.rank_of scRK (fun _ _ _ _ _ _ us hl => match us, hl with | [_], _ => rfl) (fun vs H Q E h => ?_) (fun f cdv A outer s H vs Q E hr h => ?_)
  · obtain ⟨a, r, L, rfl, _⟩ := h
    rfl
  obtain ⟨a, r, L, rfl, ha, ho, hL, q⟩ := h
  refine ⟨_, (pss_cons (ps_set (i := 1) scRK.nd rfl (.inl rfl) (pe_callB call_len_seq (by rfl) T.bLen (by decide +kernel) (pa_cons (pv 0) pa_nil)))
    (pss_cons (ps_set (i := 2) scRK.nd rfl (.inl rfl) pe_int)
    (pss_cons (ps_for PassesOwn.never rfl (pi_tup (pv 0)) (pg_name (i := 3) scRK.nd rfl (.inl rfl))
    (pss_cons (ps_aug (i := 2) scRK.nd rfl (.inl rfl) (pe_op op_mul (pv 3) (pv 1)) ip_add)
    (pss_one (ps_aug (i := 1) scRK.nd rfl (.inl rfl) pe_int ip_sub))))
    (pss_one (ps_ret (pe_op op_add (pe_op op_add pe_int (pe_op op_mul (pe_callB (cr_sumT rfl) (by rfl) T.bSum (by decide +kernel) (pa_cons (pv 0) pa_nil)) pe_int)) (pv 2))))))), ?_⟩
  have er : rv r = (r.map fun n : Nat => (n : Int)).map V.int := rv_ints r
  refine ⟨_, rfl, a, _, rfl, .inr (SqT.of ha), _, rfl, a, rfl, ⟨_, SqT.of ha⟩, for_tup (K := K) (a := a) (xs := rv r) (fun i σ H' => ∃ (x : Option V) (sp : Nat), σ = [some (.ref a), some (.int (((r.length : Nat) : Int) - (i : Nat))), some (.int (sp : Nat)), x] ∧ H' = H ∧ sp + spare (r.drop i) = spare r)
    ⟨none, 0, ?_, rfl, Nat.zero_add _⟩ (fun i σ H' _ ⟨_, _, _, e, _⟩ => e ▸ SqT.of ha) ?_ ?_⟩
  · show [_, some (V.int ((rv r).length : Int)), _, _] = _
    rw [rv_len]
    simp
  · rintro i x σ H' hx ⟨x0, sp, rfl, rfl, hs⟩
    obtain ⟨n, hn, rfl⟩ := rv_get hx
    rw [drop_get hn] at hs
    have hi : i < r.length := (List.getElem?_eq_some_iff.mp hn).1
    have hn2 : n ≤ r.sum := mem_le_sum (List.mem_of_getElem? hn)
    have h24 := ho.top
    rw [show spare (n :: r.drop (i + 1)) = n * ((r.drop (i + 1)).length + 1) + spare (r.drop (i + 1)) from rfl] at hs
    refine ⟨_, rfl, _, rfl, _, rfl, _, _, rfl, rfl, .inl ⟨by omega, by omega⟩, _, _, rfl, rfl, ?_⟩
    refine ⟨_, rfl, _, _, rfl, rfl, some (.int n), sp + n * (r.length - i), ?_, rfl, ?_⟩
    · have e1 : ((r.length : Nat) : Int) - (i : Nat) - 1 = ((r.length : Nat) : Int) - ((i + 1 : Nat) : Int) := by omega
      have e2 : ((sp : Nat) : Int) + ((n : Nat) : Int) * (((r.length : Nat) : Int) - (i : Nat)) = ((sp + n * (r.length - i) : Nat) : Int) := by rw [Int.natCast_add, Int.natCast_mul, Int.natCast_sub (Nat.le_of_lt hi)]
      show [some (V.ref a), some (V.int (((r.length : Nat) : Int) - (i : Nat) - 1)), some (V.int (((sp : Nat) : Int) + ((n : Nat) : Int) * (((r.length : Nat) : Int) - (i : Nat)))), some (V.int (n : Nat))] = _
      rw [e1, e2]
    · rw [List.length_drop] at hs
      have e : r.length - (i + 1) + 1 = r.length - i := by omega
      rw [e] at hs
      omega
  · rintro σ H' ⟨x0, sp, rfl, rfl, hs⟩
    rw [rv_len, List.drop_length] at hs
    have h24 := ho.top
    refine ⟨_, rfl, a, _, rfl, er ▸ SqT.of ha, _, _, rfl, rfl, .inl ⟨by rw [sum_ints]; omega, by rw [sum_ints]; omega⟩, _, _, rfl, rfl, _, rfl, _, _, rfl, rfl, ?_⟩
    have e : (100000 : Int) + (r.map fun n : Nat => (n : Int)).sum * 1000 + ((sp : Nat) : Int) = ((100000 + rank r : Nat) : Int) := by
      rw [sum_ints]
      have e0 : spare ([] : List Nat) = 0 := rfl
      unfold rank
      omega
    rw [← e] at q
    exact q
theorem cal_go (T : Txt K mg c) : C8.Cal P w K mg base 1 "greatest_of" spGO [] := by
  refine cal_mk T.greatest_of scGO (fun _ _ _ _ _ _ us hl => match us, hl with | [_], _ => rfl) (fun vs H Q E h => ?_) (fun f cdv A outer s H vs Q E hr h => ?_)
  · obtain ⟨l, x, y, rfl, _⟩ := h
    rfl
  obtain ⟨l, x, y, rfl, hl, q⟩ := h
  refine ⟨_, (pss_one (ps_ret (pe_callB (cr_max rfl) (by rfl) T.bMax (by decide +kernel) (pa_cons (pe_lc (own := [("number", 1)]) (g := gName 1) (tt := tYes) rfl scGO.nd (pi_seq (pv 0)) (blkOk_by (N := ["numbers", "number"]) (sc := (defScope (topS 39))) (by decide +kernel)) (fun _ _ _ _ _ => (pg_name (i := 1) scGO.nd rfl (.inl rfl))) (fun _ _ _ _ _ => pts_nil) (fun _ _ _ _ _ => (pe_callTy call_int1 (by rfl) T.bInt (by decide +kernel) (pa_cons (pv 1) pa_nil)))) pa_nil)))), ?_⟩
  have hl2 : H l = some (.lst (rv [x, y])) := hl
  refine ⟨_, rfl, l, _, rfl, .inl ⟨SqL.of hl2, fun D nD => ?_⟩⟩
  have s1 : Same H (upd H D (.lst [])) := same_new nD
  refine lc_list (K := K) (a := l) (xs := rv [x, y]) (fun i H' => Same H H' ∧ H' D = some (.lst (rv ([x, y].take i)))) ⟨s1, upd_same⟩ (fun i H' _ ⟨s2, _⟩ => SqL.of (s2 _ _ hl2)) ?_ ?_
  · rintro i v H1 hv ⟨s2, hD⟩
    obtain ⟨n, hn, rfl⟩ := rv_get hv
    refine ⟨rfl, _, rfl, .inl ⟨_, rfl, _, hD, ?_, Same.mut s2 nD, ?_⟩⟩
    · rw [rv_len, List.length_take]
      exact small1000 (by simp; omega)
    · rw [upd_same, take_snoc hn, rv_app]
      rfl
  · rintro H1 ⟨s2, hD⟩
    rw [rv_len, List.take_length, rv_ints] at hD
    refine ⟨D, _, rfl, SqL.of hD, by simp, fun m hm hle => ?_⟩
    have e : m = ((max x y : Nat) : Int) := by
      have h1 := hle (x : Int) (by simp)
      have h2 := hle (y : Int) (by simp)
      simp at hm
      omega
    rw [e]
    exact q H1 s2
theorem cal_lr (T : Txt K mg c) : C8.Cal P w K mg base 4 "led_row" (spLR c) [] := by
  refine cal_mk T.led_row scLR (fun _ _ _ _ _ _ us hl => match us, hl with | [_, _, _, _], _ => rfl) (fun vs H Q E h => ?_) (fun f cdv A outer s H vs Q E hr h => ?_)
  · obtain ⟨A, d, a, r, b, z, rfl, _⟩ := h
    rfl
  obtain ⟨L, d, a, r, b, z, rfl, hL, ha, hl, hne, q⟩ := h
  refine ⟨_, (pss_cons (ps_asg (C8.pe_c (cal_bo T) hr (by decide) rfl (pa_cons (pv 0) (pa_cons (pv 1) (pa_cons (pv 2) pa_nil)))) (pg_tup rfl (pgs_cons (pg_name (i := 4) scLR.nd rfl (.inl rfl)) (pgs_cons (pg_name (i := 5) scLR.nd rfl (.inl rfl)) pgs_nil))))
    (pss_one (ps_ret (pe_ifExp (pt_val (pv 3)) (pv 4) (pv 5))))), ?_⟩
  refine ⟨_, rfl, _, rfl, _, rfl, L, d, a, r, b, rfl, hL, ha, hl, hne, fun t p1 p2 H1 s1 e0 e1 e2 => ?_⟩
  refine ⟨t, _, rfl, SqT.of e0, rfl, _, _, rfl, _, _, rfl, rfl, _, rfl, z, rfl, ?_⟩
  cases z with
  | true => exact if1 rfl ⟨_, rfl, q p1 H1 s1 e1⟩
  | false => exact if0 rfl ⟨_, rfl, q p2 H1 s1 e2⟩
theorem cal_po (T : Txt K mg c) : C8.Cal P w K mg base 1 "price_of" (spPO c) [] := by
  refine cal_mk T.price_of scPO (fun _ _ _ _ _ _ us hl => match us, hl with | [_, _], _ => rfl) (fun vs H Q E h => ?_) (fun f cdv A outer s H vs Q E hr h => ?_)
  · obtain ⟨pp, dp, pa, ps, z, rfl, _⟩ := h
    rfl
  obtain ⟨pp, dp, pa, ps, z, rfl, hp, q⟩ := h
  refine ⟨_, (pss_one (ps_ret (pe_ifExp (pt_val (pv 1)) (pe_fld (pv 0) rfl) (pe_fld (pv 0) rfl)))), ?_⟩
  refine ⟨_, rfl, z, rfl, ?_⟩
  cases z with
  | true => exact if1 rfl ⟨_, rfl, pp, c.prices, dp, _, _, rfl, hp.ob, T.prices.cl, T.pN_answer, rfl, q⟩
  | false => exact if0 rfl ⟨_, rfl, pp, c.prices, dp, _, _, rfl, hp.ob, T.prices.cl, T.pN_silence, rfl, q⟩
theorem cal_at (T : Txt K mg c) : C8.Cal P w K mg base 1 "answer_at" (spAT P w) [] := by
  refine cal_mk T.answer_at scAT (fun _ _ _ _ _ _ us hl => match us, hl with | [_, _, _], _ => rfl) (fun vs H Q E h => ?_) (fun f cdv A outer s H vs Q E hr h => ?_)
  · obtain ⟨fo, a, es, r, b, z, rfl, _⟩ := h
    rfl
  obtain ⟨fo, a, es, r, b, z, rfl, hf, ha, hv, q⟩ := h
  refine ⟨_, (pss_cons (ps_set (i := 3) scAT.nd rfl (.inl rfl) (pe_tup (pa_cons (pv 1) (pa_cons (pv 2) pa_nil))))
    (pss_cons (ps_if (pt_cmp (pc_fnotin (hu100 hr) (pv 3) (pv 0))) (pss_one ps_never) pss_nil)
    (pss_cons (ps_if (pt_not (pt_val (pe_callB call_isi (by rfl) T.bIsi (by decide +kernel) (pa_cons (pe_fget (hu100 hr) (pv 0) (pv 3) (fun _ _ => rfl)) (pa_cons (pe_bltn (v := .ty "bool") (u := .type "bool") rfl T.bBool (by decide +kernel) rfl) pa_nil))))) (pss_one ps_never) pss_nil)
    (pss_one (ps_ret (pe_fget (hu100 hr) (pv 0) (pv 3) (fun _ _ => rfl))))))), ?_⟩
  refine ⟨_, rfl, _, rfl, by show 2 ≤ sizeLine; decide, fun t nt => ?_⟩
  have s1 : Same H (upd H t (.tup [.ref a, .int (b : Nat)])) := same_new nt
  have ht : upd H t (.tup [.ref a, .int (b : Nat)]) t = some (.tup [.ref a, .int (b : Nat)]) := upd_same
  generalize upd H t (.tup [.ref a, .int (b : Nat)]) = H1 at s1 ht
  have hf1 := (hf.to s1).rd
  have hk : FKey H1 t r b := ⟨a, ht, s1 _ _ ha⟩
  refine ⟨_, rfl, _, rfl, fo, t, r, b, es, rfl, rfl, hf1, hk, _, rfl, if0 (by rw [hv]; rfl) ?_⟩
  refine ⟨_, rfl, _, rfl, fo, t, r, b, es, z, rfl, rfl, hf1, hk, hv, _, _, _, _, _, rfl, .ty _, .base (.bl _), kit_ty (r := true) (by decide +kernel), true, rfl, if0 rfl ⟨_, rfl, _, rfl, fo, t, r, b, es, z, rfl, rfl, hf1, hk, hv, q H1 s1⟩⟩
end
end Wp
set_option Elab.async false
set_option linter.all false
set_option maxRecDepth 100000
set_option maxHeartbeats 2000000
/-! WpD8: walks in breadth: what the four walks share. -/
namespace Wp
open PySem PySem.Spec PyProof.Rows L2 WP
def seenE (rl : RL) : RE := rl.map fun e => (e.2, V.bl true)
theorem seenE_keys (rl : RL) : (seenE rl).map (·.1) = rl.map (·.2) := by
  unfold seenE
  rw [List.map_map]
  rfl
/-- rows in breadth: their list at l, what is seen at sn -/
structure Bfs (L : Nat) (H : Hp) (l sn : Addr) (rl : RL) : Prop where
  ls : H l = some (.lst (refs rl))
  sn : RowD H sn (seenE rl)
  rows : RowsAt H rl
  nd : (rl.map (·.2)).Nodup
  ok : ∀ e ∈ rl, Ok L e.2
theorem Bfs.ne {L : Nat} {H : Hp} {l sn : Addr} {rl : RL} (b : Bfs L H l sn rl) : l ≠ sn := fun z => by
  have h1 := b.ls
  have h2 := b.sn
  rw [z, show H sn = some _ from h2] at h1
  cases h1
theorem Bfs.few {L : Nat} {H : Hp} {l sn : Addr} {rl : RL} (b : Bfs L H l sn rl) (hL : L ≤ 4) : rl.length ≤ 390625 := by
  have := WP.few hL b.nd (fun r hr => by
    obtain ⟨e, he, rfl⟩ := List.mem_map.mp hr
    exact b.ok e he)
  rwa [List.length_map] at this
theorem Bfs.to {L : Nat} {H H' : Hp} {l sn : Addr} {rl : RL} (b : Bfs L H l sn rl) (s : Same H H') : Bfs L H' l sn rl := ⟨s _ _ b.ls, s _ _ b.sn, b.rows.to (Same.x s), b.nd, b.ok⟩
theorem Bfs.k {L : Nat} {H H' : Hp} {l sn : Addr} {rl : RL} (b : Bfs L H l sn rl) (s : Keep H H') (e1 : H' l = H l) (e2 : H' sn = H sn) : Bfs L H' l sn rl := ⟨e1.trans b.ls, e2.trans b.sn, b.rows.to s, b.nd, b.ok⟩
/-- all but two stay -/
def SameB (l sn : Addr) (H H' : Hp) : Prop := ∀ b o, b ≠ l → b ≠ sn → H b = some o → H' b = some o
theorem SameB.same {l sn : Addr} {H H1 H2 : Hp} (a : Same H H1) (n1 : H l = none) (n2 : H sn = none) (b : SameB l sn H1 H2) : Same H H2 := fun c o e => b c o (ne_of_none e n1) (ne_of_none e n2) (a c o e)
theorem Bfs.keep {L : Nat} {H H' : Hp} {l sn : Addr} {rl : RL} (b : Bfs L H l sn rl) (s : SameB l sn H H') : Keep H H' := fun c o e f => s c o (fun z => by
  subst z
  rw [b.ls] at e
  cases e
  exact not_lst f) (fun z => by
  subst z
  rw [show H c = some _ from b.sn] at e
  cases e
  exact not_dT f) e
/-- one row more, unless it is seen -/
def sSee (L i j k : Nat) : TS := fun D σ H => ∃ (x : Addr) (r : List Nat) (l sn : Addr) (rl : RL), σ[i]? = some (some (.ref x)) ∧ σ[j]? = some (some (.ref sn)) ∧ σ[k]? = some (some (.ref l)) ∧ Bfs L H l sn rl ∧ RowAt H x r ∧ Ok L r ∧ L ≤ 4 ∧
  ∀ H' more, (rl ++ more).map (·.2) = addR (rl.map (·.2)) r → Bfs L H' l sn (rl ++ more) → SameB l sn H H' → D.nx σ H'
theorem ps_see {X : Cx} {st : Stmt} (L : Nat) {i j k : Nat} (h : PS X st (tIfS (tB (tDNotIn (tVar i) (tVar j))) (tSeq (sDPut (tVar j) (tVar i) (tC (.bl true))) (tDrop (tBM X.K "list" rAppend (tVar k) (tCons (tVar i) tNil)))) tNext)) : PS X st (sSee L i j k) := by
  refine ⟨fun pins s σ H D I q => h.run pins s σ H D I ?_⟩
  obtain ⟨x, r, l, sn, rl, h1, h2, h3, B, hx, ho, hL, q⟩ := q
  have nx : x ≠ l := lst_ne B.ls hx (fun ys z => by cases z)
  refine ⟨_, h1, _, h2, sn, _, rfl, rd_get B.sn hx, _, rfl, ?_⟩
  rw [lkp_some, seenE_keys]
  have hfew := B.few hL
  by_cases hm : r ∈ rl.map (·.2)
  · rw [decide_eq_true hm]
    refine if0 rfl (q H [] ?_ (by rw [List.append_nil]; exact B) (fun _ _ _ _ e => e))
    rw [List.append_nil]
    unfold addR
    rw [if_pos hm]
  · rw [decide_eq_false hm]
    have hlen : (seenE rl).length = rl.length := List.length_map _
    refine if1 rfl ⟨_, h2, _, h1, sn, _, rfl, rd_put _ B.sn hx (by rw [hlen]; exact small_m (by omega)), ?_⟩
    rw [insR_new _ (by rw [seenE_keys]; exact hm)]
    have k1 : Keep H (upd H sn (.dT (rkE (seenE rl ++ [(r, V.bl true)])))) := Keep.upd (show H sn = some _ from B.sn) not_dT
    have l1 : upd H sn (.dT (rkE (seenE rl ++ [(r, V.bl true)]))) l = some (.lst (refs rl)) := (upd_ne B.ne).trans B.ls
    have s1 : upd H sn (.dT (rkE (seenE rl ++ [(r, V.bl true)]))) sn = some (.dT (rkE (seenE (rl ++ [(x, r)])))) := by
      rw [upd_same]
      unfold seenE
      rw [List.map_append]
      rfl
    have o1 : ∀ b u, b ≠ sn → H b = some u → upd H sn (.dT (rkE (seenE rl ++ [(r, V.bl true)]))) b = some u := fun b u n e => (upd_ne n).trans e
    generalize upd H sn (.dT (rkE (seenE rl ++ [(r, V.bl true)]))) = H1 at k1 l1 s1 o1
    refine ⟨_, h3, .inl ⟨rfl, _, SqL.of l1⟩, _, h1, l, _, _, rfl, rfl, l1, ?_, ?_⟩
    · rw [refs_len]
      exact small_m (by omega)
    · have k2 : Keep H1 (upd H1 l (.lst (refs rl ++ [V.ref x]))) := Keep.upd l1 not_lst
      refine q _ [(x, r)] ?_ ⟨?_, (upd_ne B.ne.symm).trans s1, ?_, ?_, ?_⟩ (fun b u n1 n2 e => (upd_ne n1).trans (o1 b u n2 e))
      · rw [List.map_append]
        unfold addR
        rw [if_neg hm]
        rfl
      · rw [upd_same, refs_app]
        rfl
      · intro e he
        rcases List.mem_append.mp he with he | he
        · exact ((B.rows.to k1).to k2) e he
        · rw [List.mem_singleton.mp he]
          exact (hx.to k1).to k2
      · rw [List.map_append]
        have := addR_nd (x := r) B.nd
        unfold addR at this
        rwa [if_neg hm] at this
      · intro e he
        rcases List.mem_append.mp he with he | he
        · exact B.ok e he
        · rw [List.mem_singleton.mp he]
          exact ho
/-- {rows[0]: True}, rows the list at slot i with one row -/
def tSeen0 (L i : Nat) : TE := fun σ H Q => ∃ (l a : Addr) (r : List Nat), σ[i]? = some (some (.ref l)) ∧ H l = some (.lst [.ref a]) ∧ RowAt H a r ∧ Ok L r ∧ ∀ sn H', Same H H' → H sn = none → Bfs L H' l sn [(a, r)] → Q (.ref sn) H'
theorem pe_seen0 {X : Cx} {e : Expr} (L : Nat) {i : Nat} (h : PE X e (tDispT (tOp (rIxL X.K) (tVar i) (tC (.int 0))) (tC (.bl true)))) : PE X e (tSeen0 L i) := by
  refine ⟨fun pins s σ H Q I q => h.run pins s σ H Q I ?_⟩
  obtain ⟨l, a, r, h1, h2, h3, ho, q⟩ := q
  intro p np
  have s1 : Same H (upd H p (.dT [])) := same_new np
  refine ⟨_, h1, l, [.ref a], 0, .ref a, rfl, rfl, SqL.of (s1 _ _ h2), atI_nat (j := 0) rfl, a, rk r, rfl, upd_same, ?_, ?_⟩
  · rw [rk_rv]
    exact s1 _ _ h3
  · have s2 : Same H (upd (upd H p (.dT [])) p (.dT [(rk r, V.bl true)])) := fun b o e => by
      rw [upd_ne (ne_of_none e np)]
      exact s1 _ _ e
    refine q p _ s2 np ⟨s2 _ _ h2, upd_same, ?_, by simp, ?_⟩
    · intro e he
      rw [List.mem_singleton.mp he]
      exact s2 _ _ h3
    · intro e he
      rw [List.mem_singleton.mp he]
      exact ho
/-- what a told plan holds behind so many rows -/
def planE (p : Par) (rows : List (List Nat)) : RE := (rows.filter fun r => decide (1 < r.sum)).map fun r => (r, V.int (toldPl p r : Nat))
theorem planE_keys (p : Par) (rows : List (List Nat)) : (planE p rows).map (·.1) = rows.filter fun r => decide (1 < r.sum) := by
  unfold planE
  rw [List.map_map]
  exact (List.map_congr_left (fun _ _ => rfl)).trans (List.map_id _)
theorem planE_lkp {p : Par} {r : List Nat} (h1 : 1 < r.sum) : ∀ {rows : List (List Nat)}, r ∈ rows → lkp (planE p rows) r = some (.int (toldPl p r : Nat))
  | x :: rows, h => by
    unfold planE
    rw [List.filter_cons]
    by_cases e : x = r
    · subst e
      rw [if_pos (decide_eq_true h1)]
      unfold lkp
      rw [List.map_cons, List.find?_cons, decide_eq_true (show (x, V.int (toldPl p x : Nat)).1 = x from rfl)]
      rfl
    · have ih := planE_lkp (p := p) h1 ((List.mem_cons.mp h).resolve_left fun z => e z.symm)
      unfold planE at ih
      split
      · unfold lkp at ih ⊢
        rw [List.map_cons, List.find?_cons, decide_eq_false (show ¬ (x, V.int (toldPl p x : Nat)).1 = r from e)]
        exact ih
      · exact ih
theorem planE_snoc (p : Par) (rows : List (List Nat)) (r : List Nat) : planE p (rows ++ [r]) = planE p rows ++ if 1 < r.sum then [(r, V.int (toldPl p r : Nat))] else [] := by
  unfold planE
  rw [List.filter_append, List.map_append, List.filter_cons]
  by_cases h : 1 < r.sum
  · rw [if_pos (decide_eq_true h), if_pos h]
    rfl
  · rw [if_neg (by rw [decide_eq_false h]; exact Bool.false_ne_true), if_neg h]
    rfl
theorem planE_len (p : Par) (rows : List (List Nat)) : (planE p rows).length ≤ rows.length := by
  unfold planE
  rw [List.length_map]
  exact List.length_filter_le _ _
/-- how rows come of one another -/
structure RowsC (S : List Nat → Prop) (nx : List Nat → List Nat → Prop) (r0 : List Nat) (rows : List (List Nat)) : Prop where
  nd : rows.Nodup
  st : r0 ∈ rows
  inS : ∀ r ∈ rows, S r
  cl : ∀ r ∈ rows, ∀ x, nx r x → x ∈ rows
/-- what a plan's dict holds: S holds the rows that are reached -/
structure Covers (q : Bool) (L : Nat) (S : List Nat → Prop) (pl : List Nat → Nat) (es : RE) (r0 : List Nat) : Prop where
  st : S r0
  ok : ∀ r, S r → Ok L r
  at_ : ∀ r, S r → 1 < r.sum → lkp es r = some (.int (pl r : Nat)) ∧ 1 ≤ pl r ∧ pl r < r.sum
  nx : ∀ r, S r → 1 < r.sum → ∀ a, S (led q r (pl r) a)
def nxP (q : Bool) (pl : List Nat → Nat) (r x : List Nat) : Prop := 1 < r.sum ∧ ∃ a, x = led q r (pl r) a
structure CoversF (q : Bool) (L : Nat) (S : List Nat → Prop) (fo : List Nat → Nat → Bool) (es : List FE) (r0 : List Nat) : Prop where
  st : S r0
  ok : ∀ r, S r → Ok L r
  at_ : ∀ r, S r → ∀ b, 1 ≤ b → b < r.sum → foeVal es r b = some (fo r b)
  nx : ∀ r, S r → ∀ b, 1 ≤ b → b < r.sum → S (led q r b (fo r b))
def nxF (q : Bool) (fo : List Nat → Nat → Bool) (r x : List Nat) : Prop := ∃ b, 1 ≤ b ∧ b < r.sum ∧ x = led q r b (fo r b)
theorem see_more {a b : List (List Nat)} {r : List Nat} (h : a ++ b = addR a r) : (∀ x ∈ b, x = r) ∧ r ∈ a ++ b := by
  refine ⟨fun x hx => ?_, by rw [h]; exact addR_mem.mpr (.inr rfl)⟩
  unfold addR at h
  split at h
  · have : b = [] := List.append_cancel_left (h.trans (List.append_nil a).symm)
    rw [this] at hx
    simp at hx
  · have : b = [r] := List.append_cancel_left h
    rw [this] at hx
    exact List.mem_singleton.mp hx
/-- a walk in breadth at its turn i -/
structure BfsI (L : Nat) (S : List Nat → Prop) (nx : List Nat → List Nat → Prop) (r0 : List Nat) (H : Hp) (l sn : Addr) (i : Nat) (rl : RL) (H' : Hp) : Prop where
  hi : i ≤ rl.length
  sm : Same H H'
  B : Bfs L H' l sn rl
  st : r0 ∈ rl.map (·.2)
  inS : ∀ r ∈ rl.map (·.2), S r
  cl : ∀ j e, j < i → rl[j]? = some e → ∀ x, nx e.2 x → x ∈ rl.map (·.2)
section
variable {L : Nat} {S : List Nat → Prop} {nx : List Nat → List Nat → Prop} {r0 : List Nat} {H H' H5 : Hp} {l sn : Addr} {i : Nat} {rl : RL}
theorem BfsI.start {a : Addr} (s : Same H H') (B : Bfs L H' l sn [(a, r0)]) (h : S r0) : BfsI L S nx r0 H l sn 0 [(a, r0)] H' :=
  ⟨Nat.zero_le _, s, B, by simp, fun r hr => by
    rw [List.mem_singleton.mp hr]
    exact h, fun j e hj => absurd hj (Nat.not_lt_zero _)⟩
theorem BfsI.next (I : BfsI L S nx r0 H l sn i rl H') {e : Addr × List Nat} {more : RL} (he : rl[i]? = some e) (s : Same H H5) (B : Bfs L H5 l sn (rl ++ more)) (hS : ∀ x ∈ more.map (·.2), S x) (hn : ∀ x, nx e.2 x → x ∈ (rl ++ more).map (·.2)) :
    BfsI L S nx r0 H l sn (i + 1) (rl ++ more) H5 := by
  have hlt := (List.getElem?_eq_some_iff.mp he).1
  refine ⟨by rw [List.length_append]; omega, s, B, ?_, fun r hr => ?_, fun j e' hj hje x hx => ?_⟩
  · rw [List.map_append]
    exact List.mem_append_left _ I.st
  · rw [List.map_append] at hr
    rcases List.mem_append.mp hr with hr | hr
    · exact I.inS r hr
    · exact hS r hr
  · rw [List.getElem?_append_left (by omega)] at hje
    by_cases h : j = i
    · subst h
      rw [he] at hje
      cases hje
      exact hn x hx
    · rw [List.map_append]
      exact List.mem_append_left _ (I.cl j e' (by omega) hje x hx)
theorem BfsI.stop (I : BfsI L S nx r0 H l sn i rl H') (h : rl.length ≤ i) : RowsC S nx r0 (rl.map (·.2)) :=
  ⟨I.B.nd, I.st, I.inS, fun r hr x hx => by
    obtain ⟨e, he, rfl⟩ := List.mem_map.mp hr
    obtain ⟨j, hj⟩ := List.getElem?_of_mem he
    exact I.cl j e (by have := (List.getElem?_eq_some_iff.mp hj).1; omega) hj x hx⟩
end
/-- both branches are seen -/
theorem see_two {K : PySem.W.Frag} {D : Ends} {σ0 : L2.St} {H0 : Hp} {L i j k : Nat} {tt l sn p1 p2 : Addr} {r1 r2 : List Nat} {rl : RL} (hL : L ≤ 4) (hj : i ≠ j) (hk : i ≠ k) (hi : i < σ0.length) (ej : σ0[j]? = some (some (.ref sn))) (ek : σ0[k]? = some (some (.ref l)))
    (B : Bfs L H0 l sn rl) (ht : H0 tt = some (.tup [.ref p1, .ref p2])) (h1 : RowAt H0 p1 r1) (h2 : RowAt H0 p2 r2) (o1 : Ok L r1) (o2 : Ok L r2)
    (fin : ∀ e H' more, SameB l sn H0 H' → Bfs L H' l sn (rl ++ more) → (∀ x ∈ more.map (·.2), x = r1 ∨ x = r2) → r1 ∈ (rl ++ more).map (·.2) → r2 ∈ (rl ++ more).map (·.2) → D.nx (σ0.set i e) H') :
    ∃ W : Nat → Nat → L2.St → Hp → Prop, (∃ m, W 0 m σ0 H0) ∧ ∀ n m σ H, W n m σ H →
      ((Itt K tt).stop n H ∧ D.nx σ H) ∨ ((Itt K tt).go n H ∧ ∃ N : L2.St → Hp → Prop, (∀ σ' H', N σ' H' → ∃ m', m' < m ∧ W (n + 1) m' σ' H') ∧ ∀ x H', (Itt K tt).yld n H x H' → gName i x σ H' fun σ2 H2 => sSee L i j k { D with nx := N, ct := N, bk := D.nx } σ2 H2) := by
  have keep : ∀ {H'}, SameB l sn H0 H' → Keep H0 H' := fun s => B.keep s
  refine for_tup (K := K) (a := tt) (xs := [V.ref p1, V.ref p2]) (fun n σ H' => (∃ e, σ = σ0.set i e) ∧ ∃ more, SameB l sn H0 H' ∧ Bfs L H' l sn (rl ++ more) ∧ (∀ x ∈ more.map (·.2), x = r1 ∨ x = r2) ∧ (1 ≤ n → r1 ∈ (rl ++ more).map (·.2)) ∧ (2 ≤ n → r2 ∈ (rl ++ more).map (·.2)))
    ⟨⟨σ0[i], (List.set_getElem_self hi).symm⟩, [], fun _ _ _ _ e => e, by rw [List.append_nil]; exact B, (fun x hx => by simp at hx), (fun h => absurd h (by decide)), (fun h => absurd h (by decide))⟩
    (fun n σ H' _ ⟨_, more, s, _⟩ => SqT.of (keep s _ _ ht (.tup _))) ?_ ?_
  · rintro n x σ H' hx ⟨⟨e, rfl⟩, more, s, B1, hm, m1, m2⟩
    obtain ⟨q, r, rfl, hq, hr, hcase⟩ : ∃ q r, x = V.ref q ∧ RowAt H0 q r ∧ Ok L r ∧ ((n = 0 ∧ r = r1) ∨ (n = 1 ∧ r = r2)) := by
      match n, hx with
      | 0, hx => exact ⟨p1, r1, (Option.some.inj hx).symm, h1, o1, .inl ⟨rfl, rfl⟩⟩
      | 1, hx => exact ⟨p2, r2, (Option.some.inj hx).symm, h2, o2, .inr ⟨rfl, rfl⟩⟩
      | n + 2, hx => cases hx
    have hl : i < (σ0.set i e).length := by rw [List.length_set]; exact hi
    refine ⟨q, r, l, sn, rl ++ more, List.getElem?_set_self hl, ?_, ?_, B1, hq.to (keep s), hr, hL, fun H2 mo2 hadd B2 s2 => ?_⟩
    · rw [List.getElem?_set_ne hj, List.getElem?_set_ne hj]
      exact ej
    · rw [List.getElem?_set_ne hk, List.getElem?_set_ne hk]
      exact ek
    · rw [List.map_append] at hadd
      obtain ⟨c1, c2⟩ := see_more hadd
      rw [List.append_assoc] at B2
      have up : ∀ y, y ∈ (rl ++ more).map (·.2) → y ∈ (rl ++ (more ++ mo2)).map (·.2) := fun y hy => by
        rw [← List.append_assoc, List.map_append]
        exact List.mem_append_left _ hy
      have cr : r ∈ (rl ++ (more ++ mo2)).map (·.2) := by
        rw [← List.append_assoc, List.map_append]
        exact c2
      refine ⟨⟨some (.ref q), by rw [List.set_set]⟩, more ++ mo2, fun b o n1 n2 e => s2 b o n1 n2 (s b o n1 n2 e), B2, fun y hy => ?_, fun hn => ?_, fun hn => ?_⟩
      · rw [List.map_append] at hy
        rcases List.mem_append.mp hy with hy | hy
        · exact hm y hy
        · rw [c1 y hy]
          rcases hcase with ⟨_, e⟩ | ⟨_, e⟩
          · exact .inl e
          · exact .inr e
      · rcases hcase with ⟨e0, e⟩ | ⟨e0, e⟩
        · rw [← e]; exact cr
        · exact up _ (m1 (by omega))
      · rcases hcase with ⟨e0, e⟩ | ⟨e0, e⟩
        · omega
        · rw [← e]; exact cr
  · rintro σ H' ⟨⟨e, rfl⟩, more, s, B1, hm, m1, m2⟩
    exact fin e H' more s B1 hm (m1 (Nat.succ_le_succ (Nat.zero_le _))) (m2 (Nat.le_refl _))
end Wp
set_option Elab.async false
set_option linter.all false
set_option maxRecDepth 100000
set_option maxHeartbeats 2000000
/-! WpD9: the four walks in breadth. -/
namespace Wp
open PySem PySem.Spec PyProof.Rows L2 WP
def spRR (c : Cs) : Sp := fun vs H Q _ => ∃ (A : LogA) (d : LogD) (pa : Addr) (es : RE) (S : List Nat → Prop) (pl : List Nat → Nat), vs = [.ref A.lg, .ref pa] ∧ LogOk c H A d ∧ RowD H pa es ∧ Covers d.q (d.L + 1) S pl es (rowOf d) ∧
  ∀ l rl H', Same H H' → H' l = some (.lst (refs rl)) → RowsAt H' rl → RowsC S (nxP d.q pl) (rowOf d) (rl.map (·.2)) → Q (.ref l) H'
def spMR (c : Cs) (P : Program) (w : World) : Sp := fun vs H Q _ => ∃ (A : LogA) (d : LogD) (fa : Addr) (es : List FE) (S : List Nat → Prop) (fo : List Nat → Nat → Bool), vs = [.ref A.lg, .ref fa] ∧ LogOk c H A d ∧ FoeAt P w H fa es ∧ CoversF d.q (d.L + 1) S fo es (rowOf d) ∧
  ∀ l rl H', Same H H' → H' l = some (.lst (refs rl)) → RowsAt H' rl → RowsC S (nxF d.q fo) (rowOf d) (rl.map (·.2)) → Q (.ref l) H'
/-- all values are whole numbers -/
def IntsE (es : RE) : Prop := ∀ e ∈ es, ∃ n : Nat, e.2 = V.int (n : Int)
def spTP (c : Cs) : Sp := fun vs H Q _ => ∃ (A : LogA) (d : LogD) (pp dp pa ps : Nat), vs = [.ref A.lg, .ref pp] ∧ LogOk c H A d ∧ PriceAt c H pp dp pa ps ∧
  ∀ pd es S H', Same H H' → RowD H' pd es → IntsE es → es.length ≤ 390625 → Covers d.q (d.L + 1) S (toldPl (parOf d pa ps)) es (rowOf d) → Q (.ref pd) H'
def spTF (c : Cs) (P : Program) (w : World) : Sp := fun vs H Q _ => ∃ (A : LogA) (d : LogD) (pp dp pa ps : Nat), vs = [.ref A.lg, .ref pp] ∧ LogOk c H A d ∧ PriceAt c H pp dp pa ps ∧
  ∀ fa es S H', Same H H' → FoeAt P w H' fa es → CoversF d.q (d.L + 1) S (toldFo (parOf d pa ps)) es (rowOf d) → Q (.ref fa) H'
theorem told_good (p : Par) (r : List Nat) (h : 1 < r.sum) : 1 ≤ toldPl p r ∧ toldPl p r < r.sum := by
  unfold toldPl
  cases e : best p r with
  | nil => exact ⟨Nat.le_refl _, h⟩
  | cons b t =>
    have hb : b ∈ best p r := by rw [e]; exact List.mem_cons_self ..
    exact mem_bs.mp (List.mem_filter.mp hb).1
theorem nodup_ix2 {l : List (List Nat)} (nd : l.Nodup) {i j : Nat} {x : List Nat} (a : l[i]? = some x) (b : l[j]? = some x) : i = j := by
  obtain ⟨h1, e1⟩ := List.getElem?_eq_some_iff.mp a
  obtain ⟨h2, e2⟩ := List.getElem?_eq_some_iff.mp b
  exact (List.getElem_inj nd).mp (e1.trans e2.symm)
section
variable {P : Program} {w : World} {K : PySem.W.Frag} {mg : Str → Option Value} {base : Heap} {c : Cs}
theorem scRR : FnScope ["log", "plan", "rows", "seen", "place", "row", "branch"] ["log", "plan"] (defScope (topS 34)) := ⟨rfl, rfl, rfl, by decide +kernel, rfl, by decide +kernel, by decide +kernel⟩
theorem scTP : FnScope ["log", "prices", "rows", "costs", "plan", "place", "seen", "row", "branch"] ["log", "prices"] (defScope (topS 40)) := ⟨rfl, rfl, rfl, by decide +kernel, rfl, by decide +kernel, by decide +kernel⟩
theorem scMR : FnScope ["log", "foe", "rows", "seen", "place", "row", "below", "led"] ["log", "foe"] (defScope (topS 44)) := ⟨rfl, rfl, rfl, by decide +kernel, rfl, by decide +kernel, by decide +kernel⟩
theorem scTF : FnScope ["log", "prices", "costs", "rows", "seen", "foe", "place", "row", "below", "answered", "silent", "led"] ["log", "prices"] (defScope (topS 47)) := ⟨rfl, rfl, rfl, by decide +kernel, rfl, by decide +kernel, by decide +kernel⟩
theorem cal_rr (T : Txt K mg c) : C8.Cal P w K mg base 6 "reached_rows" (spRR c) [] := by
  refine cal_mk T.reached_rows scRR (fun _ _ _ _ _ _ us hl => match us, hl with | [_, _], _ => rfl) (fun vs H Q E h => ?_) (fun f cdv A outer s H vs Q E hr h => ?_)
  · obtain ⟨A, d, pa, es, S, pl, rfl, _⟩ := h
    rfl
  obtain ⟨LA, d, pa, es, S, pl, rfl, hL, hpa, hcv, q⟩ := h
  generalize hLe : d.L = L at hcv
  have hL3 : L ≤ 3 := by have := hL.hL; omega
  refine ⟨_, (pss_cons (ps_set (i := 2) scRR.nd rfl (.inl rfl) (pe_lst (pa_cons (C8.pe_mt0 (met_ro T) hr (by decide) (pv 0)) pa_nil)))
    (pss_cons (ps_set (i := 3) scRR.nd rfl (.inl rfl) (pe_seen0 (L + 1) (i := 2) (pe_dispT (hu100 hr) (pe_ix ix_list (pv 2) pe_int (fun _ _ => rfl)) pe_bl)))
    (pss_cons (ps_set (i := 4) scRR.nd rfl (.inl rfl) pe_int)
    (pss_cons (ps_while PassesOwn.never (pt_cmpR op_lt (pv 4) (pe_callB call_len_seq (by rfl) T.bLen (by decide +kernel) (pa_cons (pv 2) pa_nil)) (nomark _))
    (pss_cons (ps_set (i := 5) scRR.nd rfl (.inl rfl) (pe_ix ix_list (pv 2) (pv 4) (fun _ _ => rfl)))
    (pss_cons (ps_aug (i := 4) scRR.nd rfl (.inl rfl) pe_int ip_add)
    (pss_one (ps_if (pt_cmpR op_gt (pe_callB (cr_sumT rfl) (by rfl) T.bSum (by decide +kernel) (pa_cons (pv 5) pa_nil)) pe_int (nomark _)) (pss_one (ps_for PassesOwn.never rfl (pi_tup (C8.pe_c (cal_bo T) hr (by decide) rfl (pa_cons (pv 0) (pa_cons (pv 5) (pa_cons (C8.pe_c (cal_nf T) hr (by decide) rfl (pa_cons (pv 1) (pa_cons (pv 5) pa_nil))) pa_nil))))) (pg_name (i := 6) scRR.nd rfl (.inl rfl))
    (pss_one (ps_see (L + 1) (i := 6) (j := 3) (k := 2) (ps_if (pt_cmp (pc_dnotin (hu_of hr) (pv 6) (pv 3))) (pss_cons (ps_dput (hu_of hr) (pv 3) (pv 6) pe_bl rfl) (pss_one (ps_expr (pe_bm PySem.F.plainAttrs_list PySem.F.slot_list_append PySem.F.type_list_append mt_append (pv 2) (pa_cons (pv 6) pa_nil))))) pss_nil))))) pss_nil)))))
    (pss_one (ps_ret (pv 2))))))), ?_⟩
  refine ⟨_, rfl, LA.lg, LA.dx, _, rfl, hL.at_.lg, rfl, LA, d, rfl, hL.at_, hL.len, hL.hL, hL.ne, fun p H1 s1 hr1 => ?_⟩
  refine ⟨by show 1 ≤ sizeLine; decide, fun l nl => ?_⟩
  have s2 : Same H1 (upd H1 l (.lst [.ref p])) := same_new nl
  have hl2 : upd H1 l (.lst [.ref p]) l = some (.lst [.ref p]) := upd_same
  generalize upd H1 l (.lst [.ref p]) = H2 at s2 hl2
  have ho := hL.ok
  rw [hLe] at ho
  refine ⟨l, p, rowOf d, rfl, hl2, s2 _ _ hr1, ho, fun sn H3 s3 nsn B => ?_⟩
  have nl0 : H l = none := s1.free nl
  have nsn0 : H sn = none := (s1.trans s2).free nsn
  refine ⟨fun m σ H' => ∃ (rl : RL) (i : Nat) (e1 e2 : Option V), σ = [some (.ref LA.lg), some (.ref pa), some (.ref l), some (.ref sn), some (.int (i : Nat)), e1, e2] ∧ m = 390626 - i ∧ BfsI (L + 1) S (nxP d.q pl) (rowOf d) H l sn i rl H', ⟨_, _, 0, none, none, rfl, rfl, BfsI.start (s1.trans (s2.trans s3)) B hcv.st⟩, ?_⟩
  rintro m σ H4 ⟨rl, i, e1, e2, rfl, rfl, I⟩
  have hfew := I.B.few (by omega)
  refine ⟨_, rfl, _, rfl, l, _, rfl, .inl (SqL.of I.B.ls), _, _, rfl, rfl, _, rfl, ?_⟩
  rw [refs_len]
  by_cases hlt : i < rl.length
  rotate_left
  · exact if0 (decide_eq_false (by omega)) ⟨_, rfl, q l rl H4 I.sm I.B.ls I.B.rows (I.stop (by omega))⟩
  refine if1 (decide_eq_true (by omega)) ⟨_, fun σ' H' z => z, ?_⟩
  obtain ⟨⟨a, r⟩, he⟩ : ∃ e, rl[i]? = some e := ⟨_, List.getElem?_eq_getElem hlt⟩
  have hm := List.mem_of_getElem? he
  have ha : RowAt H4 a r := I.B.rows _ hm
  have hor : Ok (L + 1) r := I.B.ok _ hm
  have hSr : S r := I.inS r (List.mem_map.mpr ⟨_, hm, rfl⟩)
  have er : rv r = (r.map fun n : Nat => (n : Int)).map V.int := rv_ints r
  refine ⟨_, rfl, _, rfl, l, _, _, _, rfl, rfl, SqL.of I.B.ls, atI_nat (refs_get' he), ?_⟩
  refine ⟨_, rfl, _, _, rfl, rfl, ?_⟩
  refine ⟨_, rfl, a, _, rfl, er ▸ SqT.of ha, _, _, rfl, rfl, _, rfl, ?_⟩
  rw [sum_ints]
  by_cases h1 : 1 < r.sum
  rotate_left
  · have I2 := I.next (H5 := H4) (more := []) he I.sm (by rw [List.append_nil]; exact I.B) (fun x hx => by simp at hx) (fun x hx => absurd hx.1 h1)
    exact if0 (decide_eq_false (by omega)) ⟨390626 - (i + 1), by omega, _, i + 1, _, _, rfl, rfl, I2⟩
  refine if1 (decide_eq_true (by omega)) ?_
  obtain ⟨g1, g2, g3⟩ := hcv.at_ r hSr h1
  refine ⟨_, rfl, _, rfl, _, rfl, _, rfl, pa, a, es, r, pl r, rfl, I.sm _ _ hpa, ha, g1, g2, g3, ?_⟩
  refine ⟨LA, d, a, r, pl r, rfl, hL.at_.to (Same.x I.sm), ha, by have := hor.len; omega, hor.ne, fun t p1 p2 H5 s5 e5 f1 f2 => ?_⟩
  have B5 := I.B.to s5
  refine ⟨t, rfl, ⟨_, SqT.of e5⟩, see_two (by omega) (by decide) (by decide) (by show 6 < 7; decide) rfl rfl B5 e5 f1 f2 (hor.ans d.q g3) (hor.sil g2 g3) fun e6 H6 more sb B6 hmo m1 m2 => ?_⟩
  have s6 : Same H H6 := SameB.same (I.sm.trans s5) nl0 nsn0 sb
  have I2 := I.next he s6 B6 (fun x hx => ?_) (fun x hx => ?_)
  · exact ⟨390626 - (i + 1), by omega, _, i + 1, _, _, rfl, rfl, I2⟩
  · rcases hmo x hx with e | e
    · rw [e]; exact hcv.nx r hSr h1 true
    · rw [e]; exact hcv.nx r hSr h1 false
  · obtain ⟨_, z, e⟩ := hx
    cases z with
    | true => rw [e]; exact m1
    | false => rw [e]; exact m2
theorem cal_mr (T : Txt K mg c) : C8.Cal P w K mg base 6 "met_rows" (spMR c P w) [] := by
  refine cal_mk T.met_rows scMR (fun _ _ _ _ _ _ us hl => match us, hl with | [_, _], _ => rfl) (fun vs H Q E h => ?_) (fun f cdv A outer s H vs Q E hr h => ?_)
  · obtain ⟨A, d, pa, es, S, pl, rfl, _⟩ := h
    rfl
  obtain ⟨LA, d, fa, es, S, fo, rfl, hL, hfa, hcv, q⟩ := h
  generalize hLe : d.L = L at hcv
  have hL3 : L ≤ 3 := by have := hL.hL; omega
  refine ⟨_, (pss_cons (ps_set (i := 2) scMR.nd rfl (.inl rfl) (pe_lst (pa_cons (C8.pe_mt0 (met_ro T) hr (by decide) (pv 0)) pa_nil)))
    (pss_cons (ps_set (i := 3) scMR.nd rfl (.inl rfl) (pe_seen0 (L + 1) (i := 2) (pe_dispT (hu100 hr) (pe_ix ix_list (pv 2) pe_int (fun _ _ => rfl)) pe_bl)))
    (pss_cons (ps_set (i := 4) scMR.nd rfl (.inl rfl) pe_int)
    (pss_cons (ps_while PassesOwn.never (pt_cmpR op_lt (pv 4) (pe_callB call_len_seq (by rfl) T.bLen (by decide +kernel) (pa_cons (pv 2) pa_nil)) (nomark _))
    (pss_cons (ps_set (i := 5) scMR.nd rfl (.inl rfl) (pe_ix ix_list (pv 2) (pv 4) (fun _ _ => rfl)))
    (pss_cons (ps_aug (i := 4) scMR.nd rfl (.inl rfl) pe_int ip_add)
    (pss_one (ps_for PassesOwn.never rfl (pi_range2 rfl T.bRange (pa_cons pe_int (pa_cons (pe_callB (cr_sumT rfl) (by rfl) T.bSum (by decide +kernel) (pa_cons (pv 5) pa_nil)) pa_nil))) (pg_name (i := 6) scMR.nd rfl (.inl rfl))
    (pss_cons (ps_set (i := 7) scMR.nd rfl (.inl rfl) (C8.pe_c (cal_lr T) hr (by decide) rfl (pa_cons (pv 0) (pa_cons (pv 5) (pa_cons (pv 6) (pa_cons (C8.pe_c (cal_at T) hr (by decide) rfl (pa_cons (pv 1) (pa_cons (pv 5) (pa_cons (pv 6) pa_nil)))) pa_nil))))))
    (pss_one (ps_see (L + 1) (i := 7) (j := 3) (k := 2) (ps_if (pt_cmp (pc_dnotin (hu_of hr) (pv 7) (pv 3))) (pss_cons (ps_dput (hu_of hr) (pv 3) (pv 7) pe_bl rfl) (pss_one (ps_expr (pe_bm PySem.F.plainAttrs_list PySem.F.slot_list_append PySem.F.type_list_append mt_append (pv 2) (pa_cons (pv 7) pa_nil))))) pss_nil)))))))))
    (pss_one (ps_ret (pv 2))))))), ?_⟩
  refine ⟨_, rfl, LA.lg, LA.dx, _, rfl, hL.at_.lg, rfl, LA, d, rfl, hL.at_, hL.len, hL.hL, hL.ne, fun p H1 s1 hr1 => ?_⟩
  refine ⟨by show 1 ≤ sizeLine; decide, fun l nl => ?_⟩
  have s2 : Same H1 (upd H1 l (.lst [.ref p])) := same_new nl
  have hl2 : upd H1 l (.lst [.ref p]) l = some (.lst [.ref p]) := upd_same
  generalize upd H1 l (.lst [.ref p]) = H2 at s2 hl2
  have ho := hL.ok
  rw [hLe] at ho
  refine ⟨l, p, rowOf d, rfl, hl2, s2 _ _ hr1, ho, fun sn H3 s3 nsn B => ?_⟩
  have nl0 : H l = none := s1.free nl
  have nsn0 : H sn = none := (s1.trans s2).free nsn
  refine ⟨fun m σ H' => ∃ (rl : RL) (i : Nat) (e1 e2 e3 : Option V), σ = [some (.ref LA.lg), some (.ref fa), some (.ref l), some (.ref sn), some (.int (i : Nat)), e1, e2, e3] ∧ m = 390626 - i ∧ BfsI (L + 1) S (nxF d.q fo) (rowOf d) H l sn i rl H', ⟨_, _, 0, none, none, none, rfl, rfl, BfsI.start (s1.trans (s2.trans s3)) B hcv.st⟩, ?_⟩
  rintro m σ H4 ⟨rl, i, e1, e2, e3, rfl, rfl, I⟩
  have hfew := I.B.few (by omega)
  refine ⟨_, rfl, _, rfl, l, _, rfl, .inl (SqL.of I.B.ls), _, _, rfl, rfl, _, rfl, ?_⟩
  rw [refs_len]
  by_cases hlt : i < rl.length
  rotate_left
  · exact if0 (decide_eq_false (by omega)) ⟨_, rfl, q l rl H4 I.sm I.B.ls I.B.rows (I.stop (by omega))⟩
  refine if1 (decide_eq_true (by omega)) ⟨_, fun σ' H' z => z, ?_⟩
  obtain ⟨⟨a, r⟩, he⟩ : ∃ e, rl[i]? = some e := ⟨_, List.getElem?_eq_getElem hlt⟩
  have hm := List.mem_of_getElem? he
  have ha : RowAt H4 a r := I.B.rows _ hm
  have hor : Ok (L + 1) r := I.B.ok _ hm
  have hSr : S r := I.inS r (List.mem_map.mpr ⟨_, hm, rfl⟩)
  have er : rv r = (r.map fun n : Nat => (n : Int)).map V.int := rv_ints r
  have htop := hor.top
  have hlr := hor.len
  refine ⟨_, rfl, _, rfl, l, _, _, _, rfl, rfl, SqL.of I.B.ls, atI_nat (refs_get' he), ?_⟩
  refine ⟨_, rfl, _, _, rfl, rfl, ?_⟩
  refine ⟨_, rfl, a, _, rfl, er ▸ SqT.of ha, _, _, rfl, ⟨by decide, by decide, by rw [sum_ints]; omega, by rw [sum_ints]; omega⟩, ?_⟩
  rw [sum_ints]
  refine for_range (lo := 1) (n := ((r.sum : Nat) - 1 : Int).toNat) (fun j σ H' => ∃ (e6 e7 : Option V) (more : RL), σ = [some (.ref LA.lg), some (.ref fa), some (.ref l), some (.ref sn), some (.int ((i : Nat) + 1)), some (.ref a), e6, e7] ∧ Same H H' ∧ Keep H4 H' ∧ Bfs (L + 1) H' l sn (rl ++ more) ∧ (∀ x ∈ more.map (·.2), S x) ∧
    (∀ b, 1 ≤ b → b < 1 + j → led d.q r b (fo r b) ∈ (rl ++ more).map (·.2))) ⟨e2, e3, [], rfl, I.sm, Keep.refl _, by rw [List.append_nil]; exact I.B, (fun x hx => by simp at hx), fun b h1 h2 => by omega⟩ ?_ ?_
  · rintro j σ H5 hj ⟨e6, e7, more, rfl, s5, k5, B5, hmo, hdo⟩
    have ha5 := ha.to k5
    have hv := hcv.at_ r hSr (1 + j) (by omega) (by omega)
    refine ⟨_, rfl, _, rfl, _, rfl, _, rfl, _, rfl, _, rfl, fa, a, es, r, 1 + j, fo r (1 + j), by rw [Int.natCast_add]; rfl, hfa.to s5, ha5, hv, fun H6 s6 => ?_⟩
    refine ⟨LA, d, a, r, 1 + j, fo r (1 + j), by rw [Int.natCast_add]; rfl, hL.at_.to (Same.x (s5.trans s6)), ha5.to (Same.x s6), by omega, hor.ne, fun p1 H7 s7 f1 => ?_⟩
    have B7 := B5.to (s6.trans s7)
    refine ⟨p1, _, l, sn, rl ++ more, rfl, rfl, rfl, B7, f1, hor.led d.q (by omega) (by omega) _, by omega, fun H8 mo2 hadd B8 s8 => ?_⟩
    rw [List.map_append] at hadd
    obtain ⟨c1, c2⟩ := see_more hadd
    rw [List.append_assoc] at B8
    refine ⟨_, _, more ++ mo2, rfl, SameB.same (s5.trans (s6.trans s7)) nl0 nsn0 s8, (k5.trans (Same.x (s6.trans s7))).trans (B7.keep s8), B8, fun x hx => ?_, fun b h1 h2 => ?_⟩
    · rw [List.map_append] at hx
      rcases List.mem_append.mp hx with hx | hx
      · exact hmo x hx
      · rw [c1 x hx]
        exact hcv.nx r hSr (1 + j) (by omega) (by omega)
    · rw [← List.append_assoc, List.map_append]
      by_cases hb : b = 1 + j
      · rw [hb]; exact c2
      · exact List.mem_append_left _ (hdo b h1 (by omega))
  · rintro σ H5 ⟨e6, e7, more, rfl, s5, k5, B5, hmo, hdo⟩
    have I2 := I.next he s5 B5 hmo (fun x hx => by
      obtain ⟨b, h1, h2, e⟩ := hx
      have h3 : b < r.sum := h2
      rw [e]
      exact hdo b h1 (by omega))
    exact ⟨390626 - (i + 1), by omega, _, i + 1, _, _, _, rfl, rfl, I2⟩
theorem cal_tp (T : Txt K mg c) : C8.Cal P w K mg base 7 "told_plan" (spTP c) [] := by
  refine cal_mk T.told_plan scTP (fun _ _ _ _ _ _ us hl => match us, hl with | [_, _], _ => rfl) (fun vs H Q E h => ?_) (fun f cdv A outer s H vs Q E hr h => ?_)
  · obtain ⟨A, d, pp, dp, pa, ps, rfl, _⟩ := h
    rfl
  obtain ⟨LA, d, pp, dp, pa, ps, rfl, hL, hp, q⟩ := h
  generalize hLe : d.L = L at q
  generalize hPe : parOf d pa ps = p at q
  have hpq : p.q = d.q := by rw [← hPe]; rfl
  have hL3 : L ≤ 3 := by have := hL.hL; omega
  refine ⟨_, (pss_cons (ps_set (i := 2) scTP.nd rfl (.inl rfl) (pe_lst (pa_cons (C8.pe_mt0 (met_ro T) hr (by decide) (pv 0)) pa_nil)))
    (pss_cons (ps_set (i := 3) scTP.nd rfl (.inl rfl) (C8.pe_c (cal_co T) hr (by decide) rfl (pa_cons (pv 0) (pa_cons (pv 1) pa_nil))))
    (pss_cons (ps_set (i := 4) scTP.nd rfl (.inl rfl) (pe_dnewT))
    (pss_cons (ps_set (i := 5) scTP.nd rfl (.inl rfl) pe_int)
    (pss_cons (ps_set (i := 6) scTP.nd rfl (.inl rfl) (pe_seen0 (L + 1) (i := 2) (pe_dispT (hu100 hr) (pe_ix ix_list (pv 2) pe_int (fun _ _ => rfl)) pe_bl)))
    (pss_cons (ps_while PassesOwn.never (pt_cmpR op_lt (pv 5) (pe_callB call_len_seq (by rfl) T.bLen (by decide +kernel) (pa_cons (pv 2) pa_nil)) (nomark _))
    (pss_cons (ps_set (i := 7) scTP.nd rfl (.inl rfl) (pe_ix ix_list (pv 2) (pv 5) (fun _ _ => rfl)))
    (pss_cons (ps_aug (i := 5) scTP.nd rfl (.inl rfl) pe_int ip_add)
    (pss_one (ps_if (pt_cmpR op_gt (pe_callB (cr_sumT rfl) (by rfl) T.bSum (by decide +kernel) (pa_cons (pv 7) pa_nil)) pe_int (nomark _)) (pss_cons (ps_dput (hu_of hr) (pv 4) (pv 7) (pe_ix ix_list (C8.pe_mt (met_be T) hr (by decide) (pv 3) (pa_cons (pv 7) pa_nil)) pe_int (fun _ _ => rfl)) rfl)
    (pss_one (ps_for PassesOwn.never rfl (pi_tup (C8.pe_c (cal_bo T) hr (by decide) rfl (pa_cons (pv 0) (pa_cons (pv 7) (pa_cons (pe_dget (hu_of hr) (pv 4) (pv 7) (fun _ _ => rfl)) pa_nil))))) (pg_name (i := 8) scTP.nd rfl (.inl rfl))
    (pss_one (ps_see (L + 1) (i := 8) (j := 6) (k := 2) (ps_if (pt_cmp (pc_dnotin (hu_of hr) (pv 8) (pv 6))) (pss_cons (ps_dput (hu_of hr) (pv 6) (pv 8) pe_bl rfl) (pss_one (ps_expr (pe_bm PySem.F.plainAttrs_list PySem.F.slot_list_append PySem.F.type_list_append mt_append (pv 2) (pa_cons (pv 8) pa_nil))))) pss_nil)))))) pss_nil)))))
    (pss_one (ps_ret (pv 4))))))))), ?_⟩
  refine ⟨_, rfl, LA.lg, LA.dx, _, rfl, hL.at_.lg, rfl, LA, d, rfl, hL.at_, hL.len, hL.hL, hL.ne, fun p0 H1 s1 hr1 => ?_⟩
  refine ⟨by show 1 ≤ sizeLine; decide, fun l nl => ?_⟩
  have s2 : Same H1 (upd H1 l (.lst [.ref p0])) := same_new nl
  have hl2 : upd H1 l (.lst [.ref p0]) l = some (.lst [.ref p0]) := upd_same
  generalize upd H1 l (.lst [.ref p0]) = H2 at s2 hl2
  have ho := hL.ok
  rw [hLe] at ho
  refine ⟨_, rfl, _, rfl, LA, d, pp, dp, pa, ps, rfl, hL.to (Same.x (s1.trans s2)), hp.to (Same.x (s1.trans s2)), fun C H3 s3 nfa hC => ?_⟩
  rw [hLe, hPe] at hC
  intro pd npd
  have s4 : Same H3 (upd H3 pd (.dT [])) := same_new npd
  have hpd : RowD (upd H3 pd (.dT [])) pd (planE p []) := upd_same
  generalize upd H3 pd (.dT []) = H4 at s4 hpd
  refine ⟨l, p0, rowOf d, rfl, s4 _ _ (s3 _ _ hl2), s4 _ _ (s3 _ _ (s2 _ _ hr1)), ho, fun sn H5 s5 nsn B => ?_⟩
  have nl0 : H l = none := s1.free nl
  have s02 : Same H H2 := s1.trans s2
  have nfa0 : H C.fa = none := s02.free nfa
  have s03 : Same H H3 := s02.trans s3
  have npd0 : H pd = none := s03.free npd
  have s04 : Same H H4 := s03.trans s4
  have nsn0 : H sn = none := s04.free nsn
  have hC4 := hC.to s4
  have dfp : C.fa ≠ pd := ne_of_none hC.fa npd
  have dfs : C.fa ≠ sn := ne_of_none hC4.fa nsn
  have dps : pd ≠ sn := ne_of_none hpd nsn
  refine ⟨fun m σ H' => ∃ (rl : RL) (i : Nat) (fd : List (List Nat)) (e1 e2 : Option V), σ = [some (.ref LA.lg), some (.ref pp), some (.ref l), some (.ref C.o), some (.ref pd), some (.int (i : Nat)), some (.ref sn), e1, e2] ∧ m = 390626 - i ∧ BfsI (L + 1) (fun _ => True) (nxP d.q (toldPl p)) (rowOf d) H l sn i rl H' ∧
    CostsAt c H' C p L fd ∧ RowD H' pd (planE p ((rl.map (·.2)).take i)), ⟨_, _, 0, [], none, none, rfl, rfl, BfsI.start (s04.trans s5) B True.intro, hC4.to s5, s5 _ _ hpd⟩, ?_⟩
  rintro m σ H6 ⟨rl, i, fd, e1, e2, rfl, rfl, I, hC6, hpd6⟩
  have hfew := I.B.few (by omega)
  refine ⟨_, rfl, _, rfl, l, _, rfl, .inl (SqL.of I.B.ls), _, _, rfl, rfl, _, rfl, ?_⟩
  rw [refs_len]
  by_cases hlt : i < rl.length
  rotate_left
  · have hR := I.stop (by omega)
    have et : (rl.map (·.2)).take i = rl.map (·.2) := List.take_of_length_le (by rw [List.length_map]; omega)
    rw [et] at hpd6
    refine if0 (decide_eq_false (by omega)) ⟨_, rfl, q pd _ (fun r => r ∈ rl.map (·.2)) H6 I.sm hpd6 (fun e he => by
      obtain ⟨r, _, rfl⟩ := List.mem_map.mp he
      exact ⟨_, rfl⟩) (by have h9 := planE_len p (rl.map (·.2)); rw [List.length_map] at h9; omega) ⟨hR.st, fun r hr' => ?_, fun r hr' h1 => ⟨planE_lkp h1 hr', told_good p r h1⟩, fun r hr' h1 a => hR.cl r hr' _ ⟨h1, a, rfl⟩⟩⟩
    obtain ⟨e, he, rfl⟩ := List.mem_map.mp hr'
    exact I.B.ok e he
  refine if1 (decide_eq_true (by omega)) ⟨_, fun σ' H' z => z, ?_⟩
  obtain ⟨⟨a, r⟩, he⟩ : ∃ e, rl[i]? = some e := ⟨_, List.getElem?_eq_getElem hlt⟩
  have hm := List.mem_of_getElem? he
  have ha : RowAt H6 a r := I.B.rows _ hm
  have hor : Ok (L + 1) r := I.B.ok _ hm
  have er : rv r = (r.map fun n : Nat => (n : Int)).map V.int := rv_ints r
  have her : (rl.map (·.2))[i]? = some r := by rw [List.getElem?_map, he]; rfl
  have htk := take_snoc her
  refine ⟨_, rfl, _, rfl, l, _, _, _, rfl, rfl, SqL.of I.B.ls, atI_nat (refs_get' he), ?_⟩
  refine ⟨_, rfl, _, _, rfl, rfl, ?_⟩
  refine ⟨_, rfl, a, _, rfl, er ▸ SqT.of ha, _, _, rfl, rfl, _, rfl, ?_⟩
  rw [sum_ints]
  by_cases h1 : 1 < r.sum
  rotate_left
  · have I2 := I.next (H5 := H6) (more := []) he I.sm (by rw [List.append_nil]; exact I.B) (fun x hx => by simp at hx) (fun x hx => absurd hx.1 h1)
    rw [List.append_nil] at I2
    exact if0 (decide_eq_false (by omega)) ⟨390626 - (i + 1), by omega, _, i + 1, fd, _, _, rfl, rfl, I2, hC6, by rw [htk, planE_snoc, if_neg h1, List.append_nil]; exact hpd6⟩
  refine if1 (decide_eq_true (by omega)) ?_
  obtain ⟨g2, g3⟩ := told_good p r h1
  refine ⟨_, rfl, C.o, C.dx, _, rfl, hC6.ob, rfl, _, rfl, C, a, p, L, fd, r, rfl, hC6, ha, hor, fun bl H7 hf7 hbl => ?_⟩
  obtain ⟨sx7, fd7, hC7, _⟩ := hf7
  have k7 : Keep H6 H7 := SameX.keep sx7 hC6.fa not_dT
  have hbest : (best p r)[0]? = some (toldPl p r) := by
    have hne := best_ne (p := p) (show L + 1 ≤ 4 by omega) hor h1
    unfold toldPl
    cases hb : best p r with
    | nil => exact absurd hb hne
    | cons b t => rfl
  refine ⟨bl, _, _, _, rfl, rfl, SqL.of hbl, atI_nat (j := 0) (rv_get' hbest), ?_⟩
  have hpd7 : RowD H7 pd (planE p ((rl.map (·.2)).take i)) := sx7 _ _ dfp.symm hpd6
  have ha7 := ha.to k7
  have hkeys : r ∉ (planE p ((rl.map (·.2)).take i)).map (·.1) := fun z => by
    rw [planE_keys] at z
    have z2 := (List.mem_filter.mp z).1
    have nd := I.B.nd
    have h2 : (rl.map (·.2)).take (i + 1) = (rl.map (·.2)).take i ++ [r] := htk
    have nd2 : ((rl.map (·.2)).take (i + 1)).Nodup := List.Sublist.nodup (List.take_sublist _ _) nd
    rw [h2, List.nodup_append] at nd2
    exact nd2.2.2 r z2 r (by simp) rfl
  have hpl : (planE p ((rl.map (·.2)).take i)).length < sizeLine := by
    have h2 := planE_len p ((rl.map (·.2)).take i)
    rw [List.length_take, List.length_map] at h2
    exact small_m (by omega)
  refine ⟨_, rfl, _, rfl, pd, _, rfl, rd_put _ hpd7 ha7 hpl, ?_⟩
  rw [insR_new _ hkeys]
  have epl : planE p ((rl.map (·.2)).take i) ++ [(r, V.int (toldPl p r : Nat))] = planE p ((rl.map (·.2)).take (i + 1)) := by rw [htk, planE_snoc, if_pos h1]
  rw [epl]
  have k8 : Keep H7 (upd H7 pd (.dT (rkE (planE p ((rl.map (·.2)).take (i + 1)))))) := Keep.upd (show H7 pd = some _ from hpd7) not_dT
  have o8 : ∀ b o, b ≠ C.fa → b ≠ pd → H6 b = some o → upd H7 pd (.dT (rkE (planE p ((rl.map (·.2)).take (i + 1))))) b = some o := fun b o n1 n2 e => (upd_ne n2).trans (sx7 b o n1 e)
  have hpd8 : RowD (upd H7 pd (.dT (rkE (planE p ((rl.map (·.2)).take (i + 1)))))) pd (planE p ((rl.map (·.2)).take (i + 1))) := upd_same
  have hC8 : CostsAt c (upd H7 pd (.dT (rkE (planE p ((rl.map (·.2)).take (i + 1)))))) C p L fd7 := hC7.keep k8 (upd_ne dfp)
  generalize upd H7 pd (.dT (rkE (planE p ((rl.map (·.2)).take (i + 1))))) = H8 at k8 o8 hpd8 hC8
  have s8 : Same H H8 := fun b o e => o8 b o (ne_of_none e nfa0) (ne_of_none e npd0) (I.sm _ _ e)
  have nlf : l ≠ C.fa := fun z => by
    have h2 := I.B.ls
    rw [z, show H6 C.fa = some _ from hC6.fa] at h2
    cases h2
  have nlp : l ≠ pd := fun z => by
    have h2 := I.B.ls
    rw [z, show H6 pd = some _ from hpd6] at h2
    cases h2
  have B8 : Bfs (L + 1) H8 l sn rl := I.B.k (k7.trans k8) ((o8 _ _ nlf nlp I.B.ls).trans I.B.ls.symm) ((o8 _ _ dfs.symm dps.symm I.B.sn).trans (show some _ = H6 sn from I.B.sn.symm))
  have ha8 := ha7.to k8
  refine ⟨_, rfl, _, rfl, _, rfl, _, rfl, pd, _, rfl, rd_val hpd8 ha8 (planE_lkp h1 (by rw [htk]; simp)), ?_⟩
  refine ⟨LA, d, a, r, toldPl p r, rfl, hL.at_.to (Same.x s8), ha8, by have := hor.len; omega, hor.ne, fun t p1 p2 H9 s9 e9 f1 f2 => ?_⟩
  refine ⟨t, rfl, ⟨_, SqT.of e9⟩, see_two (by omega) (by decide) (by decide) (by show 8 < 9; decide) rfl rfl (B8.to s9) e9 f1 f2 (hor.ans d.q g3) (hor.sil g2 g3) fun e6 H10 more sb B10 hmo m1 m2 => ?_⟩
  have s10 : Same H H10 := SameB.same (s8.trans s9) nl0 nsn0 sb
  have hC10 : CostsAt c H10 C p L fd7 := by
    have hC9 := hC8.to s9
    exact hC9.keep ((B8.to s9).keep sb) ((sb _ _ nlf.symm dfs hC9.fa).trans (show some _ = H9 C.fa from hC9.fa.symm))
  have I2 := I.next he s10 B10 (fun _ _ => True.intro) (fun x hx => by
    obtain ⟨_, z, e⟩ := hx
    cases z with
    | true => rw [e]; exact m1
    | false => rw [e]; exact m2)
  refine ⟨390626 - (i + 1), by omega, _, i + 1, fd7, _, _, rfl, rfl, I2, hC10, ?_⟩
  have hlen : i + 1 ≤ (rl.map (·.2)).length := by rw [List.length_map]; omega
  rw [List.map_append, List.take_append_of_le_length hlen]
  exact sb _ _ nlp.symm dps (s9 _ _ hpd8)
theorem cal_tf (T : Txt K mg c) : C8.Cal P w K mg base 7 "told_foe" (spTF c P w) [] := by
  obtain ⟨g, CO, FR⟩ := met_ca (P := P) (w := w) (mg := mg) (base := base) T
  refine cal_mk T.told_foe scTF (fun _ _ _ _ _ _ us hl => match us, hl with | [_, _], _ => rfl) (fun vs H Q E h => ?_) (fun f cdv A outer s H vs Q E hr h => ?_)
  · obtain ⟨A, d, pp, dp, pa, ps, rfl, _⟩ := h
    rfl
  obtain ⟨LA, d, pp, dp, pa, ps, rfl, hL, hp, q⟩ := h
  generalize hLe : d.L = L at q
  generalize hPe : parOf d pa ps = p at q
  have hpq : p.q = d.q := by rw [← hPe]; rfl
  have hpa : p.pa = pa := by rw [← hPe]; rfl
  have hps : p.ps = ps := by rw [← hPe]; rfl
  have hL3 : L ≤ 3 := by have := hL.hL; omega
  refine ⟨_, (pss_cons (ps_set (i := 2) scTF.nd rfl (.inl rfl) (C8.pe_c (cal_co T) hr (by decide) rfl (pa_cons (pv 0) (pa_cons (pv 1) pa_nil))))
    (pss_cons (ps_set (i := 3) scTF.nd rfl (.inl rfl) (pe_lst (pa_cons (C8.pe_mt0 (met_ro T) hr (by decide) (pv 0)) pa_nil)))
    (pss_cons (ps_set (i := 4) scTF.nd rfl (.inl rfl) (pe_seen0 (L + 1) (i := 3) (pe_dispT (hu100 hr) (pe_ix ix_list (pv 3) pe_int (fun _ _ => rfl)) pe_bl)))
    (pss_cons (ps_set (i := 5) scTF.nd rfl (.inl rfl) (pe_dnewF))
    (pss_cons (ps_set (i := 6) scTF.nd rfl (.inl rfl) pe_int)
    (pss_cons (ps_while PassesOwn.never (pt_cmpR op_lt (pv 6) (pe_callB call_len_seq (by rfl) T.bLen (by decide +kernel) (pa_cons (pv 3) pa_nil)) (nomark _))
    (pss_cons (ps_set (i := 7) scTF.nd rfl (.inl rfl) (pe_ix ix_list (pv 3) (pv 6) (fun _ _ => rfl)))
    (pss_cons (ps_aug (i := 6) scTF.nd rfl (.inl rfl) pe_int ip_add)
    (pss_one (ps_for PassesOwn.never rfl (pi_range2 rfl T.bRange (pa_cons pe_int (pa_cons (pe_callB (cr_sumT rfl) (by rfl) T.bSum (by decide +kernel) (pa_cons (pv 7) pa_nil)) pa_nil))) (pg_name (i := 8) scTF.nd rfl (.inl rfl))
    (pss_cons (ps_asg (C8.pe_c (cal_bo T) hr (by decide) rfl (pa_cons (pv 0) (pa_cons (pv 7) (pa_cons (pv 8) pa_nil)))) (pg_tup rfl (pgs_cons (pg_name (i := 9) scTF.nd rfl (.inl rfl)) (pgs_cons (pg_name (i := 10) scTF.nd rfl (.inl rfl)) pgs_nil))))
    (pss_cons (ps_fput (hu100 hr) (pv 5) (pe_tup (pa_cons (pv 7) (pa_cons (pv 8) pa_nil))) (pe_cmpR op_ge (pe_op op_add (pe_fld (pv 1) rfl) (StX.pe_callO (E := C8.E0) (pv 2) CO FR (hr.mono (by decide)) C8.pass0 (pa_cons (pv 9) pa_nil))) (pe_op op_add (pe_fld (pv 1) rfl) (StX.pe_callO (E := C8.E0) (pv 2) CO FR (hr.mono (by decide)) C8.pass0 (pa_cons (pv 10) pa_nil))) (nomark _)) rfl)
    (pss_cons (ps_set (i := 11) scTF.nd rfl (.inl rfl) (pe_ifExp (pt_val (pe_fget (hu100 hr) (pv 5) (pe_tup (pa_cons (pv 7) (pa_cons (pv 8) pa_nil))) (fun _ _ => rfl))) (pv 9) (pv 10)))
    (pss_one (ps_see (L + 1) (i := 11) (j := 4) (k := 3) (ps_if (pt_cmp (pc_dnotin (hu_of hr) (pv 11) (pv 4))) (pss_cons (ps_dput (hu_of hr) (pv 4) (pv 11) pe_bl rfl) (pss_one (ps_expr (pe_bm PySem.F.plainAttrs_list PySem.F.slot_list_append PySem.F.type_list_append mt_append (pv 3) (pa_cons (pv 11) pa_nil))))) pss_nil)))))))))))
    (pss_one (ps_ret (pv 5))))))))), ?_⟩
  refine ⟨_, rfl, _, rfl, LA, d, pp, dp, pa, ps, rfl, hL, hp, fun C H1 s1 nfa hC => ?_⟩
  rw [hLe, hPe] at hC
  refine ⟨_, rfl, LA.lg, LA.dx, _, rfl, (hL.to (Same.x s1)).at_.lg, rfl, LA, d, rfl, (hL.to (Same.x s1)).at_, hL.len, hL.hL, hL.ne, fun p0 H2 s2 hr1 => ?_⟩
  refine ⟨by show 1 ≤ sizeLine; decide, fun l nl => ?_⟩
  have s3 : Same H2 (upd H2 l (.lst [.ref p0])) := same_new nl
  have hl3 : upd H2 l (.lst [.ref p0]) l = some (.lst [.ref p0]) := upd_same
  generalize upd H2 l (.lst [.ref p0]) = H3 at s3 hl3
  have ho := hL.ok
  rw [hLe] at ho
  refine ⟨l, p0, rowOf d, rfl, hl3, s3 _ _ hr1, ho, fun sn H4 s4 nsn B => ?_⟩
  intro fa nfo H5 hoth hF
  have s5 : Same H4 H5 := fun b o e => (hoth b (ne_of_none e nfo)).trans e
  have nfa0 : H C.fa = none := nfa
  have s02 : Same H H2 := s1.trans s2
  have nl0 : H l = none := s02.free nl
  have s03 : Same H H3 := s02.trans s3
  have nsn0 : H sn = none := s03.free nsn
  have s04 : Same H H4 := s03.trans s4
  have nfo0 : H fa = none := s04.free nfo
  have hC2 := hC.to s2
  have hC3 := hC2.to s3
  have hC4 := hC3.to s4
  have dfs : C.fa ≠ sn := ne_of_none hC3.fa nsn
  have dff : C.fa ≠ fa := ne_of_none hC4.fa nfo
  have dsf : sn ≠ fa := ne_of_none B.sn nfo
  have dlf : l ≠ fa := ne_of_none B.ls nfo
  have hCo : C.o ≠ fa := ne_of_none hC4.ob nfo
  refine ⟨fun m σ H' => ∃ (rl : RL) (i : Nat) (fd : List (List Nat)) (es : List FE) (e1 e2 e3 e4 e5 : Option V), σ = [some (.ref LA.lg), some (.ref pp), some (.ref C.o), some (.ref l), some (.ref sn), some (.ref fa), some (.int (i : Nat)), e1, e2, e3, e4, e5] ∧ m = 390626 - i ∧ BfsI (L + 1) (fun _ => True) (nxF d.q (toldFo p)) (rowOf d) H l sn i rl H' ∧
    CostsAt c H' C p L fd ∧ FoeAt P w H' fa es ∧ es.length ≤ 24 * i ∧ (∀ j e b, j < i → rl[j]? = some e → 1 ≤ b → b < e.2.sum → foeVal es e.2 b = some (toldFo p e.2 b)), ⟨_, _, 0, [], [], none, none, none, none, none, rfl, rfl, BfsI.start (s04.trans s5) (B.to s5) True.intro, hC4.to s5, hF, Nat.zero_le _, fun j e b hj => absurd hj (Nat.not_lt_zero _)⟩, ?_⟩
  rintro m σ H6 ⟨rl, i, fd, es, e1, e2, e3, e4, e5, rfl, rfl, I, hC6, hF6, hes, hval⟩
  have hfew := I.B.few (by omega)
  refine ⟨_, rfl, _, rfl, l, _, rfl, .inl (SqL.of I.B.ls), _, _, rfl, rfl, _, rfl, ?_⟩
  rw [refs_len]
  by_cases hlt : i < rl.length
  rotate_left
  · have hR := I.stop (by omega)
    refine if0 (decide_eq_false (by omega)) ⟨_, rfl, q fa es (fun r => r ∈ rl.map (·.2)) H6 I.sm hF6 ⟨hR.st, fun r hr' => ?_, fun r hr' b h1 h2 => ?_, fun r hr' b h1 h2 => hR.cl r hr' _ ⟨b, h1, h2, rfl⟩⟩⟩
    · obtain ⟨e, he, rfl⟩ := List.mem_map.mp hr'
      exact I.B.ok e he
    · obtain ⟨e, he, rfl⟩ := List.mem_map.mp hr'
      obtain ⟨j, hj⟩ := List.getElem?_of_mem he
      exact hval j e b (by have := (List.getElem?_eq_some_iff.mp hj).1; omega) hj h1 h2
  refine if1 (decide_eq_true (by omega)) ⟨_, fun σ' H' z => z, ?_⟩
  obtain ⟨⟨a, r⟩, he⟩ : ∃ e, rl[i]? = some e := ⟨_, List.getElem?_eq_getElem hlt⟩
  have hm := List.mem_of_getElem? he
  have ha : RowAt H6 a r := I.B.rows _ hm
  have hor : Ok (L + 1) r := I.B.ok _ hm
  have er : rv r = (r.map fun n : Nat => (n : Int)).map V.int := rv_ints r
  have htop := hor.top
  have hlr := hor.len
  have hrest : ∀ j e, j < i → rl[j]? = some e → e.2 ≠ r := fun j e hj hje z => by
    have nd := I.B.nd
    have h1 : (rl.map (·.2))[j]? = some r := by rw [List.getElem?_map, hje]; show some e.2 = _; rw [z]
    have h2 : (rl.map (·.2))[i]? = some r := by rw [List.getElem?_map, he]; rfl
    have := nodup_ix2 nd h1 h2
    omega
  refine ⟨_, rfl, _, rfl, l, _, _, _, rfl, rfl, SqL.of I.B.ls, atI_nat (refs_get' he), ?_⟩
  refine ⟨_, rfl, _, _, rfl, rfl, ?_⟩
  refine ⟨_, rfl, a, _, rfl, er ▸ SqT.of ha, _, _, rfl, ⟨by decide, by decide, by rw [sum_ints]; omega, by rw [sum_ints]; omega⟩, ?_⟩
  rw [sum_ints]
  refine for_range (lo := 1) (n := ((r.sum : Nat) - 1 : Int).toNat) (fun j σ H' => ∃ (e6 e7 e8 e9 : Option V) (more : RL) (fd : List (List Nat)) (es : List FE), σ = [some (.ref LA.lg), some (.ref pp), some (.ref C.o), some (.ref l), some (.ref sn), some (.ref fa), some (.int ((i : Nat) + 1)), some (.ref a), e6, e7, e8, e9] ∧ Same H H' ∧ Keep H6 H' ∧ Bfs (L + 1) H' l sn (rl ++ more) ∧
    CostsAt c H' C p L fd ∧ FoeAt P w H' fa es ∧ es.length ≤ 24 * i + j ∧ (∀ j e b, j < i → rl[j]? = some e → 1 ≤ b → b < e.2.sum → foeVal es e.2 b = some (toldFo p e.2 b)) ∧ (∀ b, 1 ≤ b → b < 1 + j → foeVal es r b = some (toldFo p r b)) ∧
    (∀ b, 1 ≤ b → b < 1 + j → led d.q r b (toldFo p r b) ∈ (rl ++ more).map (·.2))) ⟨e2, e3, e4, e5, [], fd, es, rfl, I.sm, Keep.refl _, by rw [List.append_nil]; exact I.B, hC6, hF6, hes, hval, fun b h1 h2 => by omega, fun b h1 h2 => by omega⟩ ?_ ?_
  · rintro j σ H7 hj ⟨e6, e7, e8, e9, more, fd7, es7, rfl, s7, k7, B7, hC7, hF7, hes7, hval7, hv7, hdo⟩
    have ha7 := ha.to k7
    refine ⟨_, rfl, _, rfl, _, rfl, LA, d, a, r, 1 + j, by rw [Int.natCast_add]; rfl, hL.at_.to (Same.x s7), ha7, by omega, hor.ne, fun t p1 p2 H8 s8 f0 f1 f2 => ?_⟩
    refine ⟨t, _, rfl, SqT.of f0, rfl, _, _, rfl, _, _, rfl, rfl, ?_⟩
    have hp8 := hp.to (Same.x (s7.trans s8))
    have hC8 := hC7.to s8
    have oa : Ok (L + 1) (ans d.q r (1 + j)) := hor.ans d.q (by omega)
    have os : Ok (L + 1) (sil r (1 + j)) := hor.sil (by omega) (by omega)
    refine ⟨_, rfl, pp, c.prices, dp, _, _, rfl, hp8.ob, T.prices.cl, T.pN_answer, rfl, _, rfl, C.o, rfl, _, rfl, .inr ⟨_, _, hC8.ob⟩, C, p1, p, L, fd7, _, rfl, hC8, f1, oa, fun H9 hf9 => ?_⟩
    obtain ⟨sx9, fd9, hC9, _⟩ := hf9
    have k9 : Keep H8 H9 := SameX.keep sx9 hC8.fa not_dT
    refine ⟨_, _, rfl, rfl, ?_⟩
    refine ⟨_, rfl, pp, c.prices, dp, _, _, rfl, (hp8.to k9).ob, T.prices.cl, T.pN_silence, rfl, _, rfl, C.o, rfl, _, rfl, .inr ⟨_, _, hC9.ob⟩, C, p2, p, L, fd9, _, rfl, hC9, f2.to k9, os, fun H10 hf10 => ?_⟩
    obtain ⟨sx10, fd10, hC10, _⟩ := hf10
    have k10 : Keep H9 H10 := SameX.keep sx10 hC9.fa not_dT
    refine ⟨_, _, rfl, rfl, _, _, rfl, rfl, ?_⟩
    -- all that stands behind both costs
    have o10 : ∀ b o, b ≠ C.fa → H7 b = some o → H10 b = some o := fun b o n e => sx10 b o n (sx9 b o n (s8 b o e))
    have k710 : Keep H7 H10 := ((Same.x s8).trans k9).trans k10
    have s10 : Same H H10 := fun b o e => o10 b o (ne_of_none e nfa0) (s7 b o e)
    have F10 : FoeAt P w H10 fa es7 := hF7.keep k710 ((o10 _ _ dff.symm hF7.ob).trans hF7.ob.symm)
    have nlf : l ≠ C.fa := fun z => by
      have h2 := B7.ls
      rw [z, show H7 C.fa = some _ from hC7.fa] at h2
      cases h2
    have B10 : Bfs (L + 1) H10 l sn (rl ++ more) := B7.k k710 ((o10 _ _ nlf B7.ls).trans B7.ls.symm) ((o10 _ _ dfs.symm B7.sn).trans (show some _ = H7 sn from B7.sn.symm))
    have ha10 := ha7.to k710
    have f110 : RowAt H10 p1 (ans d.q r (1 + j)) := (f1.to k9).to k10
    have f210 : RowAt H10 p2 (sil r (1 + j)) := (f2.to k9).to k10
    have ez : decide (((ps : Nat) : Int) + ((cost p (sil r (1 + j)) : Nat) : Int) ≤ ((pa : Nat) : Int) + ((cost p (ans d.q r (1 + j)) : Nat) : Int)) = toldFo p r (1 + j) := by
      have e4 : branch p (cost p) r (1 + j) false = ps + cost p (sil r (1 + j)) := by rw [← hps]; rfl
      have e3 : branch p (cost p) r (1 + j) true = pa + cost p (ans d.q r (1 + j)) := by rw [← hpa, ← hpq]; rfl
      unfold toldFo
      rw [e3, e4]
      exact decide_eq_decide.mpr ⟨fun h => by omega, fun h => by omega⟩
    generalize ezz : toldFo p r (1 + j) = z at ez
    refine ⟨_, rfl, _, rfl, _, rfl, by show 2 ≤ sizeLine; decide, fun k nk => ?_⟩
    have s11 : Same H10 (upd H10 k (.tup [.ref a, .int (1 + (j : Int))])) := same_new nk
    have hk11 : upd H10 k (.tup [.ref a, .int (1 + (j : Int))]) k = some (.tup [.ref a, .int ((1 + j : Nat) : Int)]) := by
      rw [upd_same, Int.natCast_add]
      rfl
    generalize upd H10 k (.tup [.ref a, .int (1 + (j : Int))]) = H11 at s11 hk11
    have F11 := F10.to s11
    refine ⟨fa, k, a, r, 1 + j, es7, _, rfl, rfl, rfl, F11, ?_, hk11, s11 _ _ ha10, fun H12 o12 F12 => ?_⟩
    · have h9 : (9500000 : Nat) < sizeLine := by decide
      omega
    rw [ez] at F12
    have s12 : Same H H12 := fun b o e => (o12 b (ne_of_none e nfo0)).trans (s11 _ _ (s10 _ _ e))
    have k12 : Keep H11 H12 := fun b o e f => (o12 b (fun zz => by
      subst zz
      rw [F11.ob] at e
      cases e
      cases f)).trans e
    have B11 := B10.to s11
    have B12 : Bfs (L + 1) H12 l sn (rl ++ more) := B11.k k12 (o12 _ dlf) (o12 _ dsf)
    have C11 := hC10.to s11
    have C12 : CostsAt c H12 C p L fd10 := C11.keep k12 (o12 _ dff)
    have ha12 : RowAt H12 a r := RowAt.to (s11 _ _ ha10) k12
    have fv : foeVal (foePut es7 k a r (1 + j) z) r (1 + j) = some z := by
      rw [foeVal_put, if_pos ⟨rfl, rfl⟩]
    refine ⟨_, rfl, _, rfl, _, rfl, by show 2 ≤ sizeLine; decide, fun k2 nk2 => ?_⟩
    have s13 : Same H12 (upd H12 k2 (.tup [.ref a, .int (1 + (j : Int))])) := same_new nk2
    have hk13 : upd H12 k2 (.tup [.ref a, .int (1 + (j : Int))]) k2 = some (.tup [.ref a, .int ((1 + j : Nat) : Int)]) := by
      rw [upd_same, Int.natCast_add]
      rfl
    generalize upd H12 k2 (.tup [.ref a, .int (1 + (j : Int))]) = H13 at s13 hk13
    have F13 := F12.to s13
    have B13 := B12.to s13
    refine ⟨fa, k2, r, 1 + j, _, z, rfl, rfl, F13.rd, ⟨a, hk13, s13 _ _ ha12⟩, fv, z, rfl, ?_⟩
    have k13 : Keep H10 H13 := ((Same.x s11).trans k12).trans (Same.x s13)
    have s713 : Keep H6 H13 := (k7.trans k710).trans k13
    have fin : ∀ (D : Ends) p3, RowAt H13 p3 (led d.q r (1 + j) z) → (∀ σ H', (∃ (e6 e7 e8 e9 : Option V) (more : RL) (fd : List (List Nat)) (es : List FE), σ = [some (.ref LA.lg), some (.ref pp), some (.ref C.o), some (.ref l), some (.ref sn), some (.ref fa), some (.int ((i : Nat) + 1)), some (.ref a), e6, e7, e8, e9] ∧ Same H H' ∧ Keep H6 H' ∧ Bfs (L + 1) H' l sn (rl ++ more) ∧
    CostsAt c H' C p L fd ∧ FoeAt P w H' fa es ∧ es.length ≤ 24 * i + (j + 1) ∧ (∀ j e b, j < i → rl[j]? = some e → 1 ≤ b → b < e.2.sum → foeVal es e.2 b = some (toldFo p e.2 b)) ∧ (∀ b, 1 ≤ b → b < 1 + (j + 1) → foeVal es r b = some (toldFo p r b)) ∧
    (∀ b, 1 ≤ b → b < 1 + (j + 1) → led d.q r b (toldFo p r b) ∈ (rl ++ more).map (·.2))) → D.nx σ H') → sSee (L + 1) 11 4 3 D [some (.ref LA.lg), some (.ref pp), some (.ref C.o), some (.ref l), some (.ref sn), some (.ref fa), some (.int ((i : Nat) + 1)), some (.ref a), some (.int (1 + (j : Int))), some (.ref p1), some (.ref p2), some (.ref p3)] H13 := by
      intro D p3 hp3 hN
      refine ⟨p3, _, l, sn, rl ++ more, rfl, rfl, rfl, B13, hp3, hor.led d.q (by omega) (by omega) z, by omega, fun H14 mo2 hadd B14 s14 => ?_⟩
      rw [List.map_append] at hadd
      obtain ⟨c1, c2⟩ := see_more hadd
      rw [List.append_assoc] at B14
      have k14 : Keep H13 H14 := B13.keep s14
      have C13 := C12.to s13
      refine hN _ _ ⟨_, _, _, _, more ++ mo2, fd10, _, rfl, SameB.same (s12.trans s13) nl0 nsn0 s14, s713.trans k14, B14, C13.keep k14 ((s14 _ _ nlf.symm dfs C13.fa).trans (show some _ = H13 C.fa from C13.fa.symm)), F13.keep k14 ((s14 _ _ dlf.symm dsf.symm F13.ob).trans F13.ob.symm), ?_, fun j' e' b' hj' hje' h1 h2 => ?_, fun b' h1 h2 => ?_, fun b' h1 h2 => ?_⟩
      · have := foePut_len es7 k a r (1 + j) z
        omega
      · rw [foeVal_put, if_neg (fun zz => hrest j' e' hj' hje' zz.1)]
        exact hval7 j' e' b' hj' hje' h1 h2
      · rw [foeVal_put]
        by_cases hb : b' = 1 + j
        · rw [if_pos ⟨rfl, hb⟩, hb, ezz]
        · rw [if_neg (fun zz => hb zz.2)]
          exact hv7 b' h1 (by omega)
      · rw [← List.append_assoc, List.map_append]
        by_cases hb : b' = 1 + j
        · rw [hb, ezz]; exact c2
        · exact List.mem_append_left _ (hdo b' h1 (by omega))
    cases z with
    | true => exact if1 rfl ⟨_, rfl, fin _ p1 (RowAt.to f110 k13) fun _ _ zz => zz⟩
    | false => exact if0 rfl ⟨_, rfl, fin _ p2 (RowAt.to f210 k13) fun _ _ zz => zz⟩
  · rintro σ H7 ⟨e6, e7, e8, e9, more, fd7, es7, rfl, s7, k7, B7, hC7, hF7, hes7, hval7, hv7, hdo⟩
    have I2 := I.next he s7 B7 (fun _ _ => True.intro) (fun x hx => by
      obtain ⟨b, h1, h2, e⟩ := hx
      have h3 : b < r.sum := h2
      rw [e]
      exact hdo b h1 (by omega))
    refine ⟨390626 - (i + 1), by omega, _, i + 1, fd7, es7, _, _, _, _, _, rfl, rfl, I2, hC7, hF7, by omega, fun j' e' b' hj' hje' h1 h2 => ?_⟩
    have hlt2 : j' < rl.length := by omega
    rw [List.getElem?_append_left hlt2] at hje'
    by_cases hj2 : j' = i
    · subst hj2
      rw [he] at hje'
      cases hje'
      have h3 : b' < r.sum := h2
      exact hv7 b' h1 (by omega)
    · exact hval7 j' e' b' (by omega) hje' h1 h2
end
end Wp
set_option Elab.async false
set_option linter.all false
set_option maxRecDepth 100000
set_option maxHeartbeats 2000000
set_option pp.maxSteps 400
/-! WpD10: by_rank, cost_table, check_plan, check_foe, play_foe. -/
namespace Wp
open PySem PySem.Spec PyProof.Rows L2 WP
def lamQ : Str := "by_rank.<locals>.<lambda>"
/-- by_rank, its code known: it makes a lambda -/
structure ByR (K : PySem.W.Frag) (mg : Str → Option Value) (base : Heap) (Ts : List (Addr × Str)) : Prop where
  ex : ∃ (f cc PP : Addr) (oc : Value) (od : Option Addr) (dV kV doc pm : Value) (an : Option Addr) (ct : Value) (osl : Array (Option Value)),
    K.lookup f = some ⟨oc, od, .func (PySem.W.fnOf "by_rank" "by_rank" (defArgs (topS 36)) (defBody (topS 36)) (defScope (topS 36)) dV kV doc pm an (.ref cc) ct), osl⟩ ∧ PySem.W.codeIn K (.ref cc) "by_rank" = true ∧ dV = .none ∧
    mg "by_rank" = some (.ref f) ∧ PySem.W.keepIn K (.ref f) = true ∧ LamX.TabB base mg cc PP ∧ Ts = [(PP, lamQ)]
/-- by rank -/
def Ranked (rl : RL) : Prop := rl.Pairwise fun a b => rank a.2 ≤ rank b.2
def spBRk (Ts : List (Addr × Str)) : Sp := fun vs H Q _ => ∃ (l : Addr) (rl : RL) (L : Nat), vs = [.ref l] ∧ H l = some (.lst (refs rl)) ∧ RowsAt H rl ∧ (∀ e ∈ rl, Ok L e.2) ∧ L ≤ 4 ∧ LamX.Tabs Ts H ∧
  ∀ p rl' H', LamX.ExtN H H' → LamX.Tabs Ts H' → H' p = some (.lst (refs rl')) → rl'.Perm rl → Ranked rl' → Q (.ref p) H'
def numV : V → Nat
  | .int i => i.toNat
  | _ => 0
def rowO : Option HO → List Nat
  | some (.tup vs) => vs.map numV
  | _ => []
def rowV (H : Hp) : V → List Nat
  | .ref a => rowO (H a)
  | _ => []
theorem rowV_at {H : Hp} {a : Addr} {r : List Nat} (h : RowAt H a r) : rowV H (.ref a) = r := by
  show rowO (H a) = r
  rw [show H a = some (.tup (rv r)) from h]
  show (rv r).map numV = r
  unfold rv
  rw [List.map_map]
  exact (List.map_congr_left (fun _ _ => rfl)).trans (List.map_id _)
def rkV (H : Hp) (x : V) : Nat := 100000 + rank (rowV H x)
theorem before {rl : RL} (hR : Ranked rl) {i : Nat} {e : Addr × List Nat} {x : List Nat} (hi : rl[i]? = some e) (hx : x ∈ rl.map (·.2)) (hlt : rank x < rank e.2) : ∃ j e', j < i ∧ rl[j]? = some e' ∧ e'.2 = x := by
  obtain ⟨e', he, rfl⟩ := List.mem_map.mp hx
  obtain ⟨j, hj⟩ := List.getElem?_of_mem he
  refine ⟨j, e', ?_, hj, rfl⟩
  obtain ⟨h1, q1⟩ := List.getElem?_eq_some_iff.mp hi
  obtain ⟨h2, q2⟩ := List.getElem?_eq_some_iff.mp hj
  by_cases h3 : j < i
  · exact h3
  · by_cases h4 : j = i
    · subst h4
      rw [q1] at q2
      rw [q2] at hlt
      exact absurd hlt (Nat.lt_irrefl _)
    · have := List.pairwise_iff_getElem.mp hR i j h1 h2 (by omega)
      rw [q1, q2] at this
      omega
theorem Tabs.x {Ts : List (Addr × Str)} {H H' : Hp} {td : Addr} {kvs : List (List Key × V)} (h : LamX.Tabs Ts H) (e : H td = some (.dT kvs)) (s : SameX td H H') : LamX.Tabs Ts H' := fun p hp => by
  obtain ⟨ps, h1, h2, h3⟩ := h p hp
  refine ⟨ps, s _ _ (fun z => ?_) h1, h2, fun pos cv hc => ?_⟩
  · rw [z, e] at h1
    cases h1
  · obtain ⟨cc, h4, h5⟩ := h3 pos cv hc
    refine ⟨cc, h4, s _ _ (fun z => ?_) h5⟩
    rw [z, e] at h5
    cases h5
def spCT (c : Cs) (mg : Str → Option Value) (Ts : List (Addr × Str)) : Sp := fun vs H Q _ => ∃ (A : LogA) (d : LogD) (pp dp pa ps : Nat) (pd : Addr) (es : RE) (S : List Nat → Prop) (pl : List Nat → Nat) (g : Addr), vs = [.ref A.lg, .ref pp, .ref pd, .ref g] ∧ mg "greatest_of" = some (.ref g) ∧ LogOk c H A d ∧ PriceAt c H pp dp pa ps ∧ RowD H pd es ∧
  Covers d.q (d.L + 1) S pl es (rowOf d) ∧ Good pl ∧ LamX.Tabs Ts H ∧ ∀ td es' H', LamX.ExtN H H' → LamX.Tabs Ts H' → RowD H' td es' → lkp es' (rowOf d) = some (.int (planC (parOf d pa ps) pl (rowOf d) : Nat)) → Q (.ref td) H'
def spCHP (c : Cs) (Ts : List (Addr × Str)) : Sp := fun vs H Q _ => ∃ (A : LogA) (d : LogD) (pp dp pa ps : Nat) (pd : Addr) (es : RE) (S : List Nat → Prop) (pl : List Nat → Nat), vs = [.ref A.lg, .ref pp, .ref pd] ∧ LogOk c H A d ∧ PriceAt c H pp dp pa ps ∧ RowD H pd es ∧
  Covers d.q (d.L + 1) S pl es (rowOf d) ∧ Good pl ∧ LamX.Tabs Ts H ∧ ∀ H', LamX.ExtN H H' → LamX.Tabs Ts H' → Q (.int (planC (parOf d pa ps) pl (rowOf d) : Nat)) H'
theorem FoeAt.x {P : Program} {w : World} {H H' : Hp} {a : Addr} {es : List FE} (h : FoeAt P w H a es) (s : LamX.ExtN H H') : FoeAt P w H' a es := h.keep (Keep.ext s) ((s _ _ h.ob (fun ps z => by cases z)).trans h.ob.symm)
theorem minL_snoc : ∀ {l : List Nat} {x : Nat}, l ≠ [] → minL (l ++ [x]) = min (minL l) x
  | [a], x, _ => rfl
  | a :: b :: l, x, _ => by
    have ih := minL_snoc (l := b :: l) (x := x) (by simp)
    show min a (minL (b :: l ++ [x])) = min (min a (minL (b :: l))) x
    rw [ih]
    omega
/-- the best of so many costs -/
def bestV (l : List Nat) : Nat → V
  | 0 => .non
  | j + 1 => .int (minL (l.take (j + 1)) : Nat)
def spCHF (c : Cs) (P : Program) (w : World) (Ts : List (Addr × Str)) : Sp := fun vs H Q _ => ∃ (A : LogA) (d : LogD) (pp dp pa ps : Nat) (fa : Addr) (es : List FE) (S : List Nat → Prop) (fo : List Nat → Nat → Bool), vs = [.ref A.lg, .ref pp, .ref fa] ∧ LogOk c H A d ∧ PriceAt c H pp dp pa ps ∧ FoeAt P w H fa es ∧
  CoversF d.q (d.L + 1) S fo es (rowOf d) ∧ LamX.Tabs Ts H ∧ ∀ H', LamX.ExtN H H' → LamX.Tabs Ts H' → Q (.int (foeC (parOf d pa ps) fo (rowOf d) : Nat)) H'
section
variable {P : Program} {w : World} {K : PySem.W.Frag} {mg : Str → Option Value} {base : Heap} {c : Cs} {Ts : List (Addr × Str)}
theorem scBRk : FnScope ["rows"] ["rows"] (defScope (topS 36)) := ⟨rfl, rfl, rfl, by decide +kernel, rfl, by decide +kernel, by decide +kernel⟩
theorem scCT : FnScope ["log", "prices", "plan", "pick", "table", "row", "answered", "silent"] ["log", "prices", "plan", "pick"] (defScope (topS 37)) := ⟨rfl, rfl, rfl, by decide +kernel, rfl, by decide +kernel, by decide +kernel⟩
theorem scCHP : FnScope ["log", "prices", "plan"] ["log", "prices", "plan"] (defScope (topS 38)) := ⟨rfl, rfl, rfl, by decide +kernel, rfl, by decide +kernel, by decide +kernel⟩
theorem scCHF : FnScope ["log", "prices", "foe", "table", "row", "best", "below", "is_answered", "cost"] ["log", "prices", "foe"] (defScope (topS 46)) := ⟨rfl, rfl, rfl, by decide +kernel, rfl, by decide +kernel, by decide +kernel⟩
theorem cal_br (T : Txt K mg c) (R : ByR K mg base Ts) : C8.Cal P w K mg base 5 "by_rank" (spBRk Ts) [] := by
  obtain ⟨f, cc, PP, oc, od, dV, kV, doc, pm, an, ct, osl, lk, hcd, rfl, hm, hk, TB, rfl⟩ := R.ex
  refine ⟨f, _, ["rows"], [], fn_of (CX := CX0) lk hcd scBRk (fun vs H Q E h => ?_) fun A outer s H vs Q E hr h => ?_, hm, hk, .all fun us hl => match us, hl with | [_], _ => rfl, .nil⟩
  · obtain ⟨l, rl, L, rfl, _⟩ := h
    rfl
  obtain ⟨l, rl, L, rfl, hl, hrl, hok, hL, hT, q⟩ := h
  suffices h : ∃ t, PSs (cxOf CX0 P w K mg base ["rows"] "by_rank" (defScope (topS 36)) f (.ref cc) A outer s H E).nox (defBody (topS 36)) t ∧ t { nx := fun _ H' => Q .non H', rt := Q } (start ["rows"] [.ref l]) H by
    obtain ⟨t, h1, h2⟩ := h
    exact ⟨t, h1.nox, h2⟩
  have Sl : FnScope ["row"] ["row"] (match defBody (topS 36) with | [.Return (some (.Call _ _ [⟨_, .Lambda _ _ sc _, _⟩] _)) _] => sc | _ => defScope (topS 36)) := ⟨rfl, rfl, rfl, by decide +kernel, rfl, by decide +kernel, by decide +kernel⟩
  refine ⟨_, pss_one (ps_ret (pe_sortedLam (b := .Name "row" ⟨0, 0, 0, 0⟩) (k := 1) (T := [(PP, lamQ)]) (y := "row") (c := cc) (P := PP) rfl T.bSorted (by decide +kernel) (pv 0) TB rfl (List.mem_singleton.mpr rfl) (fun p hp _ => by rw [List.mem_singleton.mp hp]; rfl) hr Sl (by decide +kernel) rfl rfl (fun pm ctv c' u => rfl) (fun b hb => ⟨fun z => hb (by rw [z]; exact List.mem_cons_self ..), fun z => hb (List.mem_cons_of_mem _ z)⟩)
    (fun A s H f c' hr2 => pe_callTy call_str_int (by rfl) T.bStr (by decide +kernel) (pa_cons (C8.pe_c (cal_rk T) hr2 (by decide) rfl (pa_cons (pv 0) pa_nil)) pa_nil)))), ?_⟩
  refine ⟨_, rfl, l, refs rl, rkV H, rfl, hl, hT, fun x hx H2 R eN hR => ?_, fun p H2 eN hT2 hp => ?_⟩
  · obtain ⟨e, he, rfl⟩ := List.mem_map.mp hx
    have ha : RowAt H e.1 e.2 := hrl e he
    have ho := hok e he
    have hb := rank_bound ho hL
    refine ⟨_, rfl, e.1, e.2, L, rfl, ha.to (Keep.ext eN), ho, hL, _, rfl, ?_, ?_⟩
    · rw [Int.natAbs_natCast]
      exact Nat.lt_of_lt_of_le (Nat.log2_lt (by omega) |>.mpr (show 100000 + rank e.2 < 2 ^ 20 by omega)) (by decide)
    · have ek : cl6 (rkV H (.ref e.1)) = 100000 + rank e.2 := by
        unfold rkV
        rw [rowV_at ha]
        exact cl6_of (by omega) (by omega)
      have := hR H2 (Same.refl H2)
      unfold keyTxt at this
      rw [ek] at this
      exact this
  · have em : (rl.mergeSort fun a b => decide (cl6 (rkV H (.ref a.1)) ≤ cl6 (rkV H (.ref b.1)))).map (fun e => V.ref e.1) = (refs rl).mergeSort fun x z => decide (cl6 (rkV H x) ≤ cl6 (rkV H z)) := List.map_mergeSort fun a _ b _ => rfl
    rw [← em] at hp
    have hperm : (rl.mergeSort fun a b => decide (cl6 (rkV H (.ref a.1)) ≤ cl6 (rkV H (.ref b.1)))).Perm rl := List.mergeSort_perm _ _
    refine q p _ H2 eN hT2 hp hperm ?_
    have hs := List.pairwise_mergeSort (le := fun a b : Addr × List Nat => decide (cl6 (rkV H (.ref a.1)) ≤ cl6 (rkV H (.ref b.1)))) (fun a b c h1 h2 => decide_eq_true (Nat.le_trans (of_decide_eq_true h1) (of_decide_eq_true h2))) (fun a b => by
      rw [Bool.or_eq_true, decide_eq_true_eq, decide_eq_true_eq]
      exact Nat.le_total _ _) rl
    refine List.Pairwise.imp_of_mem (fun {a b} ha hb h => ?_) hs
    have h2 := of_decide_eq_true h
    have ma := (List.Perm.mem_iff hperm).mp ha
    have mb := (List.Perm.mem_iff hperm).mp hb
    have ba := rank_bound (hok a ma) hL
    have bb := rank_bound (hok b mb) hL
    unfold rkV at h2
    rw [rowV_at (hrl a ma), rowV_at (hrl b mb), cl6_of (by omega) (by omega), cl6_of (by omega) (by omega)] at h2
    omega
theorem cal_ct (T : Txt K mg c) (R : ByR K mg base Ts) : C8.Cal P w K mg base 7 "cost_table" (spCT c mg Ts) [] := by
  obtain ⟨g, gfd, gps, gds, FG, MG, KG, BG, hgd⟩ := (cal_go (P := P) (w := w) (base := base) T).ex
  cases hgd
  refine cal_mk T.cost_table scCT (fun _ _ _ _ _ _ us hl => match us, hl with | [_, _, _, _], _ => rfl) (fun vs H Q E h => ?_) (fun f cdv A outer s H vs Q E hr h => ?_)
  · obtain ⟨A, d, pp, dp, pa, ps, pd, es, S, pl, g', rfl, _⟩ := h
    rfl
  obtain ⟨LA, d, pp, dp, pa, ps, pd, es, S, pl, g', rfl, hg', hL, hp, hpd, hcv, hgood, hT, q⟩ := h
  obtain rfl : g = g' := by
    rw [MG] at hg'
    cases hg'
    rfl
  generalize hLe : d.L = L at hcv
  generalize hPe : parOf d pa ps = p at q
  have hpq : p.q = d.q := by rw [← hPe]; rfl
  have hpa : p.pa = pa := by rw [← hPe]; rfl
  have hps : p.ps = ps := by rw [← hPe]; rfl
  have hL3 : L ≤ 3 := by have := hL.hL; omega
  refine ⟨_, (pss_cons (ps_set (i := 4) scCT.nd rfl (.inl rfl) (pe_dnewT))
    (pss_cons (ps_for PassesOwn.never rfl (pi_list (C8.pe_c (cal_br T R) hr (by decide) rfl (pa_cons (C8.pe_c (cal_rr T) hr (by decide) rfl (pa_cons (pv 0) (pa_cons (pv 2) pa_nil))) pa_nil))) (pg_name (i := 5) scCT.nd rfl (.inl rfl))
    (pss_cons (ps_dput (hu_of hr) (pv 4) (pv 5) pe_int rfl)
    (pss_one (ps_if (pt_cmpR op_gt (pe_callB (cr_sumT rfl) (by rfl) T.bSum (by decide +kernel) (pa_cons (pv 5) pa_nil)) pe_int (nomark _)) (pss_cons (ps_asg (C8.pe_c (cal_bo T) hr (by decide) rfl (pa_cons (pv 0) (pa_cons (pv 5) (pa_cons (pe_dget (hu_of hr) (pv 2) (pv 5) (fun _ _ => rfl)) pa_nil)))) (pg_tup rfl (pgs_cons (pg_name (i := 6) scCT.nd rfl (.inl rfl)) (pgs_cons (pg_name (i := 7) scCT.nd rfl (.inl rfl)) pgs_nil))))
    (pss_one (ps_dput (hu_of hr) (pv 4) (pv 5) (pe_callL (i := 3) (E := C8.E0) FG (hr.mono (by decide)) rfl (.inl rfl) KG BG .nil C8.pass0 (pa_cons (pe_lst (pa_cons (pe_op op_add (pe_fld (pv 1) rfl) (pe_dget (hu_of hr) (pv 4) (pv 6) (fun _ _ => rfl))) (pa_cons (pe_op op_add (pe_fld (pv 1) rfl) (pe_dget (hu_of hr) (pv 4) (pv 7) (fun _ _ => rfl))) pa_nil))) pa_nil)) rfl))) pss_nil))))
    (pss_one (ps_ret (pv 4))))), ?_⟩
  intro td ntd
  have s1 : Same H (upd H td (.dT [])) := same_new ntd
  have htd : RowD (upd H td (.dT [])) td [] := upd_same
  generalize upd H td (.dT []) = H1 at s1 htd
  refine ⟨_, rfl, _, rfl, LA, d, pd, es, S, pl, rfl, hL.to (Same.x s1), s1 _ _ hpd, by rw [hLe]; exact hcv, fun l rl H2 s2 hl hrl hR => ?_⟩
  refine ⟨l, rl, L + 1, rfl, hl, hrl, fun e he => hcv.ok _ (hR.inS _ (List.mem_map.mpr ⟨e, he, rfl⟩)), by omega, hT.ext (s1.trans s2), fun p3 rl' H3 e3 T3 hp3 perm ranked => ?_⟩
  have s02 : Same H H2 := s1.trans s2
  have k03 : Keep H H3 := (Same.x s02).trans (Keep.ext e3)
  have x3 : ∀ b o, H b = some o → (∀ ps, o ≠ .tbl ps) → H3 b = some o := fun b o e n => e3 b o (s02 b o e) n
  have htd3 : RowD H3 td [] := e3 _ _ (s2 _ _ htd) (fun ps z => by cases z)
  have hpd3 : RowD H3 pd es := x3 _ _ hpd (fun ps z => by cases z)
  have hrl3 : RowsAt H3 rl' := fun e he => (hrl e ((List.Perm.mem_iff perm).mp he)).to (Keep.ext e3)
  have npd : pd ≠ td := ne_of_none hpd ntd
  have np3 : p3 ≠ td := fun z => by
    rw [z, show H3 td = some _ from htd3] at hp3
    cases hp3
  have hmem : ∀ x, x ∈ rl.map (·.2) → x ∈ rl'.map (·.2) := fun x hx => (List.Perm.mem_iff (perm.map _)).mpr hx
  have hlen : rl'.length ≤ 390625 := by
    rw [perm.length_eq]
    have := WP.few (show L + 1 ≤ 4 by omega) hR.nd (fun r hr => hcv.ok r (hR.inS r hr))
    rwa [List.length_map] at this
  refine ⟨p3, rfl, ⟨_, SqL.of hp3⟩, for_list (K := K) (a := p3) (xs := refs rl') (fun i σ H' => ∃ (e5 e6 e7 : Option V) (es' : RE), σ = [some (.ref LA.lg), some (.ref pp), some (.ref pd), some (.ref g), some (.ref td), e5, e6, e7] ∧ SameX td H3 H' ∧ RowD H' td es' ∧ es'.length ≤ 2 * i ∧ ∀ j e, j < i → rl'[j]? = some e → lkp es' e.2 = some (.int (planC p pl e.2 : Nat)))
    ⟨none, none, none, [], rfl, SameX.refl _ _, htd3, Nat.zero_le _, fun j e hj => absurd hj (Nat.not_lt_zero _)⟩ (fun i σ H' _ ⟨_, _, _, _, _, sx, _⟩ => SqL.of (sx _ _ np3 hp3)) ?_ ?_⟩
  · rintro i x σ H4 hx ⟨e5, e6, e7, es', rfl, sx, htd4, hl4, hval⟩
    obtain ⟨⟨a, r⟩, he, rfl⟩ := refs_get hx
    have hi : i < rl'.length := (List.getElem?_eq_some_iff.mp he).1
    have hm := List.mem_of_getElem? he
    have hmr : r ∈ rl.map (·.2) := (List.Perm.mem_iff (perm.map _)).mp (List.mem_map.mpr ⟨_, hm, rfl⟩)
    have hSr : S r := hR.inS r hmr
    have hor : Ok (L + 1) r := hcv.ok r hSr
    have k4 : Keep H3 H4 := SameX.keep sx htd3 not_dT
    have ha4 : RowAt H4 a r := (hrl3 _ hm).to k4
    have er : rv r = (r.map fun n : Nat => (n : Int)).map V.int := rv_ints r
    have hp5 := planC_eq (p := p) (show L + 1 ≤ 4 by omega) hgood hor
    refine ⟨_, rfl, _, rfl, td, _, rfl, rd_put _ htd4 ha4 (small_m (by omega)), ?_⟩
    have k5 : Keep H4 (upd H4 td (.dT (rkE (insR es' r (.int 0))))) := Keep.upd (show H4 td = some _ from htd4) not_dT
    have sx5 : SameX td H3 (upd H4 td (.dT (rkE (insR es' r (.int 0))))) := sx.trans (SameX.upd _)
    have htd5 : RowD (upd H4 td (.dT (rkE (insR es' r (.int 0))))) td (insR es' r (.int 0)) := upd_same
    generalize upd H4 td (.dT (rkE (insR es' r (.int 0)))) = H5 at k5 sx5 htd5
    have ha5 := ha4.to k5
    have hl5 := insR_len es' r (.int 0)
    refine ⟨_, rfl, a, _, rfl, er ▸ SqT.of ha5, _, _, rfl, rfl, _, rfl, ?_⟩
    rw [sum_ints]
    by_cases h1 : 1 < r.sum
    rotate_left
    · rw [if_pos (by omega)] at hp5
      refine if0 (decide_eq_false (by omega)) ⟨_, _, _, _, rfl, sx5, htd5, by omega, fun j e hj hje => ?_⟩
      rw [lkp_ins]
      by_cases hr2 : e.2 = r
      · rw [if_pos hr2, hr2, hp5]
        rfl
      · rw [if_neg hr2]
        by_cases hji : j = i
        · subst hji
          rw [he] at hje
          cases hje
          exact absurd rfl hr2
        · exact hval j e (by omega) hje
    refine if1 (decide_eq_true (by omega)) ?_
    rw [if_neg (by omega)] at hp5
    obtain ⟨g1, g2, g3⟩ := hcv.at_ r hSr h1
    have hpd5 : RowD H5 pd es := sx5 _ _ npd hpd3
    have k35 : Keep H3 H5 := k4.trans k5
    have k05 : Keep H H5 := k03.trans k35
    refine ⟨_, rfl, _, rfl, _, rfl, _, rfl, pd, _, rfl, rd_val hpd5 ha5 g1, LA, d, a, r, pl r, rfl, hL.at_.to k05, ha5, by have := hor.len; omega, hor.ne, fun t p1 p2 H6 s6 f0 f1 f2 => ?_⟩
    refine ⟨t, _, rfl, SqT.of f0, rfl, _, _, rfl, _, _, rfl, rfl, ?_⟩
    have htd6 : RowD H6 td (insR es' r (.int 0)) := s6 _ _ htd5
    have hp6 := hp.to (k05.trans (Same.x s6))
    have look : ∀ z, lkp (insR es' r (.int 0)) (led d.q r (pl r) z) = some (.int (planC p pl (led d.q r (pl r) z) : Nat)) := fun z => by
      have hlt := rank_led hor (by omega) d.q g2 g3 z
      obtain ⟨j, e', hj, hje, hx'⟩ := before ranked he (hmem _ (hR.cl r hmr _ ⟨h1, z, rfl⟩)) hlt
      rw [lkp_ins, if_neg (fun zz => by rw [zz] at hlt; exact Nat.lt_irrefl _ hlt), ← hx']
      exact hval j e' hj hje
    refine ⟨rfl, ?_⟩
    refine ⟨_, rfl, pp, c.prices, dp, _, _, rfl, hp6.ob, T.prices.cl, T.pN_answer, rfl, _, rfl, _, rfl, td, _, rfl, rd_val htd6 f1 (look true), _, _, rfl, rfl, ?_⟩
    refine ⟨_, rfl, pp, c.prices, dp, _, _, rfl, hp6.ob, T.prices.cl, T.pN_silence, rfl, _, rfl, _, rfl, td, _, rfl, rd_val htd6 f2 (look false), _, _, rfl, rfl, ?_⟩
    refine ⟨by show 2 ≤ sizeLine; decide, fun l7 nl7 => ?_⟩
    have s7 : Same H6 (upd H6 l7 (.lst [.int ((pa : Int) + (planC p pl (led d.q r (pl r) true) : Nat)), .int ((ps : Int) + (planC p pl (led d.q r (pl r) false) : Nat))])) := same_new nl7
    refine ⟨l7, pa + planC p pl (led d.q r (pl r) true), ps + planC p pl (led d.q r (pl r) false), rfl, upd_same, fun H8 s8 => ?_⟩
    have s58 : Same H5 H8 := s6.trans (s7.trans s8)
    have htd8 : RowD H8 td (insR es' r (.int 0)) := s58 _ _ htd5
    have ha8 := ha5.to (Same.x s58)
    refine ⟨_, rfl, _, rfl, td, _, rfl, rd_put _ htd8 ha8 (small_m (by omega)), ?_⟩
    have hl9 := insR_len (insR es' r (.int 0)) r (.int ((max (pa + planC p pl (led d.q r (pl r) true)) (ps + planC p pl (led d.q r (pl r) false)) : Nat) : Int))
    refine ⟨_, _, _, _, rfl, ?_, upd_same, by omega, fun j e hj hje => ?_⟩
    · intro b o n e
      rw [upd_ne n]
      exact s58 _ _ (sx5 b o n e)
    · rw [lkp_ins]
      by_cases hr2 : e.2 = r
      · rw [if_pos hr2, hr2, hp5]
        have e3 : branch p (planC p pl) r (pl r) true = pa + planC p pl (led d.q r (pl r) true) := by rw [← hpa, ← hpq]; rfl
        have e4 : branch p (planC p pl) r (pl r) false = ps + planC p pl (led d.q r (pl r) false) := by rw [← hps, ← hpq]; rfl
        rw [e3, e4]
      · rw [if_neg hr2, lkp_ins, if_neg hr2]
        by_cases hji : j = i
        · subst hji
          rw [he] at hje
          cases hje
          exact absurd rfl hr2
        · exact hval j e (by omega) hje
  · rintro σ H4 ⟨e5, e6, e7, es', rfl, sx, htd4, hl4, hval⟩
    refine ⟨_, rfl, q td es' H4 (fun b o e n => ?_) (Tabs.x T3 htd3 sx) htd4 ?_⟩
    · exact sx b o (ne_of_none e ntd) (x3 b o e n)
    · obtain ⟨e, he, h2⟩ := List.mem_map.mp (hmem _ hR.st)
      obtain ⟨j, hj⟩ := List.getElem?_of_mem he
      rw [← h2]
      exact hval j e (by rw [refs_len]; exact (List.getElem?_eq_some_iff.mp hj).1) hj
theorem cal_chp (T : Txt K mg c) (R : ByR K mg base Ts) : C8.Cal P w K mg base 8 "check_plan" (spCHP c Ts) [] := by
  obtain ⟨g, gfd, gps, gds, FG, MG, KG, BG, hgd⟩ := (cal_go (P := P) (w := w) (base := base) T).ex
  refine cal_mk T.check_plan scCHP (fun _ _ _ _ _ _ us hl => match us, hl with | [_, _, _], _ => rfl) (fun vs H Q E h => ?_) (fun f cdv A outer s H vs Q E hr h => ?_)
  · obtain ⟨A, d, pp, dp, pa, ps, pd, es, S, pl, rfl, _⟩ := h
    rfl
  obtain ⟨LA, d, pp, dp, pa, ps, pd, es, S, pl, rfl, hL, hp, hpd, hcv, hgood, hT, q⟩ := h
  refine ⟨_, (pss_one (ps_ret (pe_dget (hu_of hr) (C8.pe_c (cal_ct T R) hr (by decide) rfl (pa_cons (pv 0) (pa_cons (pv 1) (pa_cons (pv 2) (pa_cons (pe_glob (v := .ref g) rfl MG rfl) pa_nil))))) (C8.pe_mt0 (met_ro T) hr (by decide) (pv 0)) (fun _ _ => rfl)))), ?_⟩
  refine ⟨_, rfl, _, rfl, _, rfl, LA, d, pp, dp, pa, ps, pd, es, S, pl, g, rfl, MG, hL, hp, hpd, hcv, hgood, hT, fun td es' H1 e1 T1 htd hv => ?_⟩
  refine ⟨_, rfl, LA.lg, LA.dx, _, rfl, (hL.to (Keep.ext e1)).at_.lg, rfl, LA, d, rfl, (hL.to (Keep.ext e1)).at_, hL.len, hL.hL, hL.ne, fun p2 H2 s2 hr2 => ?_⟩
  exact ⟨td, _, rfl, rd_val (s2 _ _ htd) hr2 hv, q H2 (ExtN.same e1 s2) (T1.ext s2)⟩
theorem cal_chf (T : Txt K mg c) (R : ByR K mg base Ts) : C8.Cal P w K mg base 7 "check_foe" (spCHF c P w Ts) [] := by
  refine cal_mk T.check_foe scCHF (fun _ _ _ _ _ _ us hl => match us, hl with | [_, _, _], _ => rfl) (fun vs H Q E h => ?_) (fun f cdv A outer s H vs Q E hr h => ?_)
  · obtain ⟨A, d, pp, dp, pa, ps, pd, es, S, pl, rfl, _⟩ := h
    rfl
  obtain ⟨LA, d, pp, dp, pa, ps, fa, es, S, fo, rfl, hL, hp, hfa, hcv, hT, q⟩ := h
  generalize hLe : d.L = L at hcv
  generalize hPe : parOf d pa ps = p at q
  have hpq : p.q = d.q := by rw [← hPe]; rfl
  have hpa : p.pa = pa := by rw [← hPe]; rfl
  have hps : p.ps = ps := by rw [← hPe]; rfl
  have hL3 : L ≤ 3 := by have := hL.hL; omega
  refine ⟨_, (pss_cons (ps_set (i := 3) scCHF.nd rfl (.inl rfl) (pe_dnewT))
    (pss_cons (ps_for PassesOwn.never rfl (pi_list (C8.pe_c (cal_br T R) hr (by decide) rfl (pa_cons (C8.pe_c (cal_mr T) hr (by decide) rfl (pa_cons (pv 0) (pa_cons (pv 2) pa_nil))) pa_nil))) (pg_name (i := 4) scCHF.nd rfl (.inl rfl))
    (pss_cons (ps_set (i := 5) scCHF.nd rfl (.inl rfl) pe_non)
    (pss_cons (ps_for PassesOwn.never rfl (pi_range2 rfl T.bRange (pa_cons pe_int (pa_cons (pe_callB (cr_sumT rfl) (by rfl) T.bSum (by decide +kernel) (pa_cons (pv 4) pa_nil)) pa_nil))) (pg_name (i := 6) scCHF.nd rfl (.inl rfl))
    (pss_cons (ps_set (i := 7) scCHF.nd rfl (.inl rfl) (pe_fget (hu100 hr) (pv 2) (pe_tup (pa_cons (pv 4) (pa_cons (pv 6) pa_nil))) (fun _ _ => rfl)))
    (pss_cons (ps_set (i := 8) scCHF.nd rfl (.inl rfl) (pe_op op_add (C8.pe_c (cal_po T) hr (by decide) rfl (pa_cons (pv 1) (pa_cons (pv 7) pa_nil))) (pe_dget (hu_of hr) (pv 3) (C8.pe_c (cal_lr T) hr (by decide) rfl (pa_cons (pv 0) (pa_cons (pv 4) (pa_cons (pv 6) (pa_cons (pv 7) pa_nil))))) (fun _ _ => rfl))))
    (pss_one (ps_if (PW.pt (pw_or (pt_cmpR op_isN (pv 5) pe_non (nomark _)) (pw_or1 (pt_cmpR op_lt (pv 8) (pv 5) (nomark _))))) (pss_one (ps_set (i := 5) scCHF.nd rfl (.inl rfl) (pv 8))) pss_nil)))))
    (pss_one (ps_dput (hu_of hr) (pv 3) (pv 4) (pe_ifExp (pt_cmpR op_isN (pv 5) pe_non (nomark _)) pe_int (pv 5)) rfl)))))
    (pss_one (ps_ret (pe_dget (hu_of hr) (pv 3) (C8.pe_mt0 (met_ro T) hr (by decide) (pv 0)) (fun _ _ => rfl)))))), ?_⟩
  intro td ntd
  have s1 : Same H (upd H td (.dT [])) := same_new ntd
  have htd : RowD (upd H td (.dT [])) td [] := upd_same
  generalize upd H td (.dT []) = H1 at s1 htd
  refine ⟨_, rfl, _, rfl, LA, d, fa, es, S, fo, rfl, hL.to (Same.x s1), hfa.to s1, by rw [hLe]; exact hcv, fun l rl H2 s2 hl hrl hR => ?_⟩
  refine ⟨l, rl, L + 1, rfl, hl, hrl, fun e he => hcv.ok _ (hR.inS _ (List.mem_map.mpr ⟨e, he, rfl⟩)), by omega, hT.ext (s1.trans s2), fun p3 rl' H3 e3 T3 hp3 perm ranked => ?_⟩
  have s02 : Same H H2 := s1.trans s2
  have k03 : Keep H H3 := (Same.x s02).trans (Keep.ext e3)
  have x3 : ∀ b o, H b = some o → (∀ ps, o ≠ .tbl ps) → H3 b = some o := fun b o e n => e3 b o (s02 b o e) n
  have htd3 : RowD H3 td [] := e3 _ _ (s2 _ _ htd) (fun ps z => by cases z)
  have F3 : FoeAt P w H3 fa es := (hfa.to s02).x e3
  have hrl3 : RowsAt H3 rl' := fun e he => (hrl e ((List.Perm.mem_iff perm).mp he)).to (Keep.ext e3)
  have nfd : fa ≠ td := ne_of_none hfa.ob ntd
  have np3 : p3 ≠ td := fun z => by
    rw [z, show H3 td = some _ from htd3] at hp3
    cases hp3
  have hmem : ∀ x, x ∈ rl.map (·.2) → x ∈ rl'.map (·.2) := fun x hx => (List.Perm.mem_iff (perm.map _)).mpr hx
  have hlen : rl'.length ≤ 390625 := by
    rw [perm.length_eq]
    have := WP.few (show L + 1 ≤ 4 by omega) hR.nd (fun r hr => hcv.ok r (hR.inS r hr))
    rwa [List.length_map] at this
  refine ⟨p3, rfl, ⟨_, SqL.of hp3⟩, for_list (K := K) (a := p3) (xs := refs rl') (fun i σ H' => ∃ (e4 e5 e6 e7 e8 : Option V) (es' : RE), σ = [some (.ref LA.lg), some (.ref pp), some (.ref fa), some (.ref td), e4, e5, e6, e7, e8] ∧ SameX td H3 H' ∧ RowD H' td es' ∧ es'.length ≤ 2 * i ∧ ∀ j e, j < i → rl'[j]? = some e → lkp es' e.2 = some (.int (foeC p fo e.2 : Nat)))
    ⟨none, none, none, none, none, [], rfl, SameX.refl _ _, htd3, Nat.zero_le _, fun j e hj => absurd hj (Nat.not_lt_zero _)⟩ (fun i σ H' _ ⟨_, _, _, _, _, _, _, sx, _⟩ => SqL.of (sx _ _ np3 hp3)) ?_ ?_⟩
  · rintro i x σ H4 hx ⟨e4, e5, e6, e7, e8, es', rfl, sx, htd4, hl4, hval⟩
    obtain ⟨⟨a, r⟩, he, rfl⟩ := refs_get hx
    have hi : i < rl'.length := (List.getElem?_eq_some_iff.mp he).1
    have hm := List.mem_of_getElem? he
    have hmr : r ∈ rl.map (·.2) := (List.Perm.mem_iff (perm.map _)).mp (List.mem_map.mpr ⟨_, hm, rfl⟩)
    have hSr : S r := hR.inS r hmr
    have hor : Ok (L + 1) r := hcv.ok r hSr
    have htop := hor.top
    have hlr := hor.len
    have k4 : Keep H3 H4 := SameX.keep sx htd3 not_dT
    have k04 : Keep H H4 := k03.trans k4
    have ha4 : RowAt H4 a r := (hrl3 _ hm).to k4
    have F4 : FoeAt P w H4 fa es := F3.keep k4 ((sx _ _ nfd F3.ob).trans F3.ob.symm)
    have er : rv r = (r.map fun n : Nat => (n : Int)).map V.int := rv_ints r
    have hf5 := foeC_eq (p := p) (fo := fo) (show L + 1 ≤ 4 by omega) hor
    generalize hfv : ((bs r).map fun b => branch p (foeC p fo) r b (fo r b)) = fvs at hf5
    have hfl : fvs.length = r.sum - 1 := by rw [← hfv, List.length_map, bs_len]
    refine ⟨_, rfl, a, _, rfl, er ▸ SqT.of ha4, _, _, rfl, ⟨by decide, by decide, by rw [sum_ints]; omega, by rw [sum_ints]; omega⟩, ?_⟩
    rw [sum_ints]
    refine for_range (lo := 1) (n := ((r.sum : Nat) - 1 : Int).toNat) (fun j σ H' => ∃ e6 e7 e8 : Option V, σ = [some (.ref LA.lg), some (.ref pp), some (.ref fa), some (.ref td), some (.ref a), some (bestV fvs j), e6, e7, e8] ∧ Same H4 H') ⟨e6, e7, e8, rfl, Same.refl _⟩ ?_ ?_
    · rintro j σ H5 hj ⟨f6, f7, f8, rfl, s5⟩
      have hb1 : 1 ≤ 1 + j := by omega
      have hb2 : 1 + j < r.sum := by omega
      have hv := hcv.at_ r hSr (1 + j) hb1 hb2
      refine ⟨_, rfl, _, rfl, _, rfl, by show 2 ≤ sizeLine; decide, fun k nk => ?_⟩
      have s6 : Same H5 (upd H5 k (.tup [.ref a, .int (1 + (j : Int))])) := same_new nk
      have hk6 : upd H5 k (.tup [.ref a, .int (1 + (j : Int))]) k = some (.tup [.ref a, .int ((1 + j : Nat) : Int)]) := by
        rw [upd_same, Int.natCast_add]
        rfl
      generalize upd H5 k (.tup [.ref a, .int (1 + (j : Int))]) = H6 at s6 hk6
      have s46 := s5.trans s6
      have ha6 : RowAt H6 a r := s46 _ _ ha4
      refine ⟨fa, k, r, 1 + j, es, fo r (1 + j), rfl, rfl, (F4.to s46).rd, ⟨a, hk6, ha6⟩, hv, ?_⟩
      generalize hz : fo r (1 + j) = z
      refine ⟨_, rfl, _, rfl, pp, dp, pa, ps, z, rfl, hp.to (k04.trans (Same.x s46)), ?_⟩
      refine ⟨_, rfl, _, rfl, _, rfl, _, rfl, _, rfl, LA, d, a, r, 1 + j, z, by rw [Int.natCast_add]; rfl, hL.at_.to (k04.trans (Same.x s46)), ha6, by omega, hor.ne, fun p7 H7 s7 h7 => ?_⟩
      have hlt := rank_led hor (by omega) d.q hb1 hb2 z
      obtain ⟨j', e', hj', hje, hx'⟩ := before ranked he (hmem _ (hR.cl r hmr _ ⟨1 + j, hb1, hb2, by rw [hz]⟩)) hlt
      have hlook : lkp es' (led d.q r (1 + j) z) = some (.int (foeC p fo (led d.q r (1 + j) z) : Nat)) := by
        rw [← hx']
        exact hval j' e' hj' hje
      refine ⟨td, _, rfl, rd_val ((s46.trans s7) _ _ htd4) h7 hlook, _, _, rfl, rfl, ?_⟩
      have eb : fvs[j]? = some ((if z then pa else ps) + foeC p fo (led d.q r (1 + j) z)) := by
        rw [← hfv, List.getElem?_map, bs_get (by omega)]
        show some (branch p (foeC p fo) r (1 + j) (fo r (1 + j))) = _
        rw [hz]
        unfold branch Par.price
        rw [hpa, hps, hpq]
      have htk := take_snoc eb
      generalize hcst : (if z then pa else ps) + foeC p fo (led d.q r (1 + j) z) = cst at eb htk
      have ecst : (((if z then pa else ps : Nat) : Int) + ((foeC p fo (led d.q r (1 + j) z) : Nat) : Int)) = (cst : Int) := by rw [← hcst, Int.natCast_add]
      have s47 := s46.trans s7
      cases j with
      | zero =>
        have hbv : V.int (((if z then pa else ps : Nat) : Int) + ((foeC p fo (led d.q r (1 + 0) z) : Nat) : Int)) = bestV fvs (0 + 1) := by
          rw [ecst]
          show _ = V.int (minL (fvs.take (0 + 1)) : Nat)
          rw [htk]
          rfl
        exact ⟨_, rfl, rfl, _, rfl, if1 (decide_eq_true rfl) ⟨_, rfl, _, _, _, congrArg (fun v => [some (V.ref LA.lg), some (.ref pp), some (.ref fa), some (.ref td), some (.ref a), some v, some (.int (1 + ((0 : Nat) : Int))), some (.bl z), some (.int (((if z then pa else ps : Nat) : Int) + ((foeC p fo (led d.q r (1 + 0) z) : Nat) : Int)))]) hbv, s47⟩⟩
      | succ j =>
        have hne : fvs.take (j + 1) ≠ [] := fun z0 => by
          have := congrArg List.length z0
          rw [List.length_take, List.length_nil] at this
          omega
        have hsn : minL (fvs.take (j + 1 + 1)) = min (minL (fvs.take (j + 1))) cst := by rw [htk, minL_snoc hne]
        refine ⟨_, rfl, rfl, _, rfl, if0 (decide_eq_false (fun z0 => by cases z0)) ⟨_, rfl, _, rfl, _, _, rfl, rfl, _, rfl, ?_⟩⟩
        by_cases hc : cst < minL (fvs.take (j + 1))
        · have hbv : V.int (((if z then pa else ps : Nat) : Int) + ((foeC p fo (led d.q r (1 + (j + 1)) z) : Nat) : Int)) = bestV fvs (j + 1 + 1) := by
            rw [ecst]
            show _ = V.int (minL (fvs.take (j + 1 + 1)) : Nat)
            rw [hsn, Nat.min_eq_right (by omega)]
          have hlt2 : (((if z then pa else ps : Nat) : Int) + ((foeC p fo (led d.q r (1 + (j + 1)) z) : Nat) : Int)) < ((minL (fvs.take (j + 1)) : Nat) : Int) := by
            rw [ecst]
            exact Int.ofNat_lt.mpr hc
          exact if1 (decide_eq_true hlt2) ⟨_, rfl, _, _, _, congrArg (fun v => [some (V.ref LA.lg), some (.ref pp), some (.ref fa), some (.ref td), some (.ref a), some v, some (.int (1 + ((j + 1 : Nat) : Int))), some (.bl z), some (.int (((if z then pa else ps : Nat) : Int) + ((foeC p fo (led d.q r (1 + (j + 1)) z) : Nat) : Int)))]) hbv, s47⟩
        · have hbv : bestV fvs (j + 1) = bestV fvs (j + 1 + 1) := by
            show V.int (minL (fvs.take (j + 1)) : Nat) = V.int (minL (fvs.take (j + 1 + 1)) : Nat)
            rw [hsn, Nat.min_eq_left (by omega)]
          have hlt2 : ¬ (((if z then pa else ps : Nat) : Int) + ((foeC p fo (led d.q r (1 + (j + 1)) z) : Nat) : Int)) < ((minL (fvs.take (j + 1)) : Nat) : Int) := by
            rw [ecst]
            exact fun z0 => hc (Int.ofNat_lt.mp z0)
          exact if0 (decide_eq_false hlt2) ⟨_, _, _, congrArg (fun v => [some (V.ref LA.lg), some (.ref pp), some (.ref fa), some (.ref td), some (.ref a), some v, some (.int (1 + ((j + 1 : Nat) : Int))), some (.bl z), some (.int (((if z then pa else ps : Nat) : Int) + ((foeC p fo (led d.q r (1 + (j + 1)) z) : Nat) : Int)))]) hbv, s47⟩
    · rintro σ H5 ⟨f6, f7, f8, rfl, s5⟩
      have htd5 : RowD H5 td es' := s5 _ _ htd4
      have ha5 : RowAt H5 a r := s5 _ _ ha4
      have ev : ∃ v : Option V, v = some (bestV fvs ((r.sum : Nat) - 1 : Int).toNat) := ⟨_, rfl⟩
      -- the row's value
      have fin : ∃ H6, DPut H5 td (.ref a) (.int (foeC p fo r : Nat)) H6 ∧ SameX td H3 H6 ∧ ∃ es2, RowD H6 td es2 ∧ es2.length ≤ 2 * (i + 1) ∧ ∀ j e, j < i + 1 → rl'[j]? = some e → lkp es2 e.2 = some (.int (foeC p fo e.2 : Nat)) := by
        refine ⟨_, rd_put _ htd5 ha5 (small_m (by omega)), ?_, insR es' r (.int (foeC p fo r : Nat)), upd_same, ?_, fun j e hj hje => ?_⟩
        · intro b o n e
          rw [upd_ne n]
          exact s5 _ _ (sx b o n e)
        · have := insR_len es' r (.int (foeC p fo r : Nat))
          omega
        · rw [lkp_ins]
          by_cases hr2 : e.2 = r
          · rw [if_pos hr2, hr2]
          · rw [if_neg hr2]
            by_cases hji : j = i
            · subst hji
              rw [he] at hje
              cases hje
              exact absurd rfl hr2
            · exact hval j e (by omega) hje
      obtain ⟨H6, hp6, sx6, es2, htd6, hl6, hv6⟩ := fin
      by_cases h0 : r.sum ≤ 1
      · have e0 : ((r.sum : Nat) - 1 : Int).toNat = 0 := by omega
        have ef : foeC p fo r = 0 := by
          rw [hf5, List.eq_nil_of_length_eq_zero (show fvs.length = 0 by omega)]
          rfl
        rw [ef] at hp6
        refine ⟨bestV fvs ((r.sum : Nat) - 1 : Int).toNat, rfl, rfl, _, rfl, ?_⟩
        rw [e0]
        exact if1 (decide_eq_true rfl) ⟨_, rfl, _, rfl, td, H6, rfl, hp6, _, _, _, _, _, es2, rfl, sx6, htd6, hl6, hv6⟩
      · obtain ⟨k, hk⟩ : ∃ k, ((r.sum : Nat) - 1 : Int).toNat = k + 1 := ⟨r.sum - 2, by omega⟩
        have ef : minL (fvs.take (k + 1)) = foeC p fo r := by
          rw [hf5, List.take_of_length_le (by omega)]
        refine ⟨bestV fvs ((r.sum : Nat) - 1 : Int).toNat, rfl, rfl, _, rfl, ?_⟩
        rw [hk]
        refine if0 (decide_eq_false (fun z0 => by cases z0)) ⟨bestV fvs (k + 1), rfl, _, rfl, _, rfl, td, H6, rfl, ?_, _, _, _, _, _, es2, rfl, sx6, htd6, hl6, hv6⟩
        show DPut H5 td (.ref a) (.int (minL (fvs.take (k + 1)) : Nat)) H6
        rw [ef]
        exact hp6
  · rintro σ H4 ⟨e4, e5, e6, e7, e8, es', rfl, sx, htd4, hl4, hval⟩
    have k4 : Keep H3 H4 := SameX.keep sx htd3 not_dT
    have hL4 := hL.to (k03.trans k4)
    refine ⟨_, rfl, _, rfl, LA.lg, LA.dx, _, rfl, hL4.at_.lg, rfl, LA, d, rfl, hL4.at_, hL.len, hL.hL, hL.ne, fun p5 H5 s5 hr5 => ?_⟩
    obtain ⟨e, he, h2⟩ := List.mem_map.mp (hmem _ hR.st)
    obtain ⟨j, hj⟩ := List.getElem?_of_mem he
    have hv := hval j e (by rw [refs_len]; exact (List.getElem?_eq_some_iff.mp hj).1) hj
    rw [h2] at hv
    refine ⟨td, _, rfl, rd_val (s5 _ _ htd4) hr5 hv, q H5 (fun b o e n => ?_) ((Tabs.x T3 htd3 sx).ext s5)⟩
    exact s5 _ _ (sx b o (ne_of_none e ntd) (x3 b o e n))
end
end Wp
set_option Elab.async false
set_option linter.all false
set_option maxRecDepth 100000
set_option maxHeartbeats 2000000
set_option pp.maxSteps 400
/-! WpD11: play_foe. -/
namespace Wp
open PySem PySem.Spec PyProof.Rows L2 WP
theorem cut_from {r : List Nat} {b : Nat} : cutV (rv r) (some (b : Int)) none = rv (r.drop b) := by
  unfold cutV
  rw [HT.sIx_none, HT.sIx_nat]
  unfold rv
  rw [← List.map_drop, ← List.map_take]
  congr 1
  rw [List.length_map]
  by_cases h : b ≤ r.length
  · rw [Nat.min_eq_left h]
    exact List.take_of_length_le (by rw [List.length_drop]; omega)
  · rw [Nat.min_eq_right (by omega), List.drop_of_length_le (Nat.le_refl _), List.drop_of_length_le (by omega)]
    simp
theorem cut_to {r : List Nat} {b : Nat} : cutV (rv r) none (some (b : Int)) = rv (r.take b) := by
  unfold cutV
  rw [HT.sIx_none, HT.sIx_nat]
  unfold rv
  rw [← List.map_drop, ← List.map_take]
  congr 1
  rw [List.length_map]
  show (r.drop 0).take (min b r.length - 0) = _
  rw [List.drop_zero, Nat.sub_zero]
  by_cases h : b ≤ r.length
  · rw [Nat.min_eq_left h]
  · rw [Nat.min_eq_right (by omega), List.take_of_length_le (Nat.le_refl _), List.take_of_length_le (by omega)]
def spPF (c : Cs) (P : Program) (w : World) (Ts : List (Addr × Str)) : Sp := fun vs H Q _ => ∃ (A : LogA) (d : LogD) (pp dp pa ps : Nat) (pd fa : Addr) (es : RE) (S : List Nat → Prop) (pl : List Nat → Nat) (fs : List FE) (S2 : List Nat → Prop) (fo : List Nat → Nat → Bool), vs = [.ref A.lg, .ref pp, .ref pd, .ref fa] ∧ LogOk c H A d ∧ PriceAt c H pp dp pa ps ∧ RowD H pd es ∧
  Covers d.q (d.L + 1) S pl es (rowOf d) ∧ Good pl ∧ FoeAt P w H fa fs ∧ CoversF d.q (d.L + 1) S2 fo fs (rowOf d) ∧ LamX.Tabs Ts H ∧
  ∀ t l as H', LamX.ExtN H H' → LamX.Tabs Ts H' → H' t = some (.tup [.int (playC (parOf d pa ps) pl fo (rowOf d) : Nat), .ref l]) → H' l = some (.lst (as.map V.ref)) → PairsAt H' as (course d.q pl fo (rowOf d) (can d)) → Q (.ref t) H'
section
variable {P : Program} {w : World} {K : PySem.W.Frag} {mg : Str → Option Value} {base : Heap} {c : Cs} {Ts : List (Addr × Str)}
theorem scPF : FnScope ["log", "prices", "plan", "foe", "widths", "row", "cost", "course", "below", "is_answered"] ["log", "prices", "plan", "foe"] (defScope (topS 48)) := ⟨rfl, rfl, rfl, by decide +kernel, rfl, by decide +kernel, by decide +kernel⟩
theorem cal_pf (T : Txt K mg c) (R : ByR K mg base Ts) : C8.Cal P w K mg base 9 "play_foe" (spPF c P w Ts) [] := by
  refine cal_mk T.play_foe scPF (fun _ _ _ _ _ _ us hl => match us, hl with | [_, _, _, _], _ => rfl) (fun vs H Q E h => ?_) (fun f cdv A outer s H vs Q E hr h => ?_)
  · obtain ⟨A, d, pp, dp, pa, ps, pd, fa, es, S, pl, fs, S2, fo, rfl, _⟩ := h
    rfl
  obtain ⟨LA, d, pp, dp, pa, ps, pd, fa, es, S, pl, fs, S2, fo, rfl, hL, hp, hpd, hcv, hgood, hfa, hcf, hT, q⟩ := h
  refine ⟨_, (pss_cons (ps_expr (C8.pe_c (cal_chp T R) hr (by decide) rfl (pa_cons (pv 0) (pa_cons (pv 1) (pa_cons (pv 2) pa_nil)))))
    (pss_cons (ps_expr (C8.pe_c (cal_chf T R) hr (by decide) rfl (pa_cons (pv 0) (pa_cons (pv 1) (pa_cons (pv 3) pa_nil)))))
    (pss_cons (ps_set (i := 4) scPF.nd rfl (.inl rfl) (C8.pe_mt0 (met_cb T) hr (by decide) (pv 0)))
    (pss_cons (ps_set (i := 5) scPF.nd rfl (.inl rfl) (C8.pe_mt0 (met_ro T) hr (by decide) (pv 0)))
    (pss_cons (ps_set (i := 6) scPF.nd rfl (.inl rfl) pe_int)
    (pss_cons (ps_set (i := 7) scPF.nd rfl (.inl rfl) (pe_lst pa_nil))
    (pss_cons (ps_while PassesOwn.never (pt_cmpR op_gt (pe_callB (cr_sumT rfl) (by rfl) T.bSum (by decide +kernel) (pa_cons (pv 5) pa_nil)) pe_int (nomark _))
    (pss_cons (ps_set (i := 8) scPF.nd rfl (.inl rfl) (pe_dget (hu_of hr) (pv 2) (pv 5) (fun _ _ => rfl)))
    (pss_cons (ps_set (i := 9) scPF.nd rfl (.inl rfl) (pe_fget (hu100 hr) (pv 3) (pe_tup (pa_cons (pv 5) (pa_cons (pv 8) pa_nil))) (fun _ _ => rfl)))
    (pss_cons (ps_expr (pe_bm PySem.F.plainAttrs_list PySem.F.slot_list_append PySem.F.type_list_append mt_append (pv 7) (pa_cons (pe_tup (pa_cons (pe_ix ix_list (pv 4) (pv 8) (fun _ _ => rfl)) (pa_cons (pv 9) pa_nil))) pa_nil)))
    (pss_cons (ps_aug (i := 6) scPF.nd rfl (.inl rfl) (C8.pe_c (cal_po T) hr (by decide) rfl (pa_cons (pv 1) (pa_cons (pv 9) pa_nil))) ip_add)
    (pss_cons (ps_set (i := 5) scPF.nd rfl (.inl rfl) (C8.pe_c (cal_lr T) hr (by decide) rfl (pa_cons (pv 0) (pa_cons (pv 5) (pa_cons (pv 8) (pa_cons (pv 9) pa_nil))))))
    (pss_one (ps_set (i := 4) scPF.nd rfl (.inl rfl) (pe_ifExp (pt_val (pv 9)) (pe_slice sl_list (pv 4) (po_some (pv 8)) po_none) (pe_slice sl_list (pv 4) po_none (po_some (pe_callB (cr_sumT rfl) (by rfl) T.bSum (by decide +kernel) (pa_cons (pv 5) pa_nil)))))))))))))
    (pss_one (ps_ret (pe_tup (pa_cons (pv 6) (pa_cons (pv 7) pa_nil)))))))))))), ?_⟩
  refine ⟨_, rfl, _, rfl, _, rfl, LA, d, pp, dp, pa, ps, pd, es, S, pl, rfl, hL, hp, hpd, hcv, hgood, hT, fun H1 e1 T1 => ?_⟩
  have k1 := Keep.ext e1
  have hpd1 : RowD H1 pd es := e1 _ _ hpd (fun _ z => by cases z)
  refine ⟨_, rfl, _, rfl, _, rfl, LA, d, pp, dp, pa, ps, fa, fs, S2, fo, rfl, hL.to k1, hp.to k1, hfa.x e1, hcf, T1, fun H2 e2 T2 => ?_⟩
  have e02 := e1.trans e2
  have k2 := Keep.ext e02
  have hL2 := hL.to k2
  have hpd2 : RowD H2 pd es := e2 _ _ hpd1 (fun _ z => by cases z)
  have hfa2 := hfa.x e02
  refine ⟨_, rfl, LA.lg, LA.dx, _, rfl, hL2.at_.lg, rfl, LA, d, rfl, hL2.at_, hL.len, fun wl H3 s3 nwl hwl => ?_⟩
  have hL3 := hL2.to (Same.x s3)
  refine ⟨_, rfl, LA.lg, LA.dx, _, rfl, hL3.at_.lg, rfl, LA, d, rfl, hL3.at_, hL.len, hL.hL, hL.ne, fun a0 H4 s4 ha0 => ?_⟩
  refine ⟨Nat.zero_le _, fun cl ncl => ?_⟩
  have s24 : Same H2 H4 := s3.trans s4
  have nwc : wl ≠ cl := ne_of_none (s4 _ _ hwl) ncl
  have s5 : Same H4 (upd H4 cl (.lst [])) := same_new ncl
  have hcl5 : upd H4 cl (.lst []) cl = some (.lst (([] : List Addr).map V.ref)) := upd_same
  have hwl5 : upd H4 cl (.lst []) wl = some (.lst (rv (can d))) := s5 _ _ (s4 _ _ hwl)
  have ha5 : RowAt (upd H4 cl (.lst [])) a0 (rowOf d) := s5 _ _ ha0
  have ncl2 : H2 cl = none := s24.free ncl
  have s25 : Same H2 (upd H4 cl (.lst [])) := s24.trans s5
  generalize upd H4 cl (.lst []) = H5 at s5 hcl5 hwl5 ha5 s25
  have ho := hL.ok
  have hLe := hL.hL
  have hrb := rank_bound ho (by omega)
  have hcan : (can d).length = (rowOf d).sum := by
    have h1 : (needsF d.L d.q d.ps d.ns).length = (can d).length := by
      unfold needsF
      rw [List.length_map]
      rfl
    rw [← h1]
    exact (rowF_sum fun k hk => needsF_le hk).symm
  generalize hPe : parOf d pa ps = p at q
  have hpq : p.q = d.q := by rw [← hPe]; rfl
  have hpa : p.pa = pa := by rw [← hPe]; rfl
  have hps : p.ps = ps := by rw [← hPe]; rfl
  generalize hr0 : rowOf d = r0 at *
  generalize hw0 : can d = w0 at *
  refine ⟨fun m σ H' => ∃ (wa a : Addr) (ws r : List Nat) (cst : Nat) (as : List Addr) (done : List (Nat × Bool)) (e8 e9 : Option V), σ = [some (.ref LA.lg), some (.ref pp), some (.ref pd), some (.ref fa), some (.ref wa), some (.ref a), some (.int (cst : Nat)), some (.ref cl), e8, e9] ∧ m = rank r ∧ Same H2 H' ∧ H' wa = some (.lst (rv ws)) ∧ ws.length = r.sum ∧ RowAt H' a r ∧ S r ∧ S2 r ∧ Ok (d.L + 1) r ∧
    cst + playC p pl fo r = playC p pl fo r0 ∧ H' cl = some (.lst (as.map V.ref)) ∧ PairsAt H' as done ∧ done ++ course d.q pl fo r ws = course d.q pl fo r0 w0 ∧ done.length + rank r ≤ rank r0 ∧ wa ≠ cl,
    ⟨_, wl, a0, w0, r0, 0, [], [], none, none, rfl, rfl, s25, hwl5, hcan, ha5, hcv.st, hcf.st, ho, Nat.zero_add _, hcl5, ⟨rfl, fun i a p h1 _ => by simp at h1⟩, rfl, by simp, nwc⟩, ?_⟩
  rintro m σ H6 ⟨wa, a, ws, r, cst, as, done, e8, e9, rfl, rfl, s6, hwa, hwl', ha, hS, hS2, hor, hcst, hcl, hps6, hdone, hlen, ncw⟩
  have er : rv r = (r.map fun n : Nat => (n : Int)).map V.int := rv_ints r
  have htop := hor.top
  have hlr := hor.len
  have hpl := playC_eq (p := p) (fo := fo) (show d.L + 1 ≤ 4 by omega) hgood hor
  have hco := course_eq (q := d.q) (fo := fo) (show d.L + 1 ≤ 4 by omega) hgood hor ws
  refine ⟨_, rfl, a, _, rfl, er ▸ SqT.of ha, _, _, rfl, rfl, _, rfl, ?_⟩
  rw [sum_ints]
  by_cases h1 : 1 < r.sum
  rotate_left
  · rw [if_pos (by omega)] at hpl hco
    rw [hpl, Nat.add_zero] at hcst
    rw [hco, List.append_nil] at hdone
    refine if0 (decide_eq_false (by omega)) ⟨_, rfl, _, rfl, by show 2 ≤ sizeLine; decide, fun t nt => ?_⟩
    have s7 : Same H6 (upd H6 t (.tup [.int (cst : Nat), .ref cl])) := same_new nt
    refine q t cl as _ (ExtN.same e02 (s6.trans s7)) (T2.ext (s6.trans s7)) (by rw [upd_same, hcst]) (s7 _ _ hcl) ?_
    rw [← hdone]
    exact hps6.to (Same.x s7)
  rw [if_neg (by omega)] at hpl hco
  refine if1 (decide_eq_true (by omega)) ⟨_, fun σ' H' z => z, ?_⟩
  obtain ⟨g1, g2, g3⟩ := hcv.at_ r hS h1
  have hv := hcf.at_ r hS2 (pl r) g2 g3
  have hnx := hcv.nx r hS h1 (fo r (pl r))
  have hnx2 := hcf.nx r hS2 (pl r) g2 g3
  have hlt := rank_led hor (by omega) d.q g2 g3 (fo r (pl r))
  have hol := hor.led d.q g2 g3 (fo r (pl r))
  have hsumT : (ans d.q r (pl r)).sum = r.sum - pl r := ans_sum d.q r (pl r)
  have hsumF : (sil r (pl r)).sum ≤ r.sum := sil_sum_le r (pl r)
  generalize hb : pl r = b at *
  generalize hz : fo r b = z at *
  have hpd6 : RowD H6 pd es := s6 _ _ hpd2
  refine ⟨_, rfl, _, rfl, pd, _, rfl, rd_val hpd6 ha g1, ?_⟩
  refine ⟨_, rfl, _, rfl, _, rfl, by show 2 ≤ sizeLine; decide, fun k nk => ?_⟩
  have s7 : Same H6 (upd H6 k (.tup [.ref a, .int (b : Nat)])) := same_new nk
  have hk7 : upd H6 k (.tup [.ref a, .int (b : Nat)]) k = some (.tup [.ref a, .int (b : Nat)]) := upd_same
  generalize upd H6 k (.tup [.ref a, .int (b : Nat)]) = H7 at s7 hk7
  have F7 := (hfa2.to s6).to s7
  refine ⟨fa, k, r, b, fs, z, rfl, rfl, F7.rd, ⟨a, hk7, s7 _ _ ha⟩, hv, ?_⟩
  obtain ⟨wv, hwv⟩ : ∃ wv, ws[b]? = some wv := ⟨_, List.getElem?_eq_getElem (by omega)⟩
  have hgd : ws.getD b 0 = wv := by
    rw [List.getD_eq_getElem?_getD, hwv]
    rfl
  rw [hgd] at hco
  refine ⟨_, rfl, .inl ⟨rfl, _, SqL.of (s7 _ _ hcl)⟩, _, rfl, _, rfl, wa, _, _, _, rfl, rfl, SqL.of (s7 _ _ hwa), atI_nat (rv_get' hwv), _, rfl, by show 2 ≤ sizeLine; decide, fun u nu => ?_⟩
  have s8 : Same H7 (upd H7 u (.tup [.int (wv : Nat), .bl z])) := same_new nu
  have hu8 : upd H7 u (.tup [.int (wv : Nat), .bl z]) u = some (.tup [.int (wv : Nat), .bl z]) := upd_same
  generalize upd H7 u (.tup [.int (wv : Nat), .bl z]) = H8 at s8 hu8
  have s68 := s7.trans s8
  have hcl8 := s68 _ _ hcl
  have hal : as.length = done.length := hps6.1
  refine ⟨cl, _, _, rfl, rfl, hcl8, by rw [List.length_map, hal]; exact small_m (by omega), ?_⟩
  have k9 : Keep H8 (upd H8 cl (.lst (as.map V.ref ++ [.ref u]))) := Keep.upd hcl8 not_lst
  have o9 : ∀ b o, b ≠ cl → H8 b = some o → upd H8 cl (.lst (as.map V.ref ++ [.ref u])) b = some o := fun b o n e => (upd_ne n).trans e
  have hcl9 : upd H8 cl (.lst (as.map V.ref ++ [.ref u])) cl = some (.lst ((as ++ [u]).map V.ref)) := by
    rw [upd_same, List.map_append]
    rfl
  generalize upd H8 cl (.lst (as.map V.ref ++ [.ref u])) = H9 at k9 o9 hcl9
  have s29 : Same H2 H9 := fun b o e => o9 b o (ne_of_none e ncl2) (s68 _ _ (s6 _ _ e))
  have hwa9 : H9 wa = some (.lst (rv ws)) := o9 _ _ ncw (s68 _ _ hwa)
  have ha9 : RowAt H9 a r := RowAt.to (s68 _ _ ha) k9
  have k29 := Same.x s29
  have hp9 : PriceAt c H9 pp dp pa ps := (hp.to k2).to k29
  have hps9 : PairsAt H9 (as ++ [u]) (done ++ [(wv, z)]) := PairsAt.snoc ((hps6.to (Same.x s68)).to k9) (k9 _ _ hu8 (.tup _))
  refine ⟨_, rfl, _, rfl, _, rfl, pp, dp, pa, ps, z, rfl, hp9, _, _, rfl, rfl, ?_⟩
  refine ⟨_, rfl, _, rfl, _, rfl, _, rfl, LA, d, a, r, b, z, rfl, (hL2.to k29).at_, ha9, by omega, hor.ne, fun a2 H10 s10 ha2 => ?_⟩
  have hwa10 := s10 _ _ hwa9
  have hcl10 := s10 _ _ hcl9
  have s210 := s29.trans s10
  have hps10 := hps9.to (Same.x s10)
  have ecst : (cst + (if z then pa else ps)) + playC p pl fo (led d.q r b z) = playC p pl fo r0 := by
    rw [← hcst, hpl]
    unfold branch Par.price
    rw [hpa, hps, hpq]
    omega
  have edone : (done ++ [(wv, z)]) ++ course d.q pl fo (led d.q r b z) (if z then ws.drop b else ws.take (led d.q r b z).sum) = course d.q pl fo r0 w0 := by
    rw [← hdone, hco, List.append_assoc]
    rfl
  have hfin : ∀ (wp : Addr) (ws' : List Nat) (e8 e9 : Option V), H10 wp = none → ws' = (if z then ws.drop b else ws.take (led d.q r b z).sum) → ∃ m' < rank r, ∃ (wa a : Addr) (ws r : List Nat) (cst' : Nat) (as : List Addr) (done : List (Nat × Bool)) (f8 f9 : Option V), [some (V.ref LA.lg), some (.ref pp), some (.ref pd), some (.ref fa), some (.ref wp), some (.ref a2), some (.int ((cst : Nat) + ((if z then pa else ps : Nat) : Int))), some (.ref cl), e8, e9] = [some (.ref LA.lg), some (.ref pp), some (.ref pd), some (.ref fa), some (.ref wa), some (.ref a), some (.int (cst' : Nat)), some (.ref cl), f8, f9] ∧ m' = rank r ∧ Same H2 (upd H10 wp (.lst (rv ws'))) ∧ upd H10 wp (.lst (rv ws')) wa = some (.lst (rv ws)) ∧ ws.length = r.sum ∧ RowAt (upd H10 wp (.lst (rv ws'))) a r ∧ S r ∧ S2 r ∧ Ok (d.L + 1) r ∧
    cst' + playC p pl fo r = playC p pl fo r0 ∧ upd H10 wp (.lst (rv ws')) cl = some (.lst (as.map V.ref)) ∧ PairsAt (upd H10 wp (.lst (rv ws'))) as done ∧ done ++ course d.q pl fo r ws = course d.q pl fo r0 w0 ∧ done.length + rank r ≤ rank r0 ∧ wa ≠ cl := by
    intro wp ws' e8 e9 nwp ew
    have s11 : Same H10 (upd H10 wp (.lst (rv ws'))) := same_new nwp
    refine ⟨rank (led d.q r b z), hlt, wp, a2, ws', led d.q r b z, cst + (if z then pa else ps), as ++ [u], done ++ [(wv, z)], e8, e9, ?_, rfl, s210.trans s11, upd_same, ?_, s11 _ _ ha2, hnx, hnx2, hol, ecst, s11 _ _ hcl10, hps10.to (Same.x s11), ?_, ?_, (ne_of_none hcl10 nwp).symm⟩
    · rw [Int.natCast_add]
    · rw [ew]
      cases z with
      | true =>
        rw [if_pos rfl, List.length_drop]
        show _ = (ans d.q r b).sum
        omega
      | false =>
        rw [if_neg Bool.false_ne_true, List.length_take]
        show _ = (sil r b).sum
        have e3 : (led d.q r b false).sum = (sil r b).sum := rfl
        omega
    · rw [ew]
      exact edone
    · rw [List.length_append, List.length_singleton]
      omega
  refine ⟨_, rfl, z, rfl, ?_⟩
  cases z with
  | true =>
    refine if1 rfl ⟨_, rfl, _, rfl, (b : Int), rfl, wa, _, rfl, SqL.of hwa10, fun wp nwp => ?_⟩
    rw [cut_from]
    exact hfin wp _ _ _ nwp rfl
  | false =>
    have er2 : rv (led d.q r b false) = ((led d.q r b false).map fun n : Nat => (n : Int)).map V.int := rv_ints _
    refine if0 rfl ⟨_, rfl, _, rfl, a2, _, rfl, er2 ▸ SqT.of ha2, _, rfl, wa, _, rfl, SqL.of hwa10, fun wp nwp => ?_⟩
    rw [sum_ints, cut_to]
    exact hfin wp _ _ _ nwp rfl
end
end Wp
set_option Elab.async false
set_option linter.all false
set_option maxRecDepth 100000
set_option maxHeartbeats 2000000
set_option pp.maxSteps 400
/-! WpD12: the law's draws: numbers, a road, pairs, prices. -/
namespace Wp
open PySem PySem.Spec PyProof.Rows L2 WP
/-- the script, apart from the state's list -/
def Scr (K : PySem.W.Frag) (st : Addr) (H : Hp) (sa : Addr) (xs : List V) : Prop := (Rd H sa (.lst xs) ∧ sa ≠ st) ∨ ∃ (o : Obj) (its : Array Value) (n : Nat), K.lookup sa = some o ∧ o.cls = .type "list" ∧ o.dict = none ∧ o.data = .seq its n ∧ its.size ≤ sizeLine ∧ Vals xs its.toList
theorem Scr.sq {K : PySem.W.Frag} {st : Addr} {H : Hp} {sa : Addr} {xs : List V} (h : Scr K st H sa xs) : SqL K H sa xs := h.elim (fun z => .inl z.1) .inr
theorem Scr.x {K : PySem.W.Frag} {st : Addr} {H H' : Hp} {sa : Addr} {xs : List V} (h : Scr K st H sa xs) (s : SameX st H H') : Scr K st H' sa xs := by
  rcases h with ⟨h | ⟨o, h⟩, n⟩ | h
  · exact .inl ⟨.inl (s _ _ n h), n⟩
  · exact .inl ⟨.inr ⟨o, s _ _ n h⟩, n⟩
  · exact .inr h
theorem Scr.of {K : PySem.W.Frag} {st : Addr} {H : Hp} {sa : Addr} {xs : List V} (h : SqL K H sa xs) (n : H st = none) : Scr K st H sa xs := by
  rcases h with (h | ⟨o, h⟩) | h
  · exact .inl ⟨.inl h, ne_of_none h n⟩
  · exact .inl ⟨.inr ⟨o, h⟩, ne_of_none h n⟩
  · exact .inr h
def StAt (H : Hp) (st : Addr) : Prop := ∃ a b c d : Int, H st = some (.lst [.int a, .int b, .int c, .int d])
theorem StAt.to {H H' : Hp} {st : Addr} (h : StAt H st) (s : Same H H') : StAt H' st := by
  obtain ⟨a, b, c, d, h⟩ := h
  exact ⟨a, b, c, d, s _ _ h⟩
theorem SameX.mut {x : Addr} {H H' : Hp} (s : SameX x H H') (o : HO) : SameX x H (L2.upd H' x o) := fun b u n e => (upd_ne n).trans (s b u n e)
theorem at_mod {α : Type} {xs : List α} (i : Int) (h : 0 < xs.length) : ∃ n : Nat, i % ((xs.length : Nat) : Int) = (n : Int) ∧ n < xs.length := by
  have h1 := Int.emod_lt_of_pos i (show (0 : Int) < ((xs.length : Nat) : Int) by omega)
  have h2 := Int.emod_nonneg i (show ((xs.length : Nat) : Int) ≠ 0 by omega)
  exact ⟨(i % ((xs.length : Nat) : Int)).toNat, (Int.toNat_of_nonneg h2).symm, by omega⟩
theorem mod_lim (x : Int) {lim : Nat} (h : 1 ≤ lim) : ∃ n : Nat, x % (lim : Int) = (n : Int) ∧ n < lim := by
  have h1 := Int.emod_lt_of_pos x (show (0 : Int) < (lim : Int) by omega)
  have h2 := Int.emod_nonneg x (show (lim : Int) ≠ 0 by omega)
  exact ⟨(x % (lim : Int)).toNat, (Int.toNat_of_nonneg h2).symm, by omega⟩
def spLS (K : PySem.W.Frag) : Sp := fun vs H Q _ => ∃ (sa : Addr) (zs : List Int), vs = [.ref sa] ∧ SqL K H sa (zs.map V.int) ∧ zs.length ≤ 1000 ∧ ∀ st H', Same H H' → H st = none → StAt H' st → Q (.ref st) H'
def spDR (K : PySem.W.Frag) : Sp := fun vs H Q _ => ∃ (sa st : Addr) (zs : List Int) (lim : Nat), vs = [.ref sa, .ref st, .int lim] ∧ Scr K st H sa (zs.map V.int) ∧ zs.length ≤ 1000 ∧ StAt H st ∧ 1 ≤ lim ∧ lim ≤ 1000000 ∧ ∀ k H', k < lim → SameX st H H' → StAt H' st → Q (.int (k : Nat)) H'
section
variable {P : Program} {w : World} {K : PySem.W.Frag} {mg : Str → Option Value} {base : Heap} {c : Cs} {Ts : List (Addr × Str)}
theorem scLS : FnScope ["_law_script", "_law_first"] ["_law_script"] (defScope (topS 63)) := ⟨rfl, rfl, rfl, by decide +kernel, rfl, by decide +kernel, by decide +kernel⟩
theorem scLD : FnScope ["_law_script", "_law_state", "_law_limit", "_law_number", "_law_cell", "_law_mixed"] ["_law_script", "_law_state", "_law_limit"] (defScope (topS 64)) := ⟨rfl, rfl, rfl, by decide +kernel, rfl, by decide +kernel, by decide +kernel⟩
theorem scLN : FnScope ["_law_script", "_law_state", "_law_most", "_law_numbers_here", "_law_k"] ["_law_script", "_law_state", "_law_most"] (defScope (topS 65)) := ⟨rfl, rfl, rfl, by decide +kernel, rfl, by decide +kernel, by decide +kernel⟩
theorem scLR2 : FnScope ["_law_script", "_law_state", "_law_most", "_law_numbers_here", "_law_losses"] ["_law_script", "_law_state", "_law_most"] (defScope (topS 69)) := ⟨rfl, rfl, rfl, by decide +kernel, rfl, by decide +kernel, by decide +kernel⟩
theorem scLP : FnScope ["_law_script", "_law_state", "_law_road_here", "_law_most", "_law_pairs", "_law_lost", "_law_width", "_law_k", "_law_probe", "_law_gone"] ["_law_script", "_law_state", "_law_road_here", "_law_most"] (defScope (topS 71)) := ⟨rfl, rfl, rfl, by decide +kernel, rfl, by decide +kernel, by decide +kernel⟩
theorem scLPr : FnScope ["_law_script", "_law_state", "_law_low", "_law_answer", "_law_silence"] ["_law_script", "_law_state", "_law_low"] (defScope (topS 73)) := ⟨rfl, rfl, rfl, by decide +kernel, rfl, by decide +kernel, by decide +kernel⟩
theorem scLF : FnScope ["_law_script", "_law_state", "_law_road_here", "_law_pairs"] ["_law_script", "_law_state"] (defScope (topS 78)) := ⟨rfl, rfl, rfl, by decide +kernel, rfl, by decide +kernel, by decide +kernel⟩
theorem cal_ls (T : Txt K mg c) : C8.Cal P w K mg base 1 "_law_start" (spLS K) [] := by
  refine cal_mk T.l_start scLS (fun _ _ _ _ _ _ us hl => match us, hl with | [_], _ => rfl) (fun vs H Q E h => ?_) (fun f cdv A outer s H vs Q E hr h => ?_)
  · obtain ⟨sa, zs, rfl, _⟩ := h
    rfl
  obtain ⟨sa, zs, rfl, hs, hz, q⟩ := h
  refine ⟨_, (pss_cons (ps_set (i := 1) scLS.nd rfl (.inl rfl) pe_int)
    (pss_cons (ps_if (pt_cmpR op_gt (pe_callB call_len_seq (by rfl) T.bLen (by decide +kernel) (pa_cons (pv 0) pa_nil)) pe_int (nomark _)) (pss_one (ps_set (i := 1) scLS.nd rfl (.inl rfl) (pe_ix ix_list (pv 0) pe_int (fun _ _ => rfl)))) pss_nil)
    (pss_one (ps_ret (pe_lst (pa_cons (pe_callB call_abs (by rfl) T.bAbs (by decide +kernel) (pa_cons (pe_callTy call_int1 (by rfl) T.bInt (by decide +kernel) (pa_cons (pv 1) pa_nil)) pa_nil)) (pa_cons (pe_callTy call_int1 (by rfl) T.bInt (by decide +kernel) (pa_cons (pe_cmpR op_ge (pe_callB call_abs (by rfl) T.bAbs (by decide +kernel) (pa_cons (pe_callTy call_int1 (by rfl) T.bInt (by decide +kernel) (pa_cons (pv 1) pa_nil)) pa_nil)) (pe_op op_pow pe_int pe_int) (nomark _)) pa_nil)) (pa_cons pe_int (pa_cons pe_int pa_nil))))))))), ?_⟩
  refine ⟨_, rfl, sa, _, rfl, .inl hs, _, _, rfl, rfl, _, rfl, ?_⟩
  rw [List.length_map]
  by_cases h0 : 0 < zs.length
  · obtain ⟨z0, hz0⟩ : ∃ z0, zs[0]? = some z0 := ⟨_, List.getElem?_eq_getElem h0⟩
    refine if1 (decide_eq_true (by omega)) ⟨_, rfl, sa, _, _, _, rfl, rfl, hs, atI_nat (j := 0) (v := .int z0) (by rw [List.getElem?_map, hz0]; rfl), ?_⟩
    refine ⟨_, rfl, .inl ⟨_, rfl, _, rfl, ?_⟩⟩
    refine ⟨_, rfl, .inl ⟨_, rfl, _, rfl, _, _, rfl, rfl, ⟨by decide, by decide, by decide⟩, _, _, rfl, rfl, .inr ⟨_, rfl, by show 4 ≤ sizeLine; decide, fun st nst => ?_⟩⟩⟩
    exact q st _ (same_new nst) nst ⟨_, _, _, _, upd_same⟩
  · refine if0 (decide_eq_false (by omega)) ?_
    refine ⟨_, rfl, .inl ⟨_, rfl, _, rfl, ?_⟩⟩
    refine ⟨_, rfl, .inl ⟨_, rfl, _, rfl, _, _, rfl, rfl, ⟨by decide, by decide, by decide⟩, _, _, rfl, rfl, .inr ⟨_, rfl, by show 4 ≤ sizeLine; decide, fun st nst => ?_⟩⟩⟩
    exact q st _ (same_new nst) nst ⟨_, _, _, _, upd_same⟩
theorem cal_dr (T : Txt K mg c) : C8.Cal P w K mg base 1 "_law_draw" (spDR K) [] := by
  refine cal_mk T.l_draw scLD (fun _ _ _ _ _ _ us hl => match us, hl with | [_, _, _], _ => rfl) (fun vs H Q E h => ?_) (fun f cdv A outer s H vs Q E hr h => ?_)
  · obtain ⟨sa, st, zs, lim, rfl, _⟩ := h
    rfl
  obtain ⟨sa, st, zs, lim, rfl, hs, hz, ⟨a, b, cc, dd, hst⟩, h1, h2, q⟩ := h
  refine ⟨_, (pss_cons (ps_asg (pe_op op_add (pe_ix ix_list (pv 1) pe_int (fun _ _ => rfl)) pe_int) (pg_sub (pv 1) pe_int set_list))
    (pss_cons (ps_if (PW.pt (pw_and (pt_cmpR op_eq (pe_ix ix_list (pv 1) pe_int (fun _ _ => rfl)) pe_int (nomark _)) (pw_and1 (pt_cmpR op_gt (pe_ix ix_list (pv 1) pe_int (fun _ _ => rfl)) pe_int (nomark _))))) (pss_cons (ps_set (i := 3) scLD.nd rfl (.inl rfl) (pe_op op_mod (pe_callTy call_int1 (by rfl) T.bInt (by decide +kernel) (pa_cons (pe_ix ix_list (pv 1) pe_int (fun _ _ => rfl)) pa_nil)) (pv 2)))
    (pss_cons (ps_asg (pe_op op_fdiv (pe_ix ix_list (pv 1) pe_int (fun _ _ => rfl)) (pv 2)) (pg_sub (pv 1) pe_int set_list))
    (pss_one (ps_ret (pv 3))))) pss_nil)
    (pss_cons (ps_asg pe_int (pg_sub (pv 1) pe_int set_list))
    (pss_cons (ps_set (i := 4) scLD.nd rfl (.inl rfl) pe_int)
    (pss_cons (ps_if (pt_cmpR op_gt (pe_callB call_len_seq (by rfl) T.bLen (by decide +kernel) (pa_cons (pv 0) pa_nil)) pe_int (nomark _)) (pss_one (ps_set (i := 4) scLD.nd rfl (.inl rfl) (pe_ix ix_list (pv 0) (pe_op op_mod (pe_callTy call_int1 (by rfl) T.bInt (by decide +kernel) (pa_cons (pe_ix ix_list (pv 1) pe_int (fun _ _ => rfl)) pa_nil)) (pe_callB call_len_seq (by rfl) T.bLen (by decide +kernel) (pa_cons (pv 0) pa_nil))) (fun _ _ => rfl)))) pss_nil)
    (pss_cons (ps_asg (pe_op op_add (pe_ix ix_list (pv 1) pe_int (fun _ _ => rfl)) pe_int) (pg_sub (pv 1) pe_int set_list))
    (pss_cons (ps_set (i := 5) scLD.nd rfl (.inl rfl) (pe_op op_mul (pe_op op_mod (pe_callTy call_int1 (by rfl) T.bInt (by decide +kernel) (pa_cons (pe_ix ix_list (pv 1) pe_int (fun _ _ => rfl)) pa_nil)) pe_int) pe_int))
    (pss_cons (ps_set (i := 5) scLD.nd rfl (.inl rfl) (pe_op op_add (pe_op op_add (pe_op op_add (pv 5) (pe_op op_mod (pe_callTy call_int1 (by rfl) T.bInt (by decide +kernel) (pa_cons (pv 4) pa_nil)) pe_int)) (pe_op op_mul pe_int (pe_ix ix_list (pv 1) pe_int (fun _ _ => rfl)))) pe_int))
    (pss_cons (ps_asg (pe_op op_mod (pe_callTy call_int1 (by rfl) T.bInt (by decide +kernel) (pa_cons (pv 5) pa_nil)) pe_int) (pg_sub (pv 1) pe_int set_list))
    (pss_cons (ps_set (i := 5) scLD.nd rfl (.inl rfl) (pe_op op_mod (pe_callTy call_int1 (by rfl) T.bInt (by decide +kernel) (pa_cons (pe_op op_add (pe_op op_mul (pe_ix ix_list (pv 1) pe_int (fun _ _ => rfl)) pe_int) (pe_ix ix_list (pv 1) pe_int (fun _ _ => rfl))) pa_nil)) pe_int))
    (pss_one (ps_ret (pe_op op_mod (pe_callTy call_int1 (by rfl) T.bInt (by decide +kernel) (pa_cons (pe_op op_fdiv (pv 5) pe_int) pa_nil)) (pv 2)))))))))))))), ?_⟩
  refine ⟨_, rfl, st, _, _, _, rfl, rfl, SqL.of hst, atI_nat (j := 3) rfl, _, _, rfl, rfl, ?_⟩
  refine ⟨_, rfl, st, _, _, 3, rfl, rfl, hst, rfl, ?_⟩
  have hst1 : upd H st (.lst ([V.int a, .int b, .int cc, .int dd].set 3 (.int (dd + 1)))) st = some (.lst [.int a, .int b, .int cc, .int (dd + 1)]) := upd_same
  have sx1 : SameX st H (upd H st (.lst ([V.int a, .int b, .int cc, .int dd].set 3 (.int (dd + 1))))) := SameX.upd _
  generalize upd H st (.lst ([V.int a, .int b, .int cc, .int dd].set 3 (.int (dd + 1)))) = H1 at hst1 sx1
  refine ⟨_, rfl, st, _, _, _, rfl, rfl, SqL.of hst1, atI_nat (j := 1) rfl, rfl, _, rfl, ?_⟩
  have lp : (0 : Int) < (lim : Int) := by omega
  by_cases h3 : b = 1 ∧ a > 0
  · obtain ⟨rfl, h4⟩ := h3
    refine if1 (decide_eq_true rfl) ⟨_, rfl, st, _, _, _, rfl, rfl, SqL.of hst1, atI_nat (j := 0) rfl, _, _, rfl, rfl, _, rfl, if1 (decide_eq_true h4) ?_⟩
    refine ⟨_, rfl, st, _, _, _, rfl, rfl, SqL.of hst1, atI_nat (j := 0) rfl, .inl ⟨_, rfl, _, rfl, _, _, rfl, rfl, lp, ?_⟩⟩
    refine ⟨_, rfl, st, _, _, _, rfl, rfl, SqL.of hst1, atI_nat (j := 0) rfl, _, rfl, _, _, rfl, rfl, ⟨lp, by show (lim : Int) < 1073741824; omega⟩, ?_⟩
    refine ⟨_, rfl, st, _, _, 0, rfl, rfl, hst1, rfl, _, rfl, ?_⟩
    have e : a % (lim : Int) = ((a % (lim : Int)).toNat : Int) := (Int.toNat_of_nonneg (Int.emod_nonneg _ (by omega))).symm
    have hlt : (a % (lim : Int)).toNat < lim := by
      have := Int.emod_lt_of_pos a lp
      have := Int.emod_nonneg a (show (lim : Int) ≠ 0 by omega)
      omega
    have := q _ (upd H1 st (.lst ([V.int a, .int 1, .int cc, .int (dd + 1)].set 0 (.int (a / (lim : Int)))))) hlt (SameX.mut sx1 _) ⟨_, _, _, _, upd_same⟩
    rw [← e] at this
    exact this
  have hs1 := hs.x sx1
  by_cases hb : b = 1
  refine if1 (decide_eq_true (by rw [hb])) ⟨_, rfl, st, _, _, _, rfl, rfl, SqL.of hst1, atI_nat (j := 0) rfl, _, _, rfl, rfl, _, rfl, if0 (decide_eq_false fun z => h3 ⟨hb, z⟩) ?_⟩
  rotate_left
  refine if0 (decide_eq_false fun z => hb (by injection z)) (if0 rfl ?_)
  all_goals
    refine ⟨_, rfl, st, _, _, 1, rfl, rfl, hst1, rfl, ?_⟩
    have hst2 : upd H1 st (.lst ([V.int a, .int b, .int cc, .int (dd + 1)].set 1 (.int 0))) st = some (.lst [.int a, .int 0, .int cc, .int (dd + 1)]) := upd_same
    have sx2 : SameX st H (upd H1 st (.lst ([V.int a, .int b, .int cc, .int (dd + 1)].set 1 (.int 0)))) := SameX.mut sx1 _
    generalize upd H1 st (.lst ([V.int a, .int b, .int cc, .int (dd + 1)].set 1 (.int 0))) = H2 at hst2 sx2
    have hsq := (hs.x sx2).sq
    refine ⟨_, rfl, sa, _, rfl, .inl hsq, _, _, rfl, rfl, _, rfl, ?_⟩
    rw [List.length_map]
    have hcell : 0 < zs.length → ∃ z, atI (zs.map V.int) (cc % ((zs.length : Nat) : Int)) = some (.int z) := fun h0 => by
      obtain ⟨n, e, hn⟩ := at_mod (xs := zs) cc h0
      rw [e]
      exact ⟨zs[n], atI_nat (by rw [List.getElem?_map, List.getElem?_eq_getElem hn]; rfl)⟩
    by_cases h0 : 0 < zs.length
    have hcc := hcell h0
    obtain ⟨z, hz'⟩ := hcc
    refine if1 (decide_eq_true (by omega)) ⟨_, rfl, _, rfl, st, _, _, _, rfl, rfl, SqL.of hst2, atI_nat (j := 2) rfl, .inl ⟨_, rfl, _, rfl, sa, _, rfl, .inl hsq, _, _, rfl, rfl, by rw [List.length_map]; omega, sa, _, _, .int z, rfl, rfl, hsq, by rw [List.length_map]; exact hz', ?_⟩⟩
    rotate_left
    refine if0 (decide_eq_false (by omega)) ?_
    all_goals
      refine ⟨_, rfl, st, _, _, _, rfl, rfl, SqL.of hst2, atI_nat (j := 2) rfl, _, _, rfl, rfl, _, rfl, st, _, _, 2, rfl, rfl, hst2, rfl, ?_⟩
      have hst3 : upd H2 st (.lst ([V.int a, .int 0, .int cc, .int (dd + 1)].set 2 (.int (cc + 1)))) st = some (.lst [.int a, .int 0, .int (cc + 1), .int (dd + 1)]) := upd_same
      have sx3 : SameX st H (upd H2 st (.lst ([V.int a, .int 0, .int cc, .int (dd + 1)].set 2 (.int (cc + 1))))) := SameX.mut sx2 _
      generalize upd H2 st (.lst ([V.int a, .int 0, .int cc, .int (dd + 1)].set 2 (.int (cc + 1)))) = H3 at hst3 sx3
      have m1 : ∀ x : Int, 0 ≤ x % 2147483647 ∧ x % 2147483647 < 2147483647 := fun x => ⟨Int.emod_nonneg _ (by decide), Int.emod_lt_of_pos _ (by decide)⟩
      refine ⟨_, rfl, st, _, _, _, rfl, rfl, SqL.of hst3, atI_nat (j := 0) rfl, .inl ⟨_, rfl, _, _, rfl, rfl, (by show (0 : Int) < 2147483647; decide), _, _, rfl, rfl, .inl ⟨?_, ?_⟩, ?_⟩⟩
      · show -(2 ^ 64) < a % 2147483647
        have := m1 a
        omega
      · show a % 2147483647 < 2 ^ 64
        have := m1 a
        omega
      refine ⟨_, rfl, _, rfl, .inl ⟨_, rfl, _, _, rfl, rfl, (by show (0 : Int) < 2147483629; decide), _, _, rfl, rfl, ?_⟩⟩
      refine ⟨_, rfl, st, _, _, _, rfl, rfl, SqL.of hst3, atI_nat (j := 3) rfl, _, _, rfl, rfl, .inl ⟨by decide, by decide⟩, _, _, rfl, rfl, _, _, rfl, rfl, ?_⟩
      refine ⟨_, rfl, .inl ⟨_, rfl, _, _, rfl, rfl, (by show (0 : Int) < 2147483647; decide), _, rfl, st, _, _, 0, rfl, rfl, hst3, rfl, ?_⟩⟩
      have hst4 : ∀ X : Int, upd H3 st (.lst ([V.int a, .int 0, .int (cc + 1), .int (dd + 1)].set 0 (.int (X % 2147483647)))) st = some (.lst [.int (X % 2147483647), .int 0, .int (cc + 1), .int (dd + 1)]) := fun X => upd_same
      have sx4 : ∀ X : Int, SameX st H (upd H3 st (.lst ([V.int a, .int 0, .int (cc + 1), .int (dd + 1)].set 0 (.int (X % 2147483647))))) := fun X => SameX.mut sx3 _
      refine ⟨_, rfl, st, _, _, _, rfl, rfl, SqL.of (hst4 _), atI_nat (j := 0) rfl, _, _, rfl, rfl, .inl ⟨Int.lt_of_lt_of_le (by decide) (m1 _).1, Int.lt_trans (m1 _).2 (by decide)⟩, _, rfl, st, _, _, _, rfl, rfl, SqL.of (hst4 _), atI_nat (j := 3) rfl, _, _, rfl, rfl, .inl ⟨_, rfl, _, _, rfl, rfl, (by show (0 : Int) < 2147483629; decide), ?_⟩⟩
      refine ⟨_, rfl, _, _, rfl, rfl, ⟨by decide, by decide⟩, .inl ⟨_, rfl, _, rfl, _, _, rfl, rfl, lp, ?_⟩⟩
      have fin : ∀ X Y : Int, Q (.int (Y % (lim : Int))) (upd H3 st (.lst ([V.int a, .int 0, .int (cc + 1), .int (dd + 1)].set 0 (.int (X % 2147483647))))) := fun X Y => by
        obtain ⟨n, e, hn⟩ := mod_lim Y h1
        rw [e]
        exact q n _ hn (sx4 X) ⟨_, _, _, _, hst4 X⟩
      exact fin _ _
/-- numbers of a road -/
def NumsOk (ns : List Nat) : Prop := (∀ (i n : Nat), ns[i]? = some n → 1 ≤ n ∧ n ≤ 5 + 9 * i) ∧ ∀ i a b, ns[i]? = some a → ns[i + 1]? = some b → a < b
theorem NumsOk.snoc {ns : List Nat} {a b : Nat} (h : NumsOk (ns ++ [a])) (h1 : a < b) (h2 : b ≤ a + 9) : NumsOk (ns ++ [a] ++ [b]) := by
  have ha := h.1 ns.length a (by rw [List.getElem?_append_right (Nat.le_refl _), Nat.sub_self]; rfl)
  refine ⟨fun i n hi => ?_, fun i x y hx hy => ?_⟩
  · by_cases hlt : i < (ns ++ [a]).length
    · rw [List.getElem?_append_left hlt] at hi
      exact h.1 i n hi
    · rw [List.getElem?_append_right (by omega)] at hi
      have e : i - (ns ++ [a]).length = 0 := by
        have := (List.getElem?_eq_some_iff.mp hi).1
        rw [List.length_singleton] at this
        omega
      rw [e] at hi
      cases hi
      have hl : (ns ++ [a]).length = ns.length + 1 := by simp
      omega
  · by_cases hlt : i + 1 < (ns ++ [a]).length
    · rw [List.getElem?_append_left (by omega)] at hx
      rw [List.getElem?_append_left hlt] at hy
      exact h.2 i x y hx hy
    · rw [List.getElem?_append_right (by omega)] at hy
      have e : i + 1 - (ns ++ [a]).length = 0 := by
        have := (List.getElem?_eq_some_iff.mp hy).1
        rw [List.length_singleton] at this
        omega
      rw [e] at hy
      cases hy
      have hl : (ns ++ [a]).length = ns.length + 1 := by simp
      have hi : i = ns.length := by omega
      rw [hi, List.getElem?_append_left (by omega), List.getElem?_append_right (Nat.le_refl _), Nat.sub_self] at hx
      cases hx
      exact h1
theorem NumsOk.take {ns : List Nat} (h : NumsOk ns) (k : Nat) : NumsOk (ns.take k) := by
  have g : ∀ {i n}, (ns.take k)[i]? = some n → ns[i]? = some n := fun {i n} hi => by
    rw [List.getElem?_take] at hi
    split at hi
    · exact hi
    · cases hi
  exact ⟨fun i n hi => h.1 i n (g hi), fun i a b ha hb => h.2 i a b (g ha) (g hb)⟩
def spNU (K : PySem.W.Frag) : Sp := fun vs H Q _ => ∃ (sa st : Addr) (zs : List Int) (most : Nat), vs = [.ref sa, .ref st, .int most] ∧ Scr K st H sa (zs.map V.int) ∧ zs.length ≤ 1000 ∧ StAt H st ∧ 1 ≤ most ∧ most ≤ 1000 ∧
  ∀ l ns H', H l = none → SameX st H H' → StAt H' st → H' l = some (.lst (rv ns)) → 1 ≤ ns.length → ns.length ≤ most → NumsOk ns → Q (.ref l) H'
theorem cal_nu (T : Txt K mg c) : C8.Cal P w K mg base 2 "_law_numbers" (spNU K) [] := by
  refine cal_mk T.l_numbers scLN (fun _ _ _ _ _ _ us hl => match us, hl with | [_, _, _], _ => rfl) (fun vs H Q E h => ?_) (fun f cdv A outer s H vs Q E hr h => ?_)
  · obtain ⟨sa, st, zs, lim, rfl, _⟩ := h
    rfl
  obtain ⟨sa, st, zs, most, rfl, hs, hz, hst, h1, h2, q⟩ := h
  refine ⟨_, (pss_cons (ps_set (i := 3) scLN.nd rfl (.inl rfl) (pe_lst (pa_cons (pe_op op_add pe_int (C8.pe_c (cal_dr T) hr (by decide) rfl (pa_cons (pv 0) (pa_cons (pv 1) (pa_cons pe_int pa_nil))))) pa_nil)))
    (pss_cons (ps_for PassesOwn.never rfl (pi_range1 rfl T.bRange (pa_cons (C8.pe_c (cal_dr T) hr (by decide) rfl (pa_cons (pv 0) (pa_cons (pv 1) (pa_cons (pv 2) pa_nil)))) pa_nil)) (pg_name (i := 4) scLN.nd rfl (.inl rfl))
    (pss_one (ps_expr (pe_bm PySem.F.plainAttrs_list PySem.F.slot_list_append PySem.F.type_list_append mt_append (pv 3) (pa_cons (pe_op op_add (pe_op op_add (pe_ix ix_list (pv 3) (pe_un un_neg pe_int) (fun _ _ => rfl)) pe_int) (C8.pe_c (cal_dr T) hr (by decide) rfl (pa_cons (pv 0) (pa_cons (pv 1) (pa_cons pe_int pa_nil))))) pa_nil)))))
    (pss_one (ps_ret (pv 3))))), ?_⟩
  refine ⟨_, rfl, _, rfl, sa, st, zs, 5, rfl, hs, hz, hst, by decide, by decide, fun k1 H1 hk1 sx1 hst1 => ⟨_, _, rfl, rfl, ?_⟩⟩
  refine ⟨by show 1 ≤ sizeLine; decide, fun l nl => ?_⟩
  have sx2 : SameX st H1 (upd H1 l (.lst [.int (1 + (k1 : Int))])) := SameX.of (same_new nl)
  have hl2 : upd H1 l (.lst [.int (1 + (k1 : Int))]) l = some (.lst (rv [1 + k1])) := by
    rw [upd_same]
    show _ = some (HO.lst [V.int ((1 + k1 : Nat) : Int)])
    rw [Int.natCast_add]
    rfl
  have hst2 : StAt (upd H1 l (.lst [.int (1 + (k1 : Int))])) st := hst1.to (same_new nl)
  generalize upd H1 l (.lst [.int (1 + (k1 : Int))]) = H2 at sx2 hl2 hst2
  have nls : l ≠ st := fun z => by
    obtain ⟨_, _, _, _, e⟩ := hst1
    rw [z, e] at nl
    cases nl
  have nl0 : H l = none := by
    cases e : H l with
    | none => rfl
    | some o =>
      rw [sx1 _ _ nls e] at nl
      cases nl
  refine ⟨_, rfl, _, rfl, _, rfl, sa, st, zs, most, rfl, hs.x (sx1.trans sx2), hz, hst2, h1, by omega, fun k2 H3 hk2 sx3 hst3 => ?_⟩
  refine ⟨(k2 : Int), rfl, by omega, by omega, ?_⟩
  refine for_range (lo := 0) (n := ((k2 : Nat) : Int).toNat) (fun i σ H' => ∃ (x : Option V) (ns : List Nat) (a : Nat), σ = [some (.ref sa), some (.ref st), some (.int most), some (.ref l), x] ∧ SameX st H H' ∧ StAt H' st ∧ H' l = some (.lst (rv (ns ++ [a]))) ∧ ns.length = i ∧ NumsOk (ns ++ [a]))
    ⟨none, [], 1 + k1, rfl, (sx1.trans sx2).trans sx3, hst3, sx3 _ _ nls hl2, rfl, ?_, ?_⟩ ?_ ?_
  · intro i n hi
    match i, hi with
    | 0, hi =>
      cases hi
      omega
  · intro i a b ha hb
    match i, hb with
    | i, hb => simp at hb
  · rintro i σ H4 hi ⟨x, ns, a, rfl, sx4, hst4, hl4, hlen, hok⟩
    have eapp : rv (ns ++ [a]) = rv ns ++ [V.int (a : Nat)] := rv_app _ _
    refine ⟨_, rfl, .inl ⟨rfl, _, SqL.of hl4⟩, _, rfl, _, rfl, l, _, _, _, rfl, rfl, SqL.of hl4, eapp ▸ atI_last _ _, _, _, rfl, rfl, ?_⟩
    refine ⟨_, rfl, _, rfl, sa, st, zs, 9, rfl, hs.x sx4, hz, hst4, by decide, by decide, fun k3 H5 hk3 sx5 hst5 => ⟨_, _, rfl, rfl, l, _, _, rfl, rfl, sx5 _ _ nls hl4, ?_, ?_⟩⟩
    · rw [rv_len, List.length_append, List.length_singleton]
      exact small_m (by omega)
    · have s6 : SameX st H (upd H5 l (.lst (rv (ns ++ [a]) ++ [V.int ((a : Int) + 1 + (k3 : Int))]))) := fun b o n e => by
        rw [upd_ne (ne_of_none e nl0)]
        exact sx5 _ _ n (sx4 _ _ n e)
      refine ⟨_, ns ++ [a], a + 1 + k3, rfl, s6, ?_, ?_, ?_, hok.snoc (by omega) (by omega)⟩
      · obtain ⟨q1, q2, q3, q4, e⟩ := hst5
        exact ⟨q1, q2, q3, q4, (upd_ne nls.symm).trans e⟩
      · rw [upd_same, rv_app (ns ++ [a])]
        rfl
      · rw [List.length_append, hlen]
        rfl
  · rintro σ H4 ⟨x, ns, a, rfl, sx4, hst4, hl4, hlen, hok⟩
    refine ⟨_, rfl, q l (ns ++ [a]) H4 nl0 sx4 hst4 hl4 ?_ ?_ hok⟩
    · rw [List.length_append]
      simp
    · rw [List.length_append, hlen, List.length_singleton]
      omega
/-- the law's road -/
structure RoadL (st : Addr) (H : Hp) (rh nl : Addr) (d : LogD) : Prop where
  rt : H rh = some (.tup [.ref nl, .int (d.L : Int), .bl d.q])
  ls : H nl = some (.lst (rv d.ns))
  ne : nl ≠ st
theorem RoadL.to {st : Addr} {H H' : Hp} {rh nl : Addr} {d : LogD} (r : RoadL st H rh nl d) (s : Same H H') : RoadL st H' rh nl d := ⟨s _ _ r.rt, s _ _ r.ls, r.ne⟩
theorem RoadL.x {st : Addr} {H H' : Hp} {rh nl : Addr} {d : LogD} (r : RoadL st H rh nl d) (h : StAt H st) (s : SameX st H H') : RoadL st H' rh nl d := by
  obtain ⟨_, _, _, _, e⟩ := h
  exact ⟨s _ _ (tup_ne r.rt e (fun ys z => by cases z)) r.rt, s _ _ r.ne r.ls, r.ne⟩
structure DrawnR (d : LogD) : Prop where
  lo : 1 ≤ d.ns.length
  hi : d.ns.length ≤ 5
  ok : NumsOk d.ns
  hL : d.L ≤ 3
def spRD (K : PySem.W.Frag) : Sp := fun vs H Q _ => ∃ (sa st : Addr) (zs : List Int), vs = [.ref sa, .ref st, .int 5] ∧ Scr K st H sa (zs.map V.int) ∧ zs.length ≤ 1000 ∧ StAt H st ∧
  ∀ rh nl (d : LogD) H', d.ps = [] → SameX st H H' → StAt H' st → RoadL st H' rh nl d → DrawnR d → Q (.ref rh) H'
theorem none_back {st : Addr} {H H' : Hp} (s : SameX st H H') {a : Addr} (n : a ≠ st) (h : H' a = none) : H a = none := by
  cases e : H a with
  | none => rfl
  | some o =>
    rw [s _ _ n e] at h
    cases h
theorem st_ne {H : Hp} {st a : Addr} (h : StAt H st) (n : H a = none) : a ≠ st := fun z => by
  obtain ⟨_, _, _, _, e⟩ := h
  rw [z, e] at n
  cases n
theorem cal_rd (T : Txt K mg c) : C8.Cal P w K mg base 3 "_law_road" (spRD K) [] := by
  refine cal_mk T.l_road scLR2 (fun _ _ _ _ _ _ us hl => match us, hl with | [_, _, _], _ => rfl) (fun vs H Q E h => ?_) (fun f cdv A outer s H vs Q E hr h => ?_)
  · obtain ⟨sa, st, zs, rfl, _⟩ := h
    rfl
  obtain ⟨sa, st, zs, rfl, hs, hz, hst, q⟩ := h
  refine ⟨_, (pss_cons (ps_set (i := 3) scLR2.nd rfl (.inl rfl) (C8.pe_c (cal_nu T) hr (by decide) rfl (pa_cons (pv 0) (pa_cons (pv 1) (pa_cons (pv 2) pa_nil)))))
    (pss_cons (ps_set (i := 4) scLR2.nd rfl (.inl rfl) (C8.pe_c (cal_dr T) hr (by decide) rfl (pa_cons (pv 0) (pa_cons (pv 1) (pa_cons pe_int pa_nil)))))
    (pss_cons (ps_if (pt_cmpR op_eq (pv 4) pe_int (nomark _)) (pss_one (ps_set (i := 3) scLR2.nd rfl (.inl rfl) (pe_slice sl_list (pv 3) po_none (po_some pe_int)))) pss_nil)
    (pss_one (ps_ret (pe_tup (pa_cons (pv 3) (pa_cons (pv 4) (pa_cons (pe_cmpR op_eq (C8.pe_c (cal_dr T) hr (by decide) rfl (pa_cons (pv 0) (pa_cons (pv 1) (pa_cons pe_int pa_nil)))) pe_int (nomark _)) pa_nil))))))))), ?_⟩
  refine ⟨_, rfl, _, rfl, _, rfl, sa, st, zs, 5, rfl, hs, hz, hst, by decide, by decide, fun l ns H1 nl sx1 hst1 hl l1 l2 hok => ?_⟩
  refine ⟨_, rfl, _, rfl, sa, st, zs, 4, rfl, hs.x sx1, hz, hst1, by decide, by decide, fun k2 H2 hk2 sx2 hst2 => ?_⟩
  have nls : l ≠ st := fun z => st_ne hst nl z
  have fin : ∀ (l3 : Addr) (ns3 : List Nat) (H3 : Hp), SameX st H H3 → StAt H3 st → H3 l3 = some (.lst (rv ns3)) → l3 ≠ st → 1 ≤ ns3.length → ns3.length ≤ 5 → NumsOk ns3 →
      tRet (tTup (tCons (tVar 3) (tCons (tVar 4) (tCons (tOp rEq (tCall (spDR K) [] E0 (tCons (tVar 0) (tCons (tVar 1) (tCons (tC (.int 2)) tNil)))) (tC (.int 1))) tNil)))) { nx := fun _ H' => Q .non H', rt := Q } [some (.ref sa), some (.ref st), some (.int 5), some (.ref l3), some (.int (k2 : Nat))] H3 := by
    intro l3 ns3 H3 sx3 hst3 hl3 n3 c1 c2 c3
    refine ⟨_, rfl, _, rfl, _, rfl, _, rfl, sa, st, zs, 2, rfl, hs.x sx3, hz, hst3, by decide, by decide, fun k4 H4 hk4 sx4 hst4 => ⟨rfl, by show 3 ≤ sizeLine; decide, fun t nt => ?_⟩⟩
    exact q t l3 ⟨ns3, k2, decide (V.int (k4 : Nat) = V.int 1), []⟩ _ rfl ((sx3.trans sx4).trans (SameX.of (same_new nt))) (hst4.to (same_new nt)) ⟨upd_same, same_new nt _ _ (sx4 _ _ n3 hl3), n3⟩ ⟨c1, c2, c3, by show k2 ≤ 3; omega⟩
  refine ⟨_, rfl, rfl, _, rfl, ?_⟩
  by_cases h3 : (V.int (k2 : Nat)) = V.int 3
  · refine if1 (decide_eq_true h3) ⟨_, rfl, 4, rfl, l, _, rfl, SqL.of (sx2 _ _ nls hl), fun p np => ?_⟩
    have ec : cutV (rv ns) none (some 4) = rv (ns.take 4) := cut_to (b := 4)
    rw [ec]
    have sp : Same H2 (upd H2 p (.lst (rv (ns.take 4)))) := same_new np
    refine fin p (ns.take 4) _ ((sx1.trans sx2).trans (SameX.of sp)) (hst2.to sp) upd_same (st_ne hst2 np) ?_ ?_ (hok.take 4)
    · rw [List.length_take]
      omega
    · rw [List.length_take]
      omega
  · exact if0 (decide_eq_false h3) (fin l ns H2 (sx1.trans sx2) hst2 (sx2 _ _ nls hl) nls l1 l2 hok)
def spPR (K : PySem.W.Frag) : Sp := fun vs H Q _ => ∃ (sa st : Addr) (zs : List Int), vs = [.ref sa, .ref st, .int 0] ∧ Scr K st H sa (zs.map V.int) ∧ zs.length ≤ 1000 ∧ StAt H st ∧
  ∀ t (pa ps : Nat) H', SameX st H H' → StAt H' st → H' t = some (.tup [.int (pa : Nat), .int (ps : Nat)]) → pa ≤ 4 → ps ≤ 4 → 0 < pa + ps → Q (.ref t) H'
theorem cal_pr (T : Txt K mg c) : C8.Cal P w K mg base 2 "_law_prices" (spPR K) [] := by
  refine cal_mk T.l_prices scLPr (fun _ _ _ _ _ _ us hl => match us, hl with | [_, _, _], _ => rfl) (fun vs H Q E h => ?_) (fun f cdv A outer s H vs Q E hr h => ?_)
  · obtain ⟨sa, st, zs, rfl, _⟩ := h
    rfl
  obtain ⟨sa, st, zs, rfl, hs, hz, hst, q⟩ := h
  refine ⟨_, (pss_cons (ps_set (i := 3) scLPr.nd rfl (.inl rfl) (pe_op op_add (pv 2) (C8.pe_c (cal_dr T) hr (by decide) rfl (pa_cons (pv 0) (pa_cons (pv 1) (pa_cons pe_int pa_nil))))))
    (pss_cons (ps_set (i := 4) scLPr.nd rfl (.inl rfl) (pe_op op_add (pv 2) (C8.pe_c (cal_dr T) hr (by decide) rfl (pa_cons (pv 0) (pa_cons (pv 1) (pa_cons pe_int pa_nil))))))
    (pss_cons (ps_if (pt_cmpR op_eq (pe_op op_add (pv 3) (pv 4)) pe_int (nomark _)) (pss_one (ps_set (i := 4) scLPr.nd rfl (.inl rfl) pe_int)) pss_nil)
    (pss_one (ps_ret (pe_tup (pa_cons (pv 3) (pa_cons (pv 4) pa_nil)))))))), ?_⟩
  refine ⟨_, rfl, _, rfl, _, rfl, sa, st, zs, 5, rfl, hs, hz, hst, by decide, by decide, fun k1 H1 hk1 sx1 hst1 => ⟨_, _, rfl, rfl, ?_⟩⟩
  refine ⟨_, rfl, _, rfl, _, rfl, sa, st, zs, 5, rfl, hs.x sx1, hz, hst1, by decide, by decide, fun k2 H2 hk2 sx2 hst2 => ⟨_, _, rfl, rfl, ?_⟩⟩
  refine ⟨_, rfl, _, rfl, _, _, rfl, rfl, rfl, _, rfl, ?_⟩
  by_cases h0 : k1 + k2 = 0
  · refine if1 (decide_eq_true (by show V.int (0 + (k1 : Int) + (0 + (k2 : Int))) = V.int 0; congr 1; omega)) ?_
    refine ⟨_, rfl, _, rfl, by show 2 ≤ sizeLine; decide, fun t nt => ?_⟩
    exact q t k1 1 _ ((sx1.trans sx2).trans (SameX.of (same_new nt))) (hst2.to (same_new nt)) (by rw [upd_same]; show some (HO.tup [V.int (0 + (k1 : Int)), V.int 1]) = _; rw [Int.zero_add]; rfl) (by omega) (by omega) (by omega)
  · refine if0 (decide_eq_false (fun z => h0 (by have z2 : V.int (0 + (k1 : Int) + (0 + (k2 : Int))) = V.int 0 := z; injection z2 with z2; omega))) ?_
    refine ⟨_, rfl, _, rfl, by show 2 ≤ sizeLine; decide, fun t nt => ?_⟩
    exact q t k1 k2 _ ((sx1.trans sx2).trans (SameX.of (same_new nt))) (hst2.to (same_new nt)) (by rw [upd_same]; show some (HO.tup [V.int (0 + (k1 : Int)), V.int (0 + (k2 : Int))]) = _; rw [Int.zero_add, Int.zero_add]) (by omega) (by omega) (by omega)
end
end Wp
set_option Elab.async false
set_option linter.all false
set_option maxRecDepth 100000
set_option maxHeartbeats 2000000
set_option pp.maxSteps 400
/-! WpD13: the law's pairs, its field. -/
namespace Wp
open PySem PySem.Spec PyProof.Rows L2 WP
theorem needF_app (L : Nat) (q : Bool) (w : Nat) : ∀ (ps : List (Nat × Bool)) (lost : Nat) (x : Nat × Bool), needF L q w lost (ps ++ [x]) = (needF L q w lost ps).bind fun k => needF L q w k [x]
  | [], lost, x => rfl
  | (p, a) :: r, lost, x => by
    show needF L q w lost ((p, a) :: (r ++ [x])) = _
    unfold needF
    split
    · split
      · rfl
      · exact needF_app L q w r lost x
    · split
      · exact needF_app L q w r _ x
      · split
        · rfl
        · exact needF_app L q w r _ x
theorem NumsOk.gt {ns : List Nat} (h : NumsOk ns) {a : Nat} (h0 : ns[0]? = some a) : ∀ (i b : Nat), ns[i + 1]? = some b → a < b
  | 0, b, hb => h.2 0 a b h0 hb
  | i + 1, b, hb => by
    obtain ⟨x, hx⟩ : ∃ x, ns[i + 1]? = some x := ⟨_, List.getElem?_eq_getElem (by have := (List.getElem?_eq_some_iff.mp hb).1; omega)⟩
    exact Nat.lt_trans (NumsOk.gt h h0 i x hx) (h.2 (i + 1) x b hx hb)
/-- pairs that come of a width -/
structure PairsD (d : LogD) (ps : List (Nat × Bool)) : Prop where
  po : ∃ w ∈ d.ns, (needF d.L d.q w 0 ps).isSome = true
  mem : ∀ p ∈ ps, p.1 ∈ d.ns ∧ d.ns[0]? ≠ some p.1
  few : ps.length ≤ 3
def spPS (K : PySem.W.Frag) : Sp := fun vs H Q _ => ∃ (sa st : Addr) (zs : List Int) (rh nl : Addr) (d : LogD), vs = [.ref sa, .ref st, .ref rh, .int 3] ∧ Scr K st H sa (zs.map V.int) ∧ zs.length ≤ 1000 ∧ StAt H st ∧ RoadL st H rh nl d ∧ DrawnR d ∧
  ∀ pt ps H', SameX st H H' → StAt H' st → TupPs H' pt ps → PairsD d ps → Q (.ref pt) H'
/-- the law's field: the road, the pairs, the prices -/
structure FieldAt (st : Addr) (H : Hp) (fd rh nl pt pr : Addr) (d : LogD) (pa ps : Nat) : Prop where
  fd : H fd = some (.tup [.ref rh, .ref pt, .ref pr])
  ro : RoadL st H rh nl d
  pt : TupPs H pt d.ps
  pr : H pr = some (.tup [.int (pa : Nat), .int (ps : Nat)])
def spFI (K : PySem.W.Frag) : Sp := fun vs H Q _ => ∃ (sa st : Addr) (zs : List Int), vs = [.ref sa, .ref st] ∧ Scr K st H sa (zs.map V.int) ∧ zs.length ≤ 1000 ∧ StAt H st ∧
  ∀ fd rh nl pt pr (d : LogD) (pa ps : Nat) H', SameX st H H' → StAt H' st → FieldAt st H' fd rh nl pt pr d pa ps → DrawnR d → PairsD d d.ps → pa ≤ 4 → ps ≤ 4 → 0 < pa + ps → Q (.ref fd) H'
section
variable {P : Program} {w : World} {K : PySem.W.Frag} {mg : Str → Option Value} {base : Heap} {c : Cs} {Ts : List (Addr × Str)}
theorem cal_ps (T : Txt K mg c) : C8.Cal P w K mg base 2 "_law_true_pairs" (spPS K) [] := by
  refine cal_mk T.l_true_pairs scLP (fun _ _ _ _ _ _ us hl => match us, hl with | [_, _, _, _], _ => rfl) (fun vs H Q E h => ?_) (fun f cdv A outer s H vs Q E hr h => ?_)
  · obtain ⟨sa, st, zs, rh, nl, d, rfl, _⟩ := h
    rfl
  obtain ⟨sa, st, zs, rh, nl, d, rfl, hs, hz, hst, hR, hd, q⟩ := h
  have hlo := hd.lo
  have hhi := hd.hi
  refine ⟨_, (pss_cons (ps_set (i := 4) scLP.nd rfl (.inl rfl) (pe_lst pa_nil))
    (pss_cons (ps_set (i := 5) scLP.nd rfl (.inl rfl) pe_int)
    (pss_cons (ps_set (i := 6) scLP.nd rfl (.inl rfl) (pe_ix ix_list (pe_ix ix_tup (pv 2) pe_int (fun _ _ => rfl)) (C8.pe_c (cal_dr T) hr (by decide) rfl (pa_cons (pv 0) (pa_cons (pv 1) (pa_cons (pe_callB call_len_seq (by rfl) T.bLen (by decide +kernel) (pa_cons (pe_ix ix_tup (pv 2) pe_int (fun _ _ => rfl)) pa_nil)) pa_nil)))) (fun _ _ => rfl)))
    (pss_cons (ps_if (pt_cmpR op_eq (pe_callB call_len_seq (by rfl) T.bLen (by decide +kernel) (pa_cons (pe_ix ix_tup (pv 2) pe_int (fun _ _ => rfl)) pa_nil)) pe_int (nomark _)) (pss_one (ps_ret (pe_tup pa_nil))) pss_nil)
    (pss_cons (ps_for PassesOwn.never rfl (pi_range1 rfl T.bRange (pa_cons (C8.pe_c (cal_dr T) hr (by decide) rfl (pa_cons (pv 0) (pa_cons (pv 1) (pa_cons (pe_op op_add (pv 3) pe_int) pa_nil)))) pa_nil)) (pg_name (i := 7) scLP.nd rfl (.inl rfl))
    (pss_cons (ps_set (i := 8) scLP.nd rfl (.inl rfl) (pe_ix ix_list (pe_ix ix_tup (pv 2) pe_int (fun _ _ => rfl)) (pe_op op_add pe_int (C8.pe_c (cal_dr T) hr (by decide) rfl (pa_cons (pv 0) (pa_cons (pv 1) (pa_cons (pe_op op_sub (pe_callB call_len_seq (by rfl) T.bLen (by decide +kernel) (pa_cons (pe_ix ix_tup (pv 2) pe_int (fun _ _ => rfl)) pa_nil)) pe_int) pa_nil))))) (fun _ _ => rfl)))
    (pss_cons (ps_set (i := 9) scLP.nd rfl (.inl rfl) (pe_cmpR op_eq (C8.pe_c (cal_dr T) hr (by decide) rfl (pa_cons (pv 0) (pa_cons (pv 1) (pa_cons pe_int pa_nil)))) pe_int (nomark _)))
    (pss_one (ps_if (pt_cmpR op_gt (pv 8) (pv 6) (nomark _)) (pss_one (ps_expr (pe_bm PySem.F.plainAttrs_list PySem.F.slot_list_append PySem.F.type_list_append mt_append (pv 4) (pa_cons (pe_tup (pa_cons (pv 8) (pa_cons pe_bl pa_nil))) pa_nil)))) (pss_one (ps_if (PW.pt (pw_and (pt_val (pv 9)) (pw_and1 (pt_cmpR op_lt (pv 5) (pe_ix ix_tup (pv 2) pe_int (fun _ _ => rfl)) (nomark _))))) (pss_cons (ps_set (i := 5) scLP.nd rfl (.inl rfl) (pe_op op_add (pv 5) pe_int))
    (pss_one (ps_expr (pe_bm PySem.F.plainAttrs_list PySem.F.slot_list_append PySem.F.type_list_append mt_append (pv 4) (pa_cons (pe_tup (pa_cons (pv 8) (pa_cons pe_bl pa_nil))) pa_nil))))) (pss_cons (ps_if (pt_val (pe_ix ix_tup (pv 2) pe_int (fun _ _ => rfl))) (pss_one (ps_set (i := 5) scLP.nd rfl (.inl rfl) pe_int)) pss_nil)
    (pss_one (ps_expr (pe_bm PySem.F.plainAttrs_list PySem.F.slot_list_append PySem.F.type_list_append mt_append (pv 4) (pa_cons (pe_tup (pa_cons (pv 8) (pa_cons pe_bl pa_nil))) pa_nil))))))))))))
    (pss_one (ps_ret (pe_callTy call_tuple_of (by rfl) T.bTuple (by decide +kernel) (pa_cons (pv 4) pa_nil))))))))), ?_⟩
  refine ⟨Nat.zero_le _, fun l nl0 => ?_⟩
  have s1 : Same H (upd H l (.lst [])) := same_new nl0
  have hl1 : upd H l (.lst []) l = some (.lst (([] : List Addr).map V.ref)) := upd_same
  generalize upd H l (.lst []) = H1 at s1 hl1
  have nls : l ≠ st := st_ne hst nl0
  have hR1 := hR.to s1
  refine ⟨_, rfl, rh, _, _, _, rfl, rfl, SqT.of hR1.rt, atI_nat (j := 0) rfl, ?_⟩
  refine ⟨_, rfl, _, rfl, _, rfl, rh, _, _, _, rfl, rfl, SqT.of hR1.rt, atI_nat (j := 0) rfl, nl, _, rfl, .inl (SqL.of hR1.ls), sa, st, zs, d.ns.length, by rw [rv_len]; rfl, hs.x (SameX.of s1), hz, hst.to s1, hlo, by omega, fun k0 H2 hk0 sx2 hst2 => ?_⟩
  have hR2 := hR1.x (hst.to s1) sx2
  obtain ⟨wd, hwd⟩ : ∃ wd, d.ns[k0]? = some wd := ⟨_, List.getElem?_eq_getElem hk0⟩
  refine ⟨nl, _, _, _, rfl, rfl, SqL.of hR2.ls, atI_nat (rv_get' hwd), ?_⟩
  refine ⟨_, rfl, rh, _, _, _, rfl, rfl, SqT.of hR2.rt, atI_nat (j := 0) rfl, nl, _, rfl, .inl (SqL.of hR2.ls), rfl, _, rfl, ?_⟩
  have wmem : wd ∈ d.ns := List.mem_of_getElem? hwd
  by_cases h1 : d.ns.length = 1
  · refine if1 (decide_eq_true (by rw [rv_len, h1]; rfl)) ⟨Nat.zero_le _, fun t nt => ?_⟩
    exact q t [] _ ((SameX.of s1).trans (sx2.trans (SameX.of (same_new nt)))) (hst2.to (same_new nt)) ⟨[], upd_same, rfl, fun i a p h1 _ => by simp at h1⟩ ⟨⟨wd, wmem, rfl⟩, fun p hp => (by simp at hp), (by simp)⟩
  refine if0 (decide_eq_false fun z => h1 (by injection z with z; rw [rv_len] at z; omega)) ?_
  refine ⟨_, rfl, _, rfl, _, rfl, _, _, rfl, rfl, sa, st, zs, 4, rfl, (hs.x (SameX.of s1)).x sx2, hz, hst2, by decide, by decide, fun k3 H3 hk3 sx3 hst3 => ⟨(k3 : Int), rfl, by omega, by omega, ?_⟩⟩
  have hL1 : SameX st H H3 := (SameX.of s1).trans (sx2.trans sx3)
  have hl3 : H3 l = some (.lst (([] : List Addr).map V.ref)) := sx3 _ _ nls (sx2 _ _ nls hl1)
  have hR3 := hR2.x hst2 sx3
  refine for_range (lo := 0) (n := ((k3 : Nat) : Int).toNat) (fun i σ H' => ∃ (lost : Nat) (as : List Addr) (ps : List (Nat × Bool)) (e7 e8 e9 : Option V), σ = [some (.ref sa), some (.ref st), some (.ref rh), some (.int 3), some (.ref l), some (.int (lost : Nat)), some (.int (wd : Nat)), e7, e8, e9] ∧ SameX st H H' ∧ StAt H' st ∧ RoadL st H' rh nl d ∧ H' l = some (.lst (as.map V.ref)) ∧ PairsAt H' as ps ∧ ps.length = i ∧ needF d.L d.q wd 0 ps = some lost ∧ (∀ p ∈ ps, p.1 ∈ d.ns ∧ d.ns[0]? ≠ some p.1))
    ⟨0, [], [], none, none, none, rfl, hL1, hst3, hR3, hl3, ⟨rfl, fun i a p h1 _ => by simp at h1⟩, rfl, rfl, fun p hp => (by simp at hp)⟩ ?_ ?_
  · rintro i σ H4 hi ⟨lost, as, ps, e7, e8, e9, rfl, sx4, hst4, hR4, hl4, hps, hlen, hneed, hmem⟩
    refine ⟨_, rfl, rh, _, _, _, rfl, rfl, SqT.of hR4.rt, atI_nat (j := 0) rfl, ?_⟩
    refine ⟨_, rfl, _, rfl, _, rfl, rh, _, _, _, rfl, rfl, SqT.of hR4.rt, atI_nat (j := 0) rfl, nl, _, rfl, .inl (SqL.of hR4.ls), _, _, rfl, rfl, sa, st, zs, d.ns.length - 1, ?_, hs.x sx4, hz, hst4, by omega, by omega, fun k5 H5 hk5 sx5 hst5 => ⟨_, _, rfl, rfl, ?_⟩⟩
    · show [V.ref sa, V.ref st, V.int ((rv d.ns).length - 1 : Int)] = _
      rw [rv_len, show ((d.ns.length : Nat) : Int) - 1 = ((d.ns.length - 1 : Nat) : Int) by omega]
    have hR5 := hR4.x hst4 sx5
    obtain ⟨pb, hpb⟩ : ∃ pb, d.ns[k5 + 1]? = some pb := ⟨_, List.getElem?_eq_getElem (by omega)⟩
    have hpbI : atI (rv d.ns) (1 + (k5 : Int)) = some (.int (pb : Nat)) := by
      have e : (1 + (k5 : Int)) = ((k5 + 1 : Nat) : Int) := by omega
      rw [e]
      exact atI_nat (rv_get' hpb)
    refine ⟨nl, _, _, _, rfl, rfl, SqL.of hR5.ls, hpbI, ?_⟩
    refine ⟨_, rfl, _, rfl, sa, st, zs, 2, rfl, (hs.x sx4).x sx5, hz, hst5, by decide, by decide, fun k6 H6 hk6 sx6 hst6 => ⟨rfl, ?_⟩⟩
    have hR6 := hR5.x hst5 sx6
    have hmemb : ∀ b : Bool, ∀ p ∈ ps ++ [(pb, b)], p.1 ∈ d.ns ∧ d.ns[0]? ≠ some p.1 := fun b p hp => by
      rcases List.mem_append.mp hp with hp | hp
      · exact hmem p hp
      · rw [List.mem_singleton.mp hp]
        refine ⟨List.mem_of_getElem? hpb, fun z => ?_⟩
        exact absurd (hd.ok.gt z k5 pb hpb) (Nat.lt_irrefl _)
    have sx46 : SameX st H H6 := sx4.trans (sx5.trans sx6)
    have hl6 : H6 l = some (.lst (as.map V.ref)) := sx6 _ _ nls (sx5 _ _ nls hl4)
    obtain ⟨w1, w2, w3, w4, hw⟩ := hst4
    have hps6 : PairsAt H6 as ps := ⟨hps.1, fun j a p z1 z2 => by
      have e := hps.2 j a p z1 z2
      have n := tup_ne e hw (fun ys z => by cases z)
      exact sx6 _ _ n (sx5 _ _ n e)⟩
    have hal : as.length = ps.length := hps.1
    -- a pair more
    have fin : ∀ (b : Bool) (lost' : Nat) (e7 e8 e9 : Option V), needF d.L d.q wd 0 (ps ++ [(pb, b)]) = some lost' → ∀ t, H6 t = none → ∃ (lost2 : Nat) (as2 : List Addr) (ps2 : List (Nat × Bool)) (f7 f8 f9 : Option V), [some (V.ref sa), some (.ref st), some (.ref rh), some (.int 3), some (.ref l), some (.int (lost' : Nat)), some (.int (wd : Nat)), e7, e8, e9] = [some (.ref sa), some (.ref st), some (.ref rh), some (.int 3), some (.ref l), some (.int (lost2 : Nat)), some (.int (wd : Nat)), f7, f8, f9] ∧
        SameX st H (upd (upd H6 t (.tup [.int (pb : Nat), .bl b])) l (.lst (as.map V.ref ++ [.ref t]))) ∧ StAt (upd (upd H6 t (.tup [.int (pb : Nat), .bl b])) l (.lst (as.map V.ref ++ [.ref t]))) st ∧ RoadL st (upd (upd H6 t (.tup [.int (pb : Nat), .bl b])) l (.lst (as.map V.ref ++ [.ref t]))) rh nl d ∧
        upd (upd H6 t (.tup [.int (pb : Nat), .bl b])) l (.lst (as.map V.ref ++ [.ref t])) l = some (.lst (as2.map V.ref)) ∧ PairsAt (upd (upd H6 t (.tup [.int (pb : Nat), .bl b])) l (.lst (as.map V.ref ++ [.ref t]))) as2 ps2 ∧ ps2.length = i + 1 ∧ needF d.L d.q wd 0 ps2 = some lost2 ∧ (∀ p ∈ ps2, p.1 ∈ d.ns ∧ d.ns[0]? ≠ some p.1) := by
      intro b lost' e7 e8 e9 hn t nt
      have s7 : Same H6 (upd H6 t (.tup [.int (pb : Nat), .bl b])) := same_new nt
      have ht7 : upd H6 t (.tup [.int (pb : Nat), .bl b]) t = some (.tup [.int (pb : Nat), .bl b]) := upd_same
      generalize upd H6 t (.tup [.int (pb : Nat), .bl b]) = H7 at s7 ht7
      have hl7 := s7 _ _ hl6
      have k8 : Keep H7 (upd H7 l (.lst (as.map V.ref ++ [.ref t]))) := Keep.upd hl7 not_lst
      have sl8 : ∀ b o, b ≠ l → H7 b = some o → upd H7 l (.lst (as.map V.ref ++ [.ref t])) b = some o := fun b o n e => (upd_ne n).trans e
      have nn : nl ≠ l := fun z => by
        have h1 := hR.ls
        rw [z] at h1
        rw [h1] at nl0
        cases nl0
      refine ⟨lost', as ++ [t], ps ++ [(pb, b)], e7, e8, e9, rfl, fun x o n e => ?_, ?_, ⟨k8 _ _ (s7 _ _ hR6.rt) (.tup _), sl8 _ _ nn (s7 _ _ hR6.ls), hR6.ne⟩, ?_, PairsAt.snoc ((hps6.to (Same.x s7)).to k8) (k8 _ _ ht7 (.tup _)), by rw [List.length_append, hlen]; rfl, hn, hmemb b⟩
      · exact sl8 x o (ne_of_none e nl0) (s7 _ _ (sx46 x o n e))
      · obtain ⟨q1, q2, q3, q4, e⟩ := hst6
        exact ⟨q1, q2, q3, q4, sl8 _ _ nls.symm (s7 _ _ e)⟩
      · rw [upd_same, List.map_append]
        rfl
    have happ := fun b => needF_app d.L d.q wd ps 0 (pb, b)
    rw [hneed] at happ
    refine ⟨_, rfl, _, rfl, _, _, rfl, rfl, _, rfl, ?_⟩
    by_cases h2 : wd < pb
    · have hn := happ false
      have e0 : (some lost).bind (fun k => needF d.L d.q wd k [(pb, false)]) = some lost := by
        show needF d.L d.q wd lost [(pb, false)] = _
        unfold needF
        rw [if_pos h2]
        rfl
      rw [e0] at hn
      refine if1 (decide_eq_true (by omega)) ⟨_, rfl, .inl ⟨rfl, _, SqL.of hl6⟩, _, rfl, by show 2 ≤ sizeLine; decide, fun t nt => ?_⟩
      refine ⟨l, _, _, rfl, rfl, same_new nt _ _ hl6, by rw [List.length_map]; exact small_m (by omega), ?_⟩
      exact fin false lost _ _ _ hn t nt
    · have nT : needF d.L d.q wd lost [(pb, true)] = some (if d.q then 0 else lost) := by
        unfold needF
        rw [if_neg h2, if_pos rfl]
        rfl
      refine if0 (decide_eq_false (by omega)) ⟨_, rfl, _, rfl, ?_⟩
      by_cases hg : V.int (k6 : Nat) = V.int 0 ∧ lost < d.L
      · obtain ⟨g1, g2⟩ := hg
        have hn := happ false
        have e0 : (some lost).bind (fun k => needF d.L d.q wd k [(pb, false)]) = some (lost + 1) := by
          show needF d.L d.q wd lost [(pb, false)] = _
          unfold needF
          rw [if_neg h2, if_neg Bool.false_ne_true, if_neg (by omega)]
          rfl
        rw [e0] at hn
        refine if1 (decide_eq_true g1) ⟨_, rfl, _, rfl, rh, _, _, _, rfl, rfl, SqT.of hR6.rt, atI_nat (j := 1) rfl, _, _, rfl, rfl, _, rfl, if1 (decide_eq_true (by omega)) ?_⟩
        refine ⟨_, rfl, _, _, rfl, rfl, _, rfl, .inl ⟨rfl, _, SqL.of hl6⟩, _, rfl, by show 2 ≤ sizeLine; decide, fun t nt => ?_⟩
        refine ⟨l, _, _, rfl, rfl, same_new nt _ _ hl6, by rw [List.length_map]; exact small_m (by omega), ?_⟩
        exact fin false (lost + 1) _ _ _ hn t nt
      · have hn := happ true
        have e0 : (some lost).bind (fun k => needF d.L d.q wd k [(pb, true)]) = some (if d.q then 0 else lost) := nT
        rw [e0] at hn
        by_cases hg1 : V.int (k6 : Nat) = V.int 0
        refine if1 (decide_eq_true hg1) ⟨_, rfl, _, rfl, rh, _, _, _, rfl, rfl, SqT.of hR6.rt, atI_nat (j := 1) rfl, _, _, rfl, rfl, _, rfl, if0 (decide_eq_false (fun z => hg ⟨hg1, by omega⟩)) ?_⟩
        rotate_left
        refine if0 (decide_eq_false hg1) (if0 rfl ?_)
        all_goals
          refine ⟨_, rfl, rh, _, _, _, rfl, rfl, SqT.of hR6.rt, atI_nat (j := 2) rfl, d.q, rfl, ?_⟩
          cases hq : d.q with
          | true =>
            rw [hq, if_pos rfl] at hn
            refine if1 rfl ⟨_, rfl, .inl ⟨rfl, _, SqL.of hl6⟩, _, rfl, by show 2 ≤ sizeLine; decide, fun t nt => ?_⟩
            refine ⟨l, _, _, rfl, rfl, same_new nt _ _ hl6, by rw [List.length_map]; exact small_m (by omega), ?_⟩
            rw [hq] at fin
            exact fin true 0 _ _ _ hn t nt
          | false =>
            rw [hq, if_neg Bool.false_ne_true] at hn
            refine if0 rfl ⟨_, rfl, .inl ⟨rfl, _, SqL.of hl6⟩, _, rfl, by show 2 ≤ sizeLine; decide, fun t nt => ?_⟩
            refine ⟨l, _, _, rfl, rfl, same_new nt _ _ hl6, by rw [List.length_map]; exact small_m (by omega), ?_⟩
            rw [hq] at fin
            exact fin true lost _ _ _ hn t nt
  · rintro σ H4 ⟨lost, as, ps, e7, e8, e9, rfl, sx4, hst4, hR4, hl4, hps, hlen, hneed, hmem⟩
    refine ⟨_, rfl, l, _, rfl, .inl ⟨SqL.of hl4, fun pt npt => ?_⟩⟩
    have s5 : Same H4 (upd H4 pt (.tup (as.map V.ref))) := same_new npt
    exact q pt ps _ (sx4.trans (SameX.of s5)) (hst4.to s5) ⟨as, upd_same, hps.to (Same.x s5)⟩ ⟨⟨wd, wmem, by rw [hneed]; rfl⟩, hmem, by omega⟩
theorem cal_fi (T : Txt K mg c) : C8.Cal P w K mg base 4 "_law_field" (spFI K) [] := by
  refine cal_mk T.l_field scLF (fun _ _ _ _ _ _ us hl => match us, hl with | [_, _], _ => rfl) (fun vs H Q E h => ?_) (fun f cdv A outer s H vs Q E hr h => ?_)
  · obtain ⟨sa, st, zs, rfl, _⟩ := h
    rfl
  obtain ⟨sa, st, zs, rfl, hs, hz, hst, q⟩ := h
  refine ⟨_, (pss_cons (ps_set (i := 2) scLF.nd rfl (.inl rfl) (C8.pe_c (cal_rd T) hr (by decide) rfl (pa_cons (pv 0) (pa_cons (pv 1) (pa_cons pe_int pa_nil)))))
    (pss_cons (ps_set (i := 3) scLF.nd rfl (.inl rfl) (C8.pe_c (cal_ps T) hr (by decide) rfl (pa_cons (pv 0) (pa_cons (pv 1) (pa_cons (pv 2) (pa_cons pe_int pa_nil))))))
    (pss_one (ps_ret (pe_tup (pa_cons (pv 2) (pa_cons (pv 3) (pa_cons (C8.pe_c (cal_pr T) hr (by decide) rfl (pa_cons (pv 0) (pa_cons (pv 1) (pa_cons pe_int pa_nil)))) pa_nil)))))))), ?_⟩
  refine ⟨_, rfl, _, rfl, sa, st, zs, rfl, hs, hz, hst, fun rh nl d H1 hd0 sx1 hst1 hR hd => ?_⟩
  refine ⟨_, rfl, _, rfl, _, rfl, sa, st, zs, rh, nl, d, rfl, hs.x sx1, hz, hst1, hR, hd, fun pt ps H2 sx2 hst2 hpt hps => ?_⟩
  refine ⟨_, rfl, _, rfl, _, rfl, _, rfl, sa, st, zs, rfl, hs.x (sx1.trans sx2), hz, hst2, fun pr pa pb H3 sx3 hst3 hpr h1 h2 h3 => ?_⟩
  refine ⟨by show 3 ≤ sizeLine; decide, fun fd nfd => ?_⟩
  have s4 : Same H3 (upd H3 fd (.tup [.ref rh, .ref pt, .ref pr])) := same_new nfd
  have hR3 := (hR.x hst1 sx2).x hst2 sx3
  obtain ⟨w1, w2, w3, w4, hw⟩ := hst2
  have k3 : Keep H2 H3 := SameX.keep sx3 hw not_lst
  exact q fd rh nl pt pr { d with ps := ps } pa pb _ ((sx1.trans sx2).trans (sx3.trans (SameX.of s4))) (hst3.to s4) ⟨upd_same, ⟨s4 _ _ hR3.rt, s4 _ _ hR3.ls, hR3.ne⟩, (hpt.to k3).to (Same.x s4), s4 _ _ hpr⟩ ⟨hd.lo, hd.hi, hd.ok, hd.hL⟩ ⟨hps.po, hps.mem, hps.few⟩ h1 h2 h3
end
end Wp
set_option Elab.async false
set_option linter.all false
set_option maxRecDepth 100000
set_option maxHeartbeats 2000000
set_option pp.maxSteps 400
/-! WpD14: the law's own rows. -/
namespace Wp
open PySem PySem.Spec PyProof.Rows L2 WP
/-- the law's road, without the state -/
structure RoadV (H : Hp) (rh nl : Addr) (d : LogD) : Prop where
  rt : H rh = some (.tup [.ref nl, .int (d.L : Int), .bl d.q])
  ls : H nl = some (.lst (rv d.ns))
theorem RoadV.to {H H' : Hp} {rh nl : Addr} {d : LogD} (r : RoadV H rh nl d) (s : Same H H') : RoadV H' rh nl d := ⟨s _ _ r.rt, s _ _ r.ls⟩
/-- the scope of the comprehension in _law_counts -/
abbrev coScope : Scope := { kind := ScopeKind.function, names := [(".0", NameKind.local), ("_law_need_here", NameKind.cell), ("len", NameKind.globalImplicit), ("_law_needs", NameKind.cell)], isGenerator := false, isCoroutine := false }
def rLenS (K : PySem.W.Frag) : List V → Hp → VK → Prop := fun vs H Q => ∃ p xs, vs = [V.ref p] ∧ (SqL K H p xs ∨ SqT K H p xs) ∧ Q (.int (xs.length : Int)) H
theorem id_len {X : Cx} : CallR X (.builtin "len") (rLenS X.K) := call_len_seq
def spLNe : Sp := fun vs H Q _ => ∃ (rh nl pt : Addr) (d : LogD) (w : Nat), vs = [.ref rh, .ref pt, .int w] ∧ RoadV H rh nl d ∧ TupPs H pt d.ps ∧ Q (optV (need d w)) H
def spLCa : Sp := fun vs H Q _ => ∃ (rh nl pt : Addr) (d : LogD), vs = [.ref rh, .ref pt] ∧ RoadV H rh nl d ∧ TupPs H pt d.ps ∧ d.ns.length ≤ 24 ∧ ∀ l H', Same H H' → H l = none → H' l = some (.lst (rv (can d))) → Q (.ref l) H'
def spLNo : Sp := fun vs H Q _ => ∃ (a : Addr) (r : List Nat) (L : Nat), vs = [.ref a] ∧ RowAt H a r ∧ Ok L r ∧ L ≤ 4 ∧ ∀ t H', Same H H' → H' t = some (.tup (rv (ndF 0 r))) → Q (.ref t) H'
/-- needs as a list or a tuple -/
def SqA (H : Hp) (a : Addr) (ns : List Nat) : Prop := H a = some (.lst (rv ns)) ∨ H a = some (.tup (rv ns))
theorem SqA.to {H H' : Hp} {a : Addr} {ns : List Nat} (h : SqA H a ns) (s : Same H H') : SqA H' a ns := h.elim (fun z => .inl (s _ _ z)) fun z => .inr (s _ _ z)
def spLCo : Sp := fun vs H Q _ => ∃ (a : Addr) (ns : List Nat) (L : Nat), vs = [.ref a, .int L] ∧ SqA H a ns ∧ ns.length ≤ 1000 ∧ L ≤ 1000 ∧ ∀ p H', Same H H' → RowAt H' p (cntF 0 (L + 1) ns) → Q (.ref p) H'
def spLRo : Sp := fun vs H Q _ => ∃ (rh nl pt : Addr) (d : LogD), vs = [.ref rh, .ref pt] ∧ RoadV H rh nl d ∧ TupPs H pt d.ps ∧ d.ns.length ≤ 24 ∧ d.L ≤ 3 ∧ ∀ p H', Same H H' → RowAt H' p (rowOf d) → Q (.ref p) H'
def spLPo : Sp := fun vs H Q _ => ∃ (a : Addr) (pa ps : Nat) (z : Bool), vs = [.ref a, .bl z] ∧ H a = some (.tup [.int (pa : Nat), .int (ps : Nat)]) ∧ Q (.int ((if z then pa else ps : Nat) : Int)) H
def spLLe : Sp := fun vs H Q _ => ∃ (rh nl a : Addr) (d : LogD) (r : List Nat) (b : Nat) (z : Bool), vs = [.ref rh, .ref a, .int b, .bl z] ∧ RoadV H rh nl d ∧ d.L ≤ 3 ∧ RowAt H a r ∧ Ok (d.L + 1) r ∧ 1 ≤ b ∧ b < r.sum ∧ ∀ p H', Same H H' → RowAt H' p (led d.q r b z) → Q (.ref p) H'
section
variable {P : Program} {w : World} {K : PySem.W.Frag} {mg : Str → Option Value} {base : Heap} {c : Cs} {Ts : List (Addr × Str)}
theorem scLne : FnScope ["_law_road_here", "_law_pairs", "_law_width", "_law_lost", "_law_probe", "_law_answered"] ["_law_road_here", "_law_pairs", "_law_width"] (defScope (topS 67)) := ⟨rfl, rfl, rfl, by decide +kernel, rfl, by decide +kernel, by decide +kernel⟩
theorem scLca : FnScope ["_law_road_here", "_law_pairs", "_law_width"] ["_law_road_here", "_law_pairs"] (defScope (topS 68)) := ⟨rfl, rfl, rfl, by decide +kernel, rfl, by decide +kernel, by decide +kernel⟩
theorem scLno : FnScope ["_law_row_here", "_law_needs", "_law_need_here"] ["_law_row_here"] (defScope (topS 74)) := ⟨rfl, rfl, rfl, by decide +kernel, rfl, by decide +kernel, by decide +kernel⟩
theorem scLco : FnScope ["_law_needs", "_law_losses", "_law_need_here", "_law_one"] ["_law_needs", "_law_losses"] (defScope (topS 75)) := ⟨rfl, rfl, rfl, by decide +kernel, rfl, by decide +kernel, by decide +kernel⟩
theorem scLro : FnScope ["_law_road_here", "_law_pairs", "_law_needs", "_law_width"] ["_law_road_here", "_law_pairs"] (defScope (topS 77)) := ⟨rfl, rfl, rfl, by decide +kernel, rfl, by decide +kernel, by decide +kernel⟩
theorem scLpo : FnScope ["_law_prices_here", "_law_answered"] ["_law_prices_here", "_law_answered"] (defScope (topS 80)) := ⟨rfl, rfl, rfl, by decide +kernel, rfl, by decide +kernel, by decide +kernel⟩
theorem scLle : FnScope ["_law_road_here", "_law_row_here", "_law_below", "_law_answered", "_law_needs", "_law_kept", "_law_more", "_law_need_here"] ["_law_road_here", "_law_row_here", "_law_below", "_law_answered"] (defScope (topS 76)) := ⟨rfl, rfl, rfl, by decide +kernel, rfl, by decide +kernel, by decide +kernel⟩
theorem cal_lne (T : Txt K mg c) : C8.Cal P w K mg base 1 "_law_need" spLNe [] := by
  refine cal_mk T.l_need scLne (fun _ _ _ _ _ _ us hl => match us, hl with | [_, _, _], _ => rfl) (fun vs H Q E h => ?_) (fun f cdv A outer s H vs Q E hr h => ?_)
  · obtain ⟨rh, nl, pt, d, w, rfl, _⟩ := h
    rfl
  obtain ⟨rh, nl, pt, d, wd, rfl, hR, ⟨pas, hpt, hps⟩, q⟩ := h
  refine ⟨_, (pss_cons (ps_set (i := 3) scLne.nd rfl (.inl rfl) pe_int)
    (pss_cons (ps_for PassesOwn.never rfl (pi_tup (pv 1)) (pg_tup rfl (pgs_cons (pg_name (i := 4) scLne.nd rfl (.inl rfl)) (pgs_cons (pg_name (i := 5) scLne.nd rfl (.inl rfl)) pgs_nil)))
    (pss_cons (ps_if (PW.pt (pw_and (pt_cmpR op_gt (pv 4) (pv 2) (nomark _)) (pw_and1 (pt_val (pv 5))))) (pss_one (ps_ret pe_non)) pss_nil)
    (pss_cons (ps_if (PW.pt (pw_and (pt_cmpR op_le (pv 4) (pv 2) (nomark _)) (pw_and1 (pt_not (pt_val (pv 5)))))) (pss_one (ps_set (i := 3) scLne.nd rfl (.inl rfl) (pe_op op_add (pv 3) pe_int))) pss_nil)
    (pss_cons (ps_if (PW.pt (pw_and (pt_cmpR op_le (pv 4) (pv 2) (nomark _)) (pw_and (pt_val (pv 5)) (pw_and1 (pt_val (pe_ix ix_tup (pv 0) pe_int (fun _ _ => rfl))))))) (pss_one (ps_set (i := 3) scLne.nd rfl (.inl rfl) pe_int)) pss_nil)
    (pss_one (ps_if (pt_cmpR op_gt (pv 3) (pe_ix ix_tup (pv 0) pe_int (fun _ _ => rfl)) (nomark _)) (pss_one (ps_ret pe_non)) pss_nil))))))
    (pss_one (ps_ret (pv 3))))), ?_⟩
  refine ⟨_, rfl, pt, rfl, ⟨_, SqT.of hpt⟩, for_tup (K := K) (a := pt) (xs := pas.map V.ref) (fun i σ H' => ∃ (lost : Nat) (e1 e2 : Option V), σ = [some (.ref rh), some (.ref pt), some (.int wd), some (.int (lost : Nat)), e1, e2] ∧ H' = H ∧ lost ≤ d.L ∧ need d wd = needF d.L d.q wd lost (d.ps.drop i))
    ⟨0, none, none, rfl, rfl, Nat.zero_le _, rfl⟩ (fun i σ H' _ ⟨_, _, _, _, e, _⟩ => e ▸ SqT.of hpt) ?_ ?_⟩
  · rintro i x σ H' hx ⟨lost, e1, e2, rfl, rfl, hll, en⟩
    obtain ⟨a, ⟨p, b⟩, rfl, hp, ha⟩ := pas_get hps hx
    rw [drop_get hp] at en
    refine ⟨a, _, rfl, SqT.of ha, rfl, _, _, rfl, _, _, rfl, rfl, ?_⟩
    unfold needF at en
    have R1 : ∀ {Q : V → Hp → Prop}, Q (.int (d.L : Int)) H' → tOp (rIxT K) (tVar 0) (tC (.int 1)) [some (.ref rh), some (.ref pt), some (.int wd), some (.int (lost : Nat)), some (.int (p : Nat)), some (.bl b)] H' Q := fun h => ⟨_, rfl, rh, _, _, _, rfl, rfl, SqT.of hR.rt, atI_nat (j := 1) rfl, h⟩
    refine ⟨_, rfl, _, rfl, _, _, rfl, rfl, _, rfl, ?_⟩
    by_cases h1 : wd < p
    · rw [if_pos h1] at en
      cases b with
      | true =>
        rw [if_pos rfl] at en
        rw [en] at q
        exact if1 (decide_eq_true (by omega)) ⟨_, rfl, true, rfl, if1 rfl q⟩
      | false =>
        rw [if_neg Bool.false_ne_true] at en
        refine if1 (decide_eq_true (by omega)) ⟨_, rfl, false, rfl, if0 rfl ?_⟩
        refine ⟨_, rfl, _, rfl, _, _, rfl, rfl, _, rfl, if0 (decide_eq_false (by omega)) (if0 rfl ?_)⟩
        refine ⟨_, rfl, _, rfl, _, _, rfl, rfl, _, rfl, if0 (decide_eq_false (by omega)) (if0 rfl ?_)⟩
        refine ⟨_, rfl, _, rfl, rh, _, _, _, rfl, rfl, SqT.of hR.rt, atI_nat (j := 1) rfl, _, _, rfl, rfl, _, rfl, if0 (decide_eq_false (by omega)) ⟨lost, _, _, rfl, rfl, hll, en⟩⟩
    · rw [if_neg h1] at en
      refine if0 (decide_eq_false (by omega)) (if0 rfl ?_)
      refine ⟨_, rfl, _, rfl, _, _, rfl, rfl, _, rfl, if1 (decide_eq_true (by omega)) ⟨_, rfl, b, rfl, ?_⟩⟩
      cases b with
      | false =>
        rw [if_neg Bool.false_ne_true] at en
        refine if1 rfl ⟨_, rfl, _, _, rfl, rfl, ?_⟩
        refine ⟨_, rfl, _, rfl, _, _, rfl, rfl, _, rfl, if1 (decide_eq_true (by omega)) ⟨_, rfl, false, rfl, if0 rfl (if0 rfl ?_)⟩⟩
        refine ⟨_, rfl, _, rfl, rh, _, _, _, rfl, rfl, SqT.of hR.rt, atI_nat (j := 1) rfl, _, _, rfl, rfl, _, rfl, ?_⟩
        by_cases h2 : d.L < lost + 1
        · rw [if_pos h2] at en
          rw [en] at q
          exact if1 (decide_eq_true (show (d.L : Int) < (lost : Int) + 1 by omega)) q
        · rw [if_neg h2] at en
          exact if0 (decide_eq_false (show ¬ (d.L : Int) < (lost : Int) + 1 by omega)) ⟨lost + 1, _, _, rfl, rfl, by omega, en⟩
      | true =>
        rw [if_pos rfl] at en
        refine if0 rfl ?_
        refine ⟨_, rfl, _, rfl, _, _, rfl, rfl, _, rfl, if1 (decide_eq_true (by omega)) ⟨_, rfl, true, rfl, if1 rfl ⟨_, rfl, rh, _, _, _, rfl, rfl, SqT.of hR.rt, atI_nat (j := 2) rfl, d.q, rfl, ?_⟩⟩⟩
        cases hq : d.q with
        | true =>
          rw [hq, if_pos rfl] at en
          refine if1 rfl ?_
          exact ⟨_, rfl, _, rfl, rh, _, _, _, rfl, rfl, SqT.of hR.rt, atI_nat (j := 1) rfl, _, _, rfl, rfl, _, rfl, if0 (decide_eq_false (show ¬ (d.L : Int) < 0 by omega)) ⟨0, _, _, rfl, rfl, Nat.zero_le _, en⟩⟩
        | false =>
          rw [hq, if_neg Bool.false_ne_true] at en
          refine if0 rfl ?_
          exact ⟨_, rfl, _, rfl, rh, _, _, _, rfl, rfl, SqT.of hR.rt, atI_nat (j := 1) rfl, _, _, rfl, rfl, _, rfl, if0 (decide_eq_false (by omega)) ⟨lost, _, _, rfl, rfl, hll, en⟩⟩
  · rintro σ H' ⟨lost, e1, e2, rfl, rfl, hll, en⟩
    have hl : (pas.map V.ref).length = d.ps.length := by rw [List.length_map]; exact hps.1
    rw [hl, List.drop_length] at en
    rw [en] at q
    exact ⟨_, rfl, q⟩
theorem cal_lca (T : Txt K mg c) : C8.Cal P w K mg base 2 "_law_can" spLCa [] := by
  refine cal_mk T.l_can scLca (fun _ _ _ _ _ _ us hl => match us, hl with | [_, _], _ => rfl) (fun vs H Q E h => ?_) (fun f cdv A outer s H vs Q E hr h => ?_)
  · obtain ⟨rh, nl, pt, d, rfl, _⟩ := h
    rfl
  obtain ⟨rh, nl, pt, d, rfl, hR, hpt, hlen, q⟩ := h
  refine ⟨_, (pss_one (ps_ret (pe_lc (own := [("_law_width", 2)]) (g := gName 2) (tt := tTest (tOp _ _ _)) rfl scLca.nd (pi_seq (pe_ix ix_tup (pv 0) pe_int (fun _ _ => rfl))) (blkOk_by (N := ["_law_road_here", "_law_pairs", "_law_width"]) (sc := (defScope (topS 68))) (by decide +kernel)) (fun _ _ _ _ _ => (pg_name (i := 2) scLca.nd rfl (.inl rfl))) (fun _ _ _ _ _ => (pts_one (pt_cmpR op_notN (C8.pe_c (cal_lne T) hr (by decide) rfl (pa_cons (pv 0) (pa_cons (pv 1) (pa_cons (pv 2) pa_nil)))) pe_non (nomark _)))) (fun _ _ _ _ _ => (pv 2))))), ?_⟩
  refine ⟨_, rfl, rh, _, _, _, rfl, rfl, SqT.of hR.rt, atI_nat (j := 0) rfl, nl, _, rfl, .inl ⟨SqL.of hR.ls, fun D nD => ?_⟩⟩
  have s1 : Same H (upd H D (.lst [])) := same_new nD
  refine lc_list (K := K) (a := nl) (xs := rv d.ns) (fun i H' => Same H H' ∧ H' D = some (.lst (rv (canF d.L d.q d.ps (d.ns.take i))))) ⟨s1, upd_same⟩ (fun i H' _ ⟨s2, _⟩ => SqL.of (s2 _ _ hR.ls)) ?_ ?_
  · rintro i x H1 hx ⟨s2, hD⟩
    obtain ⟨n, hn, rfl⟩ := rv_get hx
    refine ⟨rfl, _, rfl, _, rfl, _, rfl, rh, nl, pt, d, n, rfl, hR.to s2, hpt.to (Same.x s2), rfl, _, rfl, ?_⟩
    have hc := can_snoc hn
    cases hz : need d n with
    | none =>
      rw [hz] at hc
      refine if0 rfl ⟨s2, ?_⟩
      rw [hc, hD]
      simp
    | some k =>
      rw [hz] at hc
      refine if1 rfl ⟨_, rfl, _, hD, ?_, Same.mut s2 nD, ?_⟩
      · rw [rv_len]
        refine small1000 ?_
        have h1 : (canF d.L d.q d.ps (d.ns.take i)).length ≤ (d.ns.take i).length := List.length_filter_le _ _
        rw [List.length_take] at h1
        omega
      · rw [upd_same, hc, rv_app]
        rfl
  · rintro H1 ⟨s2, hD⟩
    rw [rv_len, List.take_length] at hD
    exact q D H1 s2 nD hD
theorem cal_lpo (T : Txt K mg c) : C8.Cal P w K mg base 1 "_law_price" spLPo [] := by
  refine cal_mk T.l_price scLpo (fun _ _ _ _ _ _ us hl => match us, hl with | [_, _], _ => rfl) (fun vs H Q E h => ?_) (fun f cdv A outer s H vs Q E hr h => ?_)
  · obtain ⟨a, pa, ps, z, rfl, _⟩ := h
    rfl
  obtain ⟨a, pa, ps, z, rfl, ha, q⟩ := h
  refine ⟨_, (pss_cons (ps_if (pt_val (pv 1)) (pss_one (ps_ret (pe_ix ix_tup (pv 0) pe_int (fun _ _ => rfl)))) pss_nil)
    (pss_one (ps_ret (pe_ix ix_tup (pv 0) pe_int (fun _ _ => rfl))))), ?_⟩
  refine ⟨_, rfl, z, rfl, ?_⟩
  cases z with
  | true => exact if1 rfl ⟨_, rfl, a, _, _, _, rfl, rfl, SqT.of ha, atI_nat (j := 0) rfl, q⟩
  | false => exact if0 rfl ⟨_, rfl, a, _, _, _, rfl, rfl, SqT.of ha, atI_nat (j := 1) rfl, q⟩
theorem ndF_snoc (n : Nat) : ∀ (r : List Nat) (k : Nat), ndF k (r ++ [n]) = ndF k r ++ List.replicate n (k + r.length)
  | [], k => by simp [ndF]
  | m :: r, k => by
    show List.replicate m k ++ ndF (k + 1) (r ++ [n]) = (List.replicate m k ++ ndF (k + 1) r) ++ _
    rw [ndF_snoc n r (k + 1), List.append_assoc, List.length_cons, Nat.add_assoc, Nat.add_comm 1 r.length]
theorem flat_rep (x : V) : ∀ n : Nat, (List.replicate n [x]).flatten = List.replicate n x
  | 0 => rfl
  | n + 1 => by simp [List.replicate_succ, flat_rep x n]
theorem ndF_take_le (r : List Nat) (i : Nat) : (ndF 0 (r.take i)).length ≤ r.sum := by
  rw [ndF_len]
  have := List.sum_append (l₁ := r.take i) (l₂ := r.drop i)
  rw [List.take_append_drop] at this
  omega
theorem cal_lno (T : Txt K mg c) : C8.Cal P w K mg base 1 "_law_needs_of" spLNo [] := by
  refine cal_mk T.l_needs_of scLno (fun _ _ _ _ _ _ us hl => match us, hl with | [_], _ => rfl) (fun vs H Q E h => ?_) (fun f cdv A outer s H vs Q E hr h => ?_)
  · obtain ⟨a, r, L, rfl, _⟩ := h
    rfl
  obtain ⟨a, r, L, rfl, ha, ho, hL, q⟩ := h
  have htop := ho.top
  have hlr := ho.len
  refine ⟨_, (pss_cons (ps_set (i := 1) scLno.nd rfl (.inl rfl) (pe_lst pa_nil))
    (pss_cons (ps_for PassesOwn.never rfl (pi_range1 rfl T.bRange (pa_cons (pe_callB call_len_seq (by rfl) T.bLen (by decide +kernel) (pa_cons (pv 0) pa_nil)) pa_nil)) (pg_name (i := 2) scLno.nd rfl (.inl rfl))
    (pss_one (ps_set (i := 1) scLno.nd rfl (.inl rfl) (pe_op op_cat (pv 1) (pe_op op_rep (pe_lst (pa_cons (pv 2) pa_nil)) (pe_ix ix_tup (pv 0) (pv 2) (fun _ _ => rfl)))))))
    (pss_one (ps_ret (pe_callTy call_tuple_of (by rfl) T.bTuple (by decide +kernel) (pa_cons (pv 1) pa_nil)))))), ?_⟩
  refine ⟨Nat.zero_le _, fun l nl => ?_⟩
  have s1 : Same H (upd H l (.lst [])) := same_new nl
  refine ⟨_, rfl, a, _, rfl, .inr (SqT.of (s1 _ _ ha)), ((r.length : Nat) : Int), by rw [rv_len], by omega, by omega, ?_⟩
  refine for_range (lo := 0) (n := ((r.length : Nat) : Int).toNat) (fun i σ H' => ∃ (l2 : Addr) (e : Option V), σ = [some (.ref a), some (.ref l2), e] ∧ Same H H' ∧ H' l2 = some (.lst (rv (ndF 0 (r.take i))))) ⟨l, none, rfl, s1, upd_same⟩ ?_ ?_
  · rintro i σ H1 hi ⟨l2, e, rfl, s2, hl2⟩
    have hi2 : i < r.length := by omega
    obtain ⟨n, hn⟩ : ∃ n, r[i]? = some n := ⟨_, List.getElem?_eq_getElem hi2⟩
    have hn24 : n ≤ r.sum := mem_le_sum (List.mem_of_getElem? hn)
    have hat : atI (rv r) (0 + (i : Int)) = some (.int (n : Nat)) := by
      rw [Int.zero_add]
      exact atI_nat (rv_get' hn)
    have hlen := ndF_take_le r i
    refine ⟨_, rfl, _, rfl, by show 1 ≤ sizeLine; decide, fun p1 n1 => ?_⟩
    have s3 : Same H1 (upd H1 p1 (.lst [.int (0 + (i : Int))])) := same_new n1
    refine ⟨_, rfl, _, rfl, a, _, _, _, rfl, rfl, SqT.of (s3 _ _ (s2 _ _ ha)), hat, p1, _, _, rfl, rfl, upd_same, by omega, by omega, by show 1 * ((n : Nat) : Int).toNat ≤ sizeLine; rw [Int.toNat_natCast, Nat.one_mul]; exact Nat.le_of_lt (small1000 (by omega)), fun p2 n2 => ?_⟩
    have s4 := same_new (o := .lst (List.replicate ((n : Nat) : Int).toNat [V.int (0 + (i : Int))]).flatten) n2
    have hl4 := s4 _ _ (s3 _ _ hl2)
    refine ⟨l2, p2, _, _, rfl, rfl, hl4, upd_same, ?_, fun p3 n3 => ?_⟩
    · rw [flat_rep, List.length_replicate, rv_len, Int.toNat_natCast]
      exact Nat.le_of_lt (small1000 (by omega))
    · refine ⟨p3, _, rfl, s2.trans (s3.trans (s4.trans (same_new n3))), ?_⟩
      rw [upd_same, take_snoc hn, ndF_snoc, rv_app, flat_rep, Int.toNat_natCast, Int.zero_add]
      congr 3
      unfold rv
      rw [List.map_replicate, List.length_take, Nat.min_eq_left (by omega), Nat.zero_add]
  · rintro σ H1 ⟨l2, e, rfl, s2, hl2⟩
    have et : r.take ((r.length : Nat) : Int).toNat = r := List.take_of_length_le (by omega)
    rw [et] at hl2
    exact ⟨_, rfl, l2, _, rfl, .inl ⟨SqL.of hl2, fun p np => q p _ (s2.trans (same_new np)) upd_same⟩⟩
theorem cnt_get (ns : List Nat) {L i : Nat} (h : i < L) : (cntF 0 L ns)[i]? = some (ns.count i) := by
  rw [cntF_map, List.getElem?_map, List.getElem?_range' h]
  simp
theorem flt_len (ns : List Nat) (i : Nat) : (ns.filter fun x => decide (x = i)).length = ns.count i := by
  rw [List.count_eq_length_filter]
  rfl
theorem cal_lco (T : Txt K mg c) : C8.Cal P w K mg base 1 "_law_counts" spLCo [] := by
  refine cal_mk T.l_counts scLco (fun _ _ _ _ _ _ us hl => match us, hl with | [_, _], _ => rfl) (fun vs H Q E h => ?_) (fun f cdv A outer s H vs Q E hr h => ?_)
  · obtain ⟨a, ns, L, rfl, _⟩ := h
    rfl
  obtain ⟨a, ns, L, rfl, ha, hlen, hL, q⟩ := h
  refine ⟨_, (pss_one (ps_ret (pe_callTy call_tuple_of (by rfl) T.bTuple (by decide +kernel) (pa_cons (pe_lc (own := [("_law_need_here", 2)]) (g := gName 2) (tt := tYes) (te := tCB (rLenS K) (tCons (tLc (iSeq K (tVar 0)) (gName 3) (tTest (tOp rEq (tVar 3) (tVar 2))) (tVar 3) [3]) tNil)) rfl scLco.nd (pi_range1 rfl T.bRange (pa_cons (pe_op op_add (pv 1) pe_int) pa_nil)) (blkOk_by (N := ["_law_needs", "_law_losses", "_law_need_here", "_law_one"]) (sc := (defScope (topS 75))) (by decide +kernel)) (fun _ _ _ _ _ => (pg_name (i := 2) scLco.nd rfl (.inr rfl))) (fun _ _ _ _ _ => pts_nil) (fun _ _ _ _ _ => (pe_callB (id_len (X := _)) (by rfl) T.bLen (by decide +kernel) (pa_cons (pe_lc (own := [("_law_one", 3)]) (g := gName 3) (tt := tTest (tOp rEq (tVar 3) (tVar 2))) rfl scLco.nd (pi_seq (pv 0)) (blkOk_by (N := ["_law_needs", "_law_losses", "_law_need_here", "_law_one"]) (sc := coScope) (by decide +kernel)) (fun _ _ _ _ _ => pg_name (i := 3) scLco.nd rfl (.inl rfl)) (fun _ _ _ _ _ => pts_one (pt_cmpR op_eq (pv 3) (pv 2) (nomark _))) (fun _ _ _ _ _ => pv 3)) pa_nil)))) pa_nil)))), ?_⟩
  refine ⟨_, rfl, _, _, rfl, rfl, (L : Int) + 1, rfl, by omega, by omega, fun D nD => ?_⟩
  have s1 : Same H (upd H D (.lst [])) := same_new nD
  refine lc_range (lo := 0) (n := ((L : Int) + 1).toNat) (fun i H' => Same H H' ∧ H' D = some (.lst (rv ((cntF 0 (L + 1) ns).take i)))) ⟨s1, upd_same⟩ ?_ ?_
  · rintro i H1 hi ⟨s2, hD⟩
    have ha1 := ha.to s2
    have hg := cnt_get ns (show i < L + 1 by omega)
    rcases ha1 with ha1 | ha1
    · refine ⟨rfl, _, rfl, a, _, rfl, .inl ⟨SqL.of ha1, fun D2 nD2 => ?_⟩⟩
      have s0 : Same H1 (upd H1 D2 (.lst [])) := same_new nD2
      refine lc_list (K := K) (a := a) (xs := rv ns) (fun j H' => Same H1 H' ∧ H' D2 = some (.lst (rv ((ns.take j).filter fun x => decide (x = i))))) ⟨s0, upd_same⟩ (fun j H' _ ⟨s3, _⟩ => SqL.of (s3 _ _ ha1)) ?_ ?_
      · rintro j x H2 hx ⟨s3, hD2⟩
        obtain ⟨n, hn, rfl⟩ := rv_get hx
        have ht := take_snoc hn
        refine ⟨rfl, _, rfl, _, rfl, rfl, _, rfl, ?_⟩
        by_cases he : n = i
        · refine if1 (decide_eq_true (by show V.int (n : Int) = V.int (0 + (i : Int)); congr 1; omega)) ⟨_, rfl, _, hD2, ?_, Same.mut s3 nD2, ?_⟩
          · rw [rv_len]
            have h1 : ((ns.take j).filter fun x => decide (x = i)).length ≤ (ns.take j).length := List.length_filter_le _ _
            rw [List.length_take] at h1
            exact small1000 (by omega)
          · rw [upd_same, ht, List.filter_append, rv_app]
            simp only [List.filter_cons, decide_eq_true he, if_true, List.filter_nil]
            rfl
        · refine if0 (decide_eq_false (fun z => he (by have z2 : V.int (n : Int) = V.int (0 + (i : Int)) := z; injection z2 with z2; omega))) ⟨s3, ?_⟩
          rw [ht, List.filter_append, hD2]
          simp [List.filter_cons, decide_eq_false he]
      · rintro H2 ⟨s3, hD2⟩
        rw [rv_len, List.take_length] at hD2
        refine ⟨D2, _, rfl, .inl (SqL.of hD2), _, s3 _ _ hD, ?_, Same.mut (s2.trans s3) nD, ?_⟩
        · rw [rv_len]
          have h1 : ((cntF 0 (L + 1) ns).take i).length ≤ i := by rw [List.length_take]; exact Nat.min_le_left _ _
          exact small_m (by omega)
        · rw [upd_same, take_snoc hg, rv_app, rv_len, flt_len]
          rfl
    · refine ⟨rfl, _, rfl, a, _, rfl, .inr ⟨SqT.of ha1, fun D2 nD2 => ?_⟩⟩
      have s0 : Same H1 (upd H1 D2 (.lst [])) := same_new nD2
      refine lc_tup (K := K) (a := a) (xs := rv ns) (fun j H' => Same H1 H' ∧ H' D2 = some (.lst (rv ((ns.take j).filter fun x => decide (x = i))))) ⟨s0, upd_same⟩ (fun j H' _ ⟨s3, _⟩ => SqT.of (s3 _ _ ha1)) ?_ ?_
      · rintro j x H2 hx ⟨s3, hD2⟩
        obtain ⟨n, hn, rfl⟩ := rv_get hx
        have ht := take_snoc hn
        refine ⟨rfl, _, rfl, _, rfl, rfl, _, rfl, ?_⟩
        by_cases he : n = i
        · refine if1 (decide_eq_true (by show V.int (n : Int) = V.int (0 + (i : Int)); congr 1; omega)) ⟨_, rfl, _, hD2, ?_, Same.mut s3 nD2, ?_⟩
          · rw [rv_len]
            have h1 : ((ns.take j).filter fun x => decide (x = i)).length ≤ (ns.take j).length := List.length_filter_le _ _
            rw [List.length_take] at h1
            exact small1000 (by omega)
          · rw [upd_same, ht, List.filter_append, rv_app]
            simp only [List.filter_cons, decide_eq_true he, if_true, List.filter_nil]
            rfl
        · refine if0 (decide_eq_false (fun z => he (by have z2 : V.int (n : Int) = V.int (0 + (i : Int)) := z; injection z2 with z2; omega))) ⟨s3, ?_⟩
          rw [ht, List.filter_append, hD2]
          simp [List.filter_cons, decide_eq_false he]
      · rintro H2 ⟨s3, hD2⟩
        rw [rv_len, List.take_length] at hD2
        refine ⟨D2, _, rfl, .inl (SqL.of hD2), _, s3 _ _ hD, ?_, Same.mut (s2.trans s3) nD, ?_⟩
        · rw [rv_len]
          have h1 : ((cntF 0 (L + 1) ns).take i).length ≤ i := by rw [List.length_take]; exact Nat.min_le_left _ _
          exact small_m (by omega)
        · rw [upd_same, take_snoc hg, rv_app, rv_len, flt_len]
          rfl
  · rintro H1 ⟨s2, hD⟩
    have hl : (cntF 0 (L + 1) ns).length = L + 1 := by rw [cntF_map, List.length_map, List.length_range']
    rw [List.take_of_length_le (by omega)] at hD
    exact ⟨D, _, rfl, .inl ⟨SqL.of hD, fun p np => q p _ (s2.trans (same_new np)) upd_same⟩⟩
theorem cal_lro (T : Txt K mg c) : C8.Cal P w K mg base 3 "_law_row" spLRo [] := by
  refine cal_mk T.l_row scLro (fun _ _ _ _ _ _ us hl => match us, hl with | [_, _], _ => rfl) (fun vs H Q E h => ?_) (fun f cdv A outer s H vs Q E hr h => ?_)
  · obtain ⟨rh, nl, pt, d, rfl, _⟩ := h
    rfl
  obtain ⟨rh, nl, pt, d, rfl, hR, hpt, hlen, hL, q⟩ := h
  refine ⟨_, (pss_cons (ps_setLc (i := 2) (own := [("_law_width", 3)]) (g := gName 3) (tt := tYes) rfl scLro.nd rfl rfl (sw_true rfl rfl rfl (by decide +kernel)) (pi_list (C8.pe_c (cal_lca T) hr (by decide) rfl (pa_cons (pv 0) (pa_cons (pv 1) pa_nil)))) (blkOk_by (N := ["_law_road_here", "_law_pairs", "_law_needs", "_law_width"]) (sc := (defScope (topS 77))) (by decide +kernel)) (fun _ _ _ _ _ => (pg_name (i := 3) scLro.nd rfl (.inl rfl))) (fun _ _ _ _ _ => pts_nil) (fun _ _ _ _ _ => (C8.pe_c (cal_lne T) hr (by decide) rfl (pa_cons (pv 0) (pa_cons (pv 1) (pa_cons (pv 3) pa_nil))))))
    (pss_one (ps_ret (C8.pe_c (cal_lco T) hr (by decide) rfl (pa_cons (pv 2) (pa_cons (pe_ix ix_tup (pv 0) pe_int (fun _ _ => rfl)) pa_nil)))))), ?_⟩
  refine ⟨_, rfl, _, rfl, rh, nl, pt, d, rfl, hR, hpt, hlen, fun l H1 s1 nl1 hl => ⟨l, rfl, ⟨_, SqL.of hl⟩, fun D nD => ?_⟩⟩
  have s2 : Same H1 (upd H1 D (.lst [])) := same_new nD
  refine lc_list (K := K) (a := l) (xs := rv (can d)) (fun i H' => Same H1 H' ∧ H' D = some (.lst (rv ((needsF d.L d.q d.ps d.ns).take i)))) ⟨s2, upd_same⟩ (fun i H' _ ⟨s3, _⟩ => SqL.of (s3 _ _ hl)) ?_ ?_
  · rintro i x H2 hx ⟨s3, hD⟩
    obtain ⟨n, hn, rfl⟩ := rv_get hx
    have hsome : (need d n).isSome = true := (List.mem_filter.mp (List.mem_of_getElem? hn)).2
    obtain ⟨k, hk⟩ := Option.isSome_iff_exists.mp hsome
    have hi : i < (can d).length := (List.getElem?_eq_some_iff.mp hn).1
    have hi2 : (can d).length ≤ d.ns.length := List.length_filter_le _ _
    have hg : (needsF d.L d.q d.ps d.ns)[i]? = some k := by
      unfold needsF
      rw [List.getElem?_map, show (canF d.L d.q d.ps d.ns)[i]? = some n from hn]
      show some ((need d n).getD 0) = _
      rw [hk]
      rfl
    refine ⟨rfl, _, rfl, _, rfl, _, rfl, rh, nl, pt, d, n, rfl, hR.to (s1.trans s3), hpt.to (Same.x (s1.trans s3)), _, hD, ?_, Same.mut s3 nD, ?_⟩
    · rw [rv_len, List.length_take]
      exact small1000 (by omega)
    · rw [upd_same, take_snoc hg, rv_app, hk]
      rfl
  · rintro H2 ⟨s3, hD⟩
    have hln : (needsF d.L d.q d.ps d.ns).length = (can d).length := by
      unfold needsF
      rw [List.length_map]
      rfl
    have hi2 : (can d).length ≤ d.ns.length := List.length_filter_le _ _
    rw [rv_len, ← hln, List.take_length] at hD
    have hR2 := hR.to (s1.trans s3)
    refine ⟨_, rfl, _, rfl, rh, _, _, _, rfl, rfl, SqT.of hR2.rt, atI_nat (j := 1) rfl, D, needsF d.L d.q d.ps d.ns, d.L, rfl, .inl hD, by omega, by omega, fun p H3 s4 h4 => ?_⟩
    refine q p H3 (s1.trans (s3.trans s4)) ?_
    unfold rowOf
    rw [rowF_cnt]
    exact h4
theorem cal_lle (T : Txt K mg c) : C8.Cal P w K mg base 2 "_law_led" spLLe [] := by
  refine cal_mk T.l_led scLle (fun _ _ _ _ _ _ us hl => match us, hl with | [_, _, _, _], _ => rfl) (fun vs H Q E h => ?_) (fun f cdv A outer s H vs Q E hr h => ?_)
  · obtain ⟨rh, nl, a, d, r, b, z, rfl, _⟩ := h
    rfl
  obtain ⟨rh, nl, a, d, r, b, z, rfl, hR, hL, ha, ho, h1, h2, q⟩ := h
  have htop := ho.top
  have hlr := ho.len
  have hnd : (ndF 0 r).length = r.sum := ndF_len r 0
  refine ⟨_, (pss_cons (ps_set (i := 4) scLle.nd rfl (.inl rfl) (C8.pe_c (cal_lno T) hr (by decide) rfl (pa_cons (pv 1) pa_nil)))
    (pss_cons (ps_if (pt_val (pv 3)) (pss_cons (ps_set (i := 5) scLle.nd rfl (.inl rfl) (pe_slice sl_tup (pv 4) (po_some (pv 2)) po_none))
    (pss_cons (ps_if (pt_val (pe_ix ix_tup (pv 0) pe_int (fun _ _ => rfl))) (pss_one (ps_set (i := 5) scLle.nd rfl (.inl rfl) (pe_op op_mulT (pe_tup (pa_cons pe_int pa_nil)) (pe_callB call_len_seq (by rfl) T.bLen (by decide +kernel) (pa_cons (pv 5) pa_nil))))) pss_nil)
    (pss_one (ps_ret (C8.pe_c (cal_lco T) hr (by decide) rfl (pa_cons (pv 5) (pa_cons (pe_ix ix_tup (pv 0) pe_int (fun _ _ => rfl)) pa_nil))))))) pss_nil)
    (pss_cons (ps_set (i := 6) scLle.nd rfl (.inl rfl) (pe_callTy call_tuple_of (by rfl) T.bTuple (by decide +kernel) (pa_cons (pe_lc (own := [("_law_need_here", 7)]) (g := gName 7) (tt := tTest (tOp _ (tVar 7) (tOp (rIxT K) (tVar 0) (tC (.int 1))))) rfl scLle.nd (pi_tup (pe_slice sl_tup (pv 4) (po_some (pv 2)) po_none)) (blkOk_by (N := ["_law_road_here", "_law_row_here", "_law_below", "_law_answered", "_law_needs", "_law_kept", "_law_more", "_law_need_here"]) (sc := (defScope (topS 76))) (by decide +kernel)) (fun _ _ _ _ _ => (pg_name (i := 7) scLle.nd rfl (.inl rfl))) (fun _ _ _ _ _ => (pts_one (pt_cmpR op_lt (pv 7) (pe_ix ix_tup (pv 0) pe_int (fun _ _ => rfl)) (nomark _)))) (fun _ _ _ _ _ => (pe_op op_add (pv 7) pe_int))) pa_nil)))
    (pss_one (ps_ret (C8.pe_c (cal_lco T) hr (by decide) rfl (pa_cons (pe_op op_catT (pe_slice sl_tup (pv 4) po_none (po_some (pv 2))) (pv 6)) (pa_cons (pe_ix ix_tup (pv 0) pe_int (fun _ _ => rfl)) pa_nil)))))))), ?_⟩
  refine ⟨_, rfl, a, r, d.L + 1, rfl, ha, ho, by omega, fun t H1 s1 ht => ?_⟩
  have hR1 := hR.to s1
  refine ⟨_, rfl, z, rfl, ?_⟩
  have nw1 : ¬ (HT.sIx (rv (ndF 0 r)).length 0 (some (b : Int)) = 0 ∧ HT.sIx (rv (ndF 0 r)).length (rv (ndF 0 r)).length none = (rv (ndF 0 r)).length) := fun zz => by
    have := zz.1
    rw [HT.sIx_nat, rv_len, hnd] at this
    omega
  have nw2 : ¬ (HT.sIx (rv (ndF 0 r)).length 0 none = 0 ∧ HT.sIx (rv (ndF 0 r)).length (rv (ndF 0 r)).length (some (b : Int)) = (rv (ndF 0 r)).length) := fun zz => by
    have := zz.2
    rw [HT.sIx_nat, rv_len, hnd] at this
    omega
  have fin : ∀ (kp : Addr) (ks : List Nat) (e6 : Option V) (H2 : Hp), Same H1 H2 → H2 kp = some (.tup (rv ks)) → ks.length ≤ 1000 → z = true → cntF 0 (d.L + 1) ks = ans d.q r b →
      tRet (tCall spLCo [] E0 (tCons (tVar 5) (tCons (tOp (rIxT K) (tVar 0) (tC (.int 1))) tNil))) { nx := fun _ H' => Q .non H', rt := Q } [some (.ref rh), some (.ref a), some (.int b), some (.bl z), some (.ref t), some (.ref kp), e6, none] H2 := by
    intro kp ks e6 H2 s2 hk hkl hz hc
    have hR2 := hR1.to s2
    refine ⟨_, rfl, _, rfl, rh, _, _, _, rfl, rfl, SqT.of hR2.rt, atI_nat (j := 1) rfl, kp, ks, d.L, rfl, .inr hk, hkl, by omega, fun p H3 s3 h3 => ?_⟩
    refine q p H3 (s1.trans (s2.trans s3)) ?_
    rw [hc] at h3
    rw [hz]
    exact h3
  cases hz : z with
  | true =>
    refine if1 rfl ⟨_, rfl, _, rfl, (b : Int), rfl, t, _, rfl, SqT.of ht, nw1, fun p np => ?_⟩
    rw [cut_from]
    have s2 : Same H1 (upd H1 p (.tup (rv ((ndF 0 r).drop b)))) := same_new np
    have hp2 : upd H1 p (.tup (rv ((ndF 0 r).drop b))) p = some (.tup (rv ((ndF 0 r).drop b))) := upd_same
    generalize upd H1 p (.tup (rv ((ndF 0 r).drop b))) = H2 at s2 hp2
    have hR2 := hR1.to s2
    have hdl : ((ndF 0 r).drop b).length = r.sum - b := by rw [List.length_drop, hnd]
    have hla := lawAns_eq d.q (r := r) hlr ho.ne b
    unfold lawAns at hla
    refine ⟨_, rfl, rh, _, _, _, rfl, rfl, SqT.of hR2.rt, atI_nat (j := 2) rfl, d.q, rfl, ?_⟩
    cases hq : d.q with
    | false =>
      rw [hq, if_neg Bool.false_ne_true] at hla
      rw [hq, hz] at fin
      exact if0 rfl (fin p _ _ H2 s2 hp2 (by omega) rfl hla)
    | true =>
      rw [hq, if_pos rfl] at hla
      rw [hq, hz] at fin
      refine if1 rfl ⟨by show 1 ≤ sizeLine; decide, fun p3 np3 => ?_⟩
      have s3 : Same H2 (upd H2 p3 (.tup [.int 0])) := same_new np3
      refine ⟨_, rfl, p, _, rfl, .inr (SqT.of (s3 _ _ hp2)), p3, r.sum - b, [V.int 0], rfl, by rw [rv_len, hdl], SqT.of upd_same, by simp, by omega, by simp, fun e1 => ?_, fun e1 p4 np4 => ?_⟩
      · refine fin p3 (List.replicate (r.sum - b) 0) _ _ (s2.trans s3) ?_ (by rw [List.length_replicate]; omega) rfl (by rw [← hdl]; exact hla)
        rw [upd_same, e1]
        rfl
      · refine fin p4 (List.replicate (r.sum - b) 0) _ _ (s2.trans (s3.trans (same_new np4))) ?_ (by rw [List.length_replicate]; omega) rfl (by rw [← hdl]; exact hla)
        rw [upd_same, flat_rep]
        unfold rv
        rw [List.map_replicate]
        rfl
  | false =>
    refine if0 rfl ⟨_, rfl, _, rfl, (b : Int), rfl, t, _, rfl, SqT.of ht, nw1, fun p np => ?_⟩
    rw [cut_from]
    have s2 : Same H1 (upd H1 p (.tup (rv ((ndF 0 r).drop b)))) := same_new np
    have hp2 : upd H1 p (.tup (rv ((ndF 0 r).drop b))) p = some (.tup (rv ((ndF 0 r).drop b))) := upd_same
    generalize upd H1 p (.tup (rv ((ndF 0 r).drop b))) = H2 at s2 hp2
    have hdl : ((ndF 0 r).drop b).length = r.sum - b := by rw [List.length_drop, hnd]
    generalize hdr : (ndF 0 r).drop b = nd2 at hp2 hdl
    have hls := lawSil_eq (r := r) hlr ho.ne b
    unfold lawSil at hls
    rw [hdr] at hls
    refine ⟨p, rfl, ⟨_, SqT.of hp2⟩, fun D nD => ?_⟩
    have s3 : Same H2 (upd H2 D (.lst [])) := same_new nD
    refine lc_tup (K := K) (a := p) (xs := rv nd2) (fun i H' => Same H2 H' ∧ H' D = some (.lst (rv (((nd2.take i).filter fun x => decide (x + 1 < d.L + 1)).map (· + 1))))) ⟨s3, upd_same⟩ (fun i H' _ ⟨s4, _⟩ => SqT.of (s4 _ _ hp2)) ?_ ?_
    · rintro i x H3 hx ⟨s4, hD⟩
      obtain ⟨n, hn, rfl⟩ := rv_get hx
      have htk := take_snoc hn
      have hR4 := hR1.to (s2.trans s4)
      refine ⟨rfl, _, rfl, _, rfl, rh, _, _, _, rfl, rfl, SqT.of hR4.rt, atI_nat (j := 1) rfl, _, _, rfl, rfl, _, rfl, ?_⟩
      by_cases he : n < d.L
      · refine if1 (decide_eq_true (by omega)) ⟨_, rfl, _, _, rfl, rfl, _, hD, ?_, Same.mut s4 nD, ?_⟩
        · rw [rv_len, List.length_map]
          have h5 : ((nd2.take i).filter fun x => decide (x + 1 < d.L + 1)).length ≤ (nd2.take i).length := List.length_filter_le _ _
          rw [List.length_take] at h5
          exact small1000 (by omega)
        · rw [upd_same, htk, List.filter_append, List.map_append, rv_app]
          simp only [List.filter_cons, decide_eq_true (show n + 1 < d.L + 1 by omega), if_true, List.filter_nil, List.map_cons, List.map_nil]
          rfl
      · refine if0 (decide_eq_false (by omega)) ⟨s4, ?_⟩
        rw [htk, List.filter_append, hD]
        simp [List.filter_cons, show ¬ n + 1 < d.L + 1 by omega, he]
    · rintro H3 ⟨s4, hD⟩
      rw [rv_len, List.take_length] at hD
      generalize hmo : ((nd2.filter fun x => decide (x + 1 < d.L + 1)).map (· + 1)) = more at hD hls
      have hml : more.length ≤ r.sum - b := by
        rw [← hmo, List.length_map, ← hdl]
        exact List.length_filter_le _ _
      refine ⟨D, _, rfl, .inl ⟨SqL.of hD, fun m nm => ?_⟩⟩
      have s5 : Same H3 (upd H3 m (.tup (rv more))) := same_new nm
      have hm5 : upd H3 m (.tup (rv more)) m = some (.tup (rv more)) := upd_same
      generalize upd H3 m (.tup (rv more)) = H5 at s5 hm5
      have s15 : Same H1 H5 := s2.trans (s4.trans s5)
      refine ⟨_, rfl, _, rfl, (b : Int), rfl, t, _, rfl, SqT.of (s15 _ _ ht), nw2, fun p6 np6 => ?_⟩
      rw [cut_to]
      have s6 : Same H5 (upd H5 p6 (.tup (rv ((ndF 0 r).take b)))) := same_new np6
      have hp6 : upd H5 p6 (.tup (rv ((ndF 0 r).take b))) p6 = some (.tup (rv ((ndF 0 r).take b))) := upd_same
      generalize upd H5 p6 (.tup (rv ((ndF 0 r).take b))) = H6 at s6 hp6
      have htl : ((ndF 0 r).take b).length = b := by rw [List.length_take]; omega
      have fin2 : ∀ (kp : Addr) (H7 : Hp), Same H6 H7 → H7 kp = some (.tup (rv ((ndF 0 r).take b ++ more))) → (tCons (tOp (rIxT K) (tVar 0) (tC (.int 1))) tNil) [some (.ref rh), some (.ref a), some (.int b), some (.bl false), some (.ref t), none, some (.ref m), none] H7 (fun vs H8 => spLCo (V.ref kp :: vs ++ []) H8 Q E0) := by
        intro kp H7 s7 hk
        have hR7 := hR1.to (s15.trans (s6.trans s7))
        refine ⟨_, rfl, rh, _, _, _, rfl, rfl, SqT.of hR7.rt, atI_nat (j := 1) rfl, kp, _, d.L, rfl, .inr hk, by rw [List.length_append]; omega, by omega, fun p8 H8 s8 h8 => ?_⟩
        refine q p8 H8 (s1.trans (s15.trans (s6.trans (s7.trans s8)))) ?_
        rw [hls] at h8
        rw [hz]
        exact h8
      refine ⟨_, rfl, p6, m, _, _, rfl, rfl, SqT.of hp6, SqT.of (s6 _ _ hm5), ?_, ?_, fun e7 => ?_, fun e7 p7 np7 => ?_⟩
      · intro zz
        have := congrArg List.length zz
        rw [rv_len, htl] at this
        simp at this
        omega
      · rw [rv_len, rv_len]
        exact Nat.le_of_lt (small1000 (by omega))
      · have em : more = [] := by
          have := congrArg List.length e7
          rw [rv_len] at this
          exact List.eq_nil_of_length_eq_zero this
        rw [em, List.append_nil] at fin2
        exact fin2 p6 H6 (Same.refl H6) hp6
      · refine fin2 p7 _ (same_new np7) ?_
        rw [upd_same, rv_app]
end
end Wp
set_option Elab.async false
set_option linter.all false
set_option maxRecDepth 100000
set_option maxHeartbeats 2000000
set_option pp.maxSteps 400
/-! WpD15: rows as data; a row more in a list of rows. -/
namespace Wp
open PySem PySem.Spec PyProof.Rows L2 WP
def numsD (r : List Nat) : List PyData := r.map fun n : Nat => PyData.int (n : Int)
def rowDt (r : List Nat) : PyData := .tuple (numsD r)
theorem dp_nums {K : PySem.W.Frag} {H : Hp} : ∀ r : List Nat, DpAll K H (rv r) (numsD r)
  | [] => .nil
  | n :: r => .cons (.int _) (dp_nums r)
theorem dp_row {K : PySem.W.Frag} {H : Hp} {a : Addr} {r : List Nat} (h : RowAt H a r) : Dp K H (.ref a) (rowDt r) := .tup (SqT.of h) (dp_nums r)
theorem dp_rows {K : PySem.W.Frag} {H : Hp} : ∀ {rl : RL}, RowsAt H rl → DpAll K H (refs rl) (rl.map fun e => rowDt e.2)
  | [], _ => .nil
  | e :: rl, h => .cons (dp_row (h e (List.mem_cons_self ..))) (dp_rows fun e' he => h e' (List.mem_cons_of_mem _ he))
theorem lay_nums : ∀ r : List Nat, PyData.canLayAll0 (numsD r) = true
  | [] => rfl
  | n :: r => by
    show (PyData.canLay0 (.int (n : Int)) && PyData.canLayAll0 (numsD r)) = true
    rw [lay_nums r]
    rfl
theorem dep_nums : ∀ r : List Nat, PyData.depthAll (numsD r) = 0
  | [] => rfl
  | n :: r => by
    show max (PyData.depth (.int (n : Int))) (PyData.depthAll (numsD r)) = 0
    rw [dep_nums r]
    rfl
theorem shaped_row (r : List Nat) : SeqAt.shaped (rowDt r) = true := by
  unfold SeqAt.shaped
  rw [show (rowDt r).canLay0 = true from lay_nums r, show (rowDt r).depth = 1 from by show PyData.depthAll (numsD r) + 1 = 1; rw [dep_nums]]
  rfl
theorem lay_rows : ∀ rl : RL, PyData.canLayAll0 (rl.map fun e => rowDt e.2) = true
  | [] => rfl
  | e :: rl => by
    show (PyData.canLay0 (rowDt e.2) && PyData.canLayAll0 (rl.map fun e => rowDt e.2)) = true
    rw [lay_rows rl, show (rowDt e.2).canLay0 = true from lay_nums e.2]
    rfl
theorem dep_rows : ∀ rl : RL, PyData.depthAll (rl.map fun e => rowDt e.2) ≤ 1
  | [] => Nat.zero_le _
  | e :: rl => by
    show max (PyData.depth (rowDt e.2)) (PyData.depthAll (rl.map fun e => rowDt e.2)) ≤ 1
    have h1 : (rowDt e.2).depth = 1 := by show PyData.depthAll (numsD e.2) + 1 = 1; rw [dep_nums]
    have h2 := dep_rows rl
    omega
theorem shaped_rows (rl : RL) : SeqAt.shaped (.list (rl.map fun e => rowDt e.2)) = true := by
  unfold SeqAt.shaped
  rw [show PyData.canLay0 (.list (rl.map fun e => rowDt e.2)) = true from lay_rows rl]
  have h : PyData.depth (.list (rl.map fun e => rowDt e.2)) ≤ 64 := by
    show PyData.depthAll (rl.map fun e => rowDt e.2) + 1 ≤ 64
    have := dep_rows rl
    omega
  rw [decide_eq_true h]
  rfl
theorem eqv_nums : ∀ s r : List Nat, PyData.eqvAll (numsD s) (numsD r) = decide (s = r)
  | [], [] => rfl
  | [], _ :: _ => rfl
  | _ :: _, [] => rfl
  | m :: s, n :: r => by
    show (PyData.eqv (.int (m : Int)) (.int (n : Int)) && PyData.eqvAll (numsD s) (numsD r)) = _
    rw [eqv_nums s r]
    show (((m : Int) == (n : Int)) && decide (s = r)) = _
    by_cases h1 : m = n
    · subst h1
      by_cases h2 : s = r
      · subst h2; simp
      · simp [h2]
    · have h3 : ¬ (m : Int) = (n : Int) := fun z => h1 (by omega)
      simp [h1, h3]
theorem eqv_row (s r : List Nat) : PyData.eqv (rowDt s) (rowDt r) = decide (s = r) := eqv_nums s r
theorem any_row (r : List Nat) : ∀ rl : RL, ((rl.map fun e => rowDt e.2).any fun z => PyData.eqv z (rowDt r)) = decide (r ∈ rl.map (·.2))
  | [] => rfl
  | e :: rl => by
    rw [List.map_cons, List.any_cons, any_row r rl, eqv_row]
    by_cases h : e.2 = r
    · subst h; simp
    · have h2 : ¬ r = e.2 := fun z => h z.symm
      simp [h, h2]
theorem hu65 {A : Around} {k : Nat} (hr : Room k A) : A.units + 65 < cLine := by
  have := hr.un
  omega
/-- rows in a list, none twice -/
structure BfsL (L : Nat) (H : Hp) (l : Addr) (rl : RL) : Prop where
  ls : H l = some (.lst (refs rl))
  rows : RowsAt H rl
  nd : (rl.map (·.2)).Nodup
  ok : ∀ e ∈ rl, Ok L e.2
theorem BfsL.few {L : Nat} {H : Hp} {l : Addr} {rl : RL} (b : BfsL L H l rl) (hL : L ≤ 4) : rl.length ≤ 390625 := by
  have := WP.few hL b.nd (fun r hr => by
    obtain ⟨e, he, rfl⟩ := List.mem_map.mp hr
    exact b.ok e he)
  rwa [List.length_map] at this
theorem BfsL.k {L : Nat} {H H' : Hp} {l : Addr} {rl : RL} (b : BfsL L H l rl) (s : Keep H H') (e : H' l = H l) : BfsL L H' l rl := ⟨e.trans b.ls, b.rows.to s, b.nd, b.ok⟩
theorem BfsL.to {L : Nat} {H H' : Hp} {l : Addr} {rl : RL} (b : BfsL L H l rl) (s : Same H H') : BfsL L H' l rl := ⟨s _ _ b.ls, b.rows.to (Same.x s), b.nd, b.ok⟩
/-- if x not in rows: rows.append(x) -/
def sApp (L i k : Nat) : TS := fun D σ H => ∃ (x : Addr) (r : List Nat) (l : Addr) (rl : RL), σ[i]? = some (some (.ref x)) ∧ σ[k]? = some (some (.ref l)) ∧ BfsL L H l rl ∧ RowAt H x r ∧ Ok L r ∧ L ≤ 4 ∧
  ∀ H' more, (rl ++ more).map (·.2) = addR (rl.map (·.2)) r → BfsL L H' l (rl ++ more) → SameX l H H' → D.nx σ H'
theorem ps_app {X : Cx} {st : Stmt} (L : Nat) {i k : Nat} (h : PS X st (tIfS (tTest (tOp (rNotInD X.K) (tVar i) (tVar k))) (tDrop (tBM X.K "list" rAppend (tVar k) (tCons (tVar i) tNil))) tNext)) : PS X st (sApp L i k) := by
  refine ⟨fun pins s σ H D I q => h.run pins s σ H D I ?_⟩
  obtain ⟨x, r, l, rl, h1, h3, B, hx, ho, hL, q⟩ := q
  have hfew := B.few hL
  refine ⟨_, h1, _, h3, _, _, dp_row hx, .lst (SqL.of B.ls) (dp_rows B.rows), shaped_row r, shaped_rows rl, _, rfl, ?_⟩
  rw [any_row]
  by_cases hm : r ∈ rl.map (·.2)
  · rw [decide_eq_true hm]
    refine if0 rfl (q H [] ?_ (by rw [List.append_nil]; exact B) (fun _ _ _ e => e))
    rw [List.append_nil]
    unfold addR
    rw [if_pos hm]
  · rw [decide_eq_false hm]
    refine if1 rfl ⟨_, h3, .inl ⟨rfl, _, SqL.of B.ls⟩, _, h1, l, _, _, rfl, rfl, B.ls, ?_, ?_⟩
    · rw [refs_len]
      exact small_m (by omega)
    · have k2 : Keep H (upd H l (.lst (refs rl ++ [V.ref x]))) := Keep.upd B.ls not_lst
      refine q _ [(x, r)] ?_ ⟨?_, ?_, ?_, ?_⟩ (SameX.upd _)
      · rw [List.map_append]
        unfold addR
        rw [if_neg hm]
        rfl
      · rw [upd_same, refs_app]
        rfl
      · intro e he
        rcases List.mem_append.mp he with he | he
        · exact (B.rows.to k2) e he
        · rw [List.mem_singleton.mp he]
          exact hx.to k2
      · rw [List.map_append]
        have := addR_nd (x := r) B.nd
        unfold addR at this
        rwa [if_neg hm] at this
      · intro e he
        rcases List.mem_append.mp he with he | he
        · exact B.ok e he
        · rw [List.mem_singleton.mp he]
          exact ho
/-- a walk in breadth at its turn i -/
structure BfsJ (L : Nat) (nx : List Nat → List Nat → Prop) (r0 : List Nat) (l : Addr) (i : Nat) (rl : RL) (H' : Hp) : Prop where
  hi : i ≤ rl.length
  B : BfsL L H' l rl
  st : r0 ∈ rl.map (·.2)
  cl : ∀ j e, j < i → rl[j]? = some e → ∀ x, nx e.2 x → x ∈ rl.map (·.2)
section
variable {L : Nat} {nx nx' : List Nat → List Nat → Prop} {r0 : List Nat} {H' H5 : Hp} {l : Addr} {i : Nat} {rl : RL}
theorem BfsJ.next (I : BfsJ L nx r0 l i rl H') {e : Addr × List Nat} {more : RL} (he : rl[i]? = some e) (B : BfsL L H5 l (rl ++ more)) (ho : ∀ j e' x, j < i → rl[j]? = some e' → nx' e'.2 x → nx e'.2 x) (hn : ∀ x, nx' e.2 x → x ∈ (rl ++ more).map (·.2)) :
    BfsJ L nx' r0 l (i + 1) (rl ++ more) H5 := by
  have hlt := (List.getElem?_eq_some_iff.mp he).1
  refine ⟨by rw [List.length_append]; omega, B, ?_, fun j e' hj hje x hx => ?_⟩
  · rw [List.map_append]
    exact List.mem_append_left _ I.st
  · rw [List.getElem?_append_left (by omega)] at hje
    by_cases h : j = i
    · subst h
      rw [he] at hje
      cases hje
      exact hn x hx
    · rw [List.map_append]
      exact List.mem_append_left _ (I.cl j e' (by omega) hje x (ho j e' x (by omega) hje hx))
end
/-- a plan's number, as its dict tells it -/
def plOf (es : RE) (r : List Nat) : Nat := match lkp es r with
  | some (.int i) => if 1 ≤ i ∧ i < (r.sum : Int) then i.toNat else 1
  | _ => 1
theorem plOf_good (es : RE) : Good (plOf es) := fun r h => by
  unfold plOf
  split
  · split
    · omega
    · omega
  · omega
theorem plOf_at {es : RE} {r : List Nat} {b : Nat} (h : lkp es r = some (.int b)) (h1 : 1 ≤ b) (h2 : b < r.sum) : plOf es r = b := by
  unfold plOf
  rw [h]
  show (if 1 ≤ (b : Int) ∧ (b : Int) < (r.sum : Int) then (b : Int).toNat else 1) = b
  rw [if_pos ⟨by omega, by omega⟩]
  rfl
def foOf (es : List FE) (r : List Nat) (b : Nat) : Bool := (foeVal es r b).getD false
end Wp
set_option Elab.async false
set_option linter.all false
set_option maxRecDepth 100000
set_option maxHeartbeats 2000000
set_option pp.maxSteps 400
/-! WpD16: the law's drawn plan. -/
namespace Wp
open PySem PySem.Spec PyProof.Rows L2 WP
def spDP (K : PySem.W.Frag) : Sp := fun vs H Q _ => ∃ (sa st : Addr) (zs : List Int) (rh nl a0 : Addr) (d : LogD) (r0 : List Nat), vs = [.ref sa, .ref st, .ref rh, .ref a0] ∧ Scr K st H sa (zs.map V.int) ∧ zs.length ≤ 1000 ∧ StAt H st ∧ RoadL st H rh nl d ∧ d.L ≤ 3 ∧ RowAt H a0 r0 ∧ Ok (d.L + 1) r0 ∧
  ∀ pd es S H', SameX st H H' → StAt H' st → RowD H' pd es → IntsE es → es.length ≤ 390625 → Covers d.q (d.L + 1) S (plOf es) es r0 → Q (.ref pd) H'
theorem RoadL.v {st : Addr} {H : Hp} {rh nl : Addr} {d : LogD} (r : RoadL st H rh nl d) : RoadV H rh nl d := ⟨r.rt, r.ls⟩
section
variable {P : Program} {w : World} {K : PySem.W.Frag} {mg : Str → Option Value} {base : Heap} {c : Cs} {Ts : List (Addr × Str)}
theorem scDP : FnScope ["_law_script", "_law_state", "_law_road_here", "_law_start_here", "_law_plan", "_law_rows", "_law_at", "_law_row_here", "_law_answered", "_law_after"] ["_law_script", "_law_state", "_law_road_here", "_law_start_here"] (defScope (topS 82)) := ⟨rfl, rfl, rfl, by decide +kernel, rfl, by decide +kernel, by decide +kernel⟩

theorem cal_dp (T : Txt K mg c) : C8.Cal P w K mg base 3 "_law_drawn_plan" (spDP K) [] := by
  refine cal_mk T.l_drawn_plan scDP (fun _ _ _ _ _ _ us hl => match us, hl with | [_, _, _, _], _ => rfl) (fun vs H Q E h => ?_) (fun f cdv A outer s H vs Q E hr h => ?_)
  · obtain ⟨sa, st, zs, rh, nl, a0, d, r0, rfl, _⟩ := h
    rfl
  obtain ⟨sa, st, zs, rh, nl, a0, d, r0, rfl, hs, hz, hst, hR, hL, ha0, ho, q⟩ := h
  generalize hLe : d.L = L at ho q
  refine ⟨_, (pss_cons (ps_set (i := 4) scDP.nd rfl (.inl rfl) (pe_dnewT))
    (pss_cons (ps_set (i := 5) scDP.nd rfl (.inl rfl) (pe_lst (pa_cons (pv 3) pa_nil)))
    (pss_cons (ps_set (i := 6) scDP.nd rfl (.inl rfl) pe_int)
    (pss_cons (ps_while PassesOwn.never (pt_cmpR op_lt (pv 6) (pe_callB call_len_seq (by rfl) T.bLen (by decide +kernel) (pa_cons (pv 5) pa_nil)) (nomark _))
    (pss_cons (ps_set (i := 7) scDP.nd rfl (.inl rfl) (pe_ix ix_list (pv 5) (pv 6) (fun _ _ => rfl)))
    (pss_cons (ps_set (i := 6) scDP.nd rfl (.inl rfl) (pe_op op_add (pv 6) pe_int))
    (pss_one (ps_if (pt_cmpR op_gt (pe_callB (cr_sumT rfl) (by rfl) T.bSum (by decide +kernel) (pa_cons (pv 7) pa_nil)) pe_int (nomark _)) (pss_cons (ps_dput (hu_of hr) (pv 4) (pv 7) (pe_op op_add pe_int (C8.pe_c (cal_dr T) hr (by decide) rfl (pa_cons (pv 0) (pa_cons (pv 1) (pa_cons (pe_op op_sub (pe_callB (cr_sumT rfl) (by rfl) T.bSum (by decide +kernel) (pa_cons (pv 7) pa_nil)) pe_int) pa_nil))))) rfl)
    (pss_one (ps_for PassesOwn.never rfl (pi_list (pe_lst (pa_cons pe_bl (pa_cons pe_bl pa_nil)))) (pg_name (i := 8) scDP.nd rfl (.inl rfl))
    (pss_cons (ps_set (i := 9) scDP.nd rfl (.inl rfl) (C8.pe_c (cal_lle T) hr (by decide) rfl (pa_cons (pv 2) (pa_cons (pv 7) (pa_cons (pe_dget (hu_of hr) (pv 4) (pv 7) (fun _ _ => rfl)) (pa_cons (pv 8) pa_nil))))))
    (pss_one (ps_app (L + 1) (i := 9) (k := 5) (ps_if (pt_cmpR (op_notInD (hu65 hr)) (pv 9) (pv 5) rfl) (pss_one (ps_expr (pe_bm PySem.F.plainAttrs_list PySem.F.slot_list_append PySem.F.type_list_append mt_append (pv 5) (pa_cons (pv 9) pa_nil)))) pss_nil))))))) pss_nil)))))
    (pss_one (ps_ret (pv 4))))))), ?_⟩
  intro pd npd
  have s1 : Same H (upd H pd (.dT [])) := same_new npd
  have hpd1 : RowD (upd H pd (.dT [])) pd [] := upd_same
  generalize upd H pd (.dT []) = H1 at s1 hpd1
  refine ⟨_, rfl, by show 1 ≤ sizeLine; decide, fun l nl1 => ?_⟩
  have s2 : Same H1 (upd H1 l (.lst [.ref a0])) := same_new nl1
  have hl2 : upd H1 l (.lst [.ref a0]) l = some (.lst (refs [(a0, r0)])) := upd_same
  generalize upd H1 l (.lst [.ref a0]) = H2 at s2 hl2
  have s02 := s1.trans s2
  have nl0 : H l = none := s1.free nl1
  have nls : l ≠ st := st_ne hst nl0
  have nps : pd ≠ st := st_ne hst npd
  have nlp : l ≠ pd := (ne_of_none hpd1 nl1).symm
  have nln : nl ≠ l := ne_of_none hR.ls nl0
  refine ⟨fun m σ H' => ∃ (rl : RL) (i : Nat) (es : RE) (e7 e8 e9 : Option V), σ = [some (.ref sa), some (.ref st), some (.ref rh), some (.ref a0), some (.ref pd), some (.ref l), some (.int (i : Nat)), e7, e8, e9] ∧ m = 390626 - i ∧ SameX st H H' ∧ StAt H' st ∧ BfsJ (L + 1) (nxP d.q (plOf es)) r0 l i rl H' ∧ RowD H' pd es ∧ es.length ≤ i ∧ IntsE es ∧
    (∀ j e, j < i → rl[j]? = some e → 1 < e.2.sum → ∃ b : Nat, lkp es e.2 = some (.int (b : Nat)) ∧ 1 ≤ b ∧ b < e.2.sum), ⟨_, [(a0, r0)], 0, [], none, none, none, rfl, rfl, SameX.of s02, hst.to s02, ⟨Nat.zero_le _, ⟨hl2, fun e he => by rw [List.mem_singleton.mp he]; exact s02 _ _ ha0, by simp, fun e he => by rw [List.mem_singleton.mp he]; exact ho⟩, by simp, fun j e hj => absurd hj (Nat.not_lt_zero _)⟩, s2 _ _ hpd1, Nat.zero_le _, (fun e he => by simp at he), fun j e hj => absurd hj (Nat.not_lt_zero _)⟩, ?_⟩
  rintro m σ H4 ⟨rl, i, es, e7, e8, e9, rfl, rfl, sx4, hst4, I, hpd4, hes, hie, hval⟩
  have hfew := I.B.few (by omega)
  refine ⟨_, rfl, _, rfl, l, _, rfl, .inl (SqL.of I.B.ls), _, _, rfl, rfl, _, rfl, ?_⟩
  rw [refs_len]
  by_cases hlt : i < rl.length
  rotate_left
  · refine if0 (decide_eq_false (by omega)) ⟨_, rfl, q pd es (fun r => r ∈ rl.map (·.2)) H4 sx4 hst4 hpd4 hie (by have := I.hi; omega) ⟨I.st, fun r hr' => ?_, fun r hr' h1 => ?_, fun r hr' h1 a => ?_⟩⟩
    · obtain ⟨e, he, rfl⟩ := List.mem_map.mp hr'
      exact I.B.ok e he
    · obtain ⟨e, he, rfl⟩ := List.mem_map.mp hr'
      obtain ⟨j, hj⟩ := List.getElem?_of_mem he
      obtain ⟨b, b1, b2, b3⟩ := hval j e (by have := (List.getElem?_eq_some_iff.mp hj).1; omega) hj h1
      rw [plOf_at b1 b2 b3]
      exact ⟨b1, b2, b3⟩
    · obtain ⟨e, he, rfl⟩ := List.mem_map.mp hr'
      obtain ⟨j, hj⟩ := List.getElem?_of_mem he
      exact I.cl j e (by have := (List.getElem?_eq_some_iff.mp hj).1; omega) hj _ ⟨h1, a, rfl⟩
  refine if1 (decide_eq_true (by omega)) ⟨_, fun σ' H' z => z, ?_⟩
  obtain ⟨⟨a, r⟩, he⟩ : ∃ e, rl[i]? = some e := ⟨_, List.getElem?_eq_getElem hlt⟩
  have hm := List.mem_of_getElem? he
  have ha : RowAt H4 a r := I.B.rows _ hm
  have hor : Ok (L + 1) r := I.B.ok _ hm
  have htop := hor.top
  have er : rv r = (r.map fun n : Nat => (n : Int)).map V.int := rv_ints r
  have hrest : ∀ j e, j < i → rl[j]? = some e → e.2 ≠ r := fun j e hj hje z => by
    have h1 : (rl.map (·.2))[j]? = some r := by rw [List.getElem?_map, hje]; show some e.2 = _; rw [z]
    have h2 : (rl.map (·.2))[i]? = some r := by rw [List.getElem?_map, he]; rfl
    have := nodup_ix2 I.B.nd h1 h2
    omega
  refine ⟨_, rfl, _, rfl, l, _, _, _, rfl, rfl, SqL.of I.B.ls, atI_nat (refs_get' he), ?_⟩
  refine ⟨_, rfl, _, _, rfl, rfl, ?_⟩
  refine ⟨_, rfl, a, _, rfl, er ▸ SqT.of ha, _, _, rfl, rfl, _, rfl, ?_⟩
  rw [sum_ints]
  by_cases h1 : 1 < r.sum
  rotate_left
  · have I2 := I.next (nx' := nxP d.q (plOf es)) (H5 := H4) (more := []) he (by rw [List.append_nil]; exact I.B) (fun j e' x _ _ h => h) (fun x hx => absurd hx.1 h1)
    rw [List.append_nil] at I2
    refine if0 (decide_eq_false (by omega)) ⟨390626 - (i + 1), by omega, _, i + 1, es, _, _, _, rfl, rfl, sx4, hst4, I2, hpd4, by omega, hie, fun j e hj hje h2 => ?_⟩
    by_cases hji : j = i
    · subst hji
      rw [he] at hje
      cases hje
      exact absurd h2 h1
    · exact hval j e (by omega) hje h2
  refine if1 (decide_eq_true (by omega)) ?_
  refine ⟨_, rfl, _, rfl, _, rfl, a, _, rfl, er ▸ SqT.of ha, _, _, rfl, rfl, sa, st, zs, r.sum - 1, ?_, hs.x sx4, hz, hst4, by omega, by omega, fun k H5 hk sx5 hst5 => ⟨_, _, rfl, rfl, ?_⟩⟩
  · show [V.ref sa, V.ref st, V.int ((r.map fun n : Nat => (n : Int)).sum - 1)] = _
    rw [sum_ints, show ((r.sum : Nat) : Int) - 1 = ((r.sum - 1 : Nat) : Int) by omega]
  have hpd5 : RowD H5 pd es := sx5 _ _ nps hpd4
  obtain ⟨w1, w2, w3, w4, hw⟩ := id hst4
  have k5 : Keep H4 H5 := SameX.keep sx5 hw not_lst
  have ha5 := ha.to k5
  have ecast : V.int (1 + (k : Int)) = V.int ((1 + k : Nat) : Int) := by rw [Int.natCast_add]; rfl
  generalize hb : 1 + k = b at ecast
  have b1 : 1 ≤ b := by omega
  have b2 : b < r.sum := by omega
  refine ⟨_, rfl, _, rfl, pd, _, rfl, rd_put _ hpd5 ha5 (small_m (by omega)), ?_⟩
  have hl5 := insR_len es r (V.int (1 + (k : Int)))
  have hlk : ∀ r', lkp (insR es r (V.int (1 + (k : Int)))) r' = if r' = r then some (.int (b : Nat)) else lkp es r' := fun r' => by rw [lkp_ins, ecast]
  have k6 : Keep H5 (upd H5 pd (.dT (rkE (insR es r (V.int (1 + (k : Int))))))) := Keep.upd (show H5 pd = some _ from hpd5) not_dT
  have sx6 : SameX pd H5 (upd H5 pd (.dT (rkE (insR es r (V.int (1 + (k : Int))))))) := SameX.upd _
  have hpd6 : RowD (upd H5 pd (.dT (rkE (insR es r (V.int (1 + (k : Int))))))) pd (insR es r (V.int (1 + (k : Int)))) := upd_same
  generalize upd H5 pd (.dT (rkE (insR es r (V.int (1 + (k : Int)))))) = H6 at k6 sx6 hpd6
  have hie' : IntsE (insR es r (V.int (1 + (k : Int)))) := fun e he => by
    unfold insR at he
    split at he
    · obtain ⟨e0, m0, rfl⟩ := List.mem_map.mp he
      split
      · exact ⟨b, ecast⟩
      · exact hie e0 m0
    · rcases List.mem_append.mp he with he | he
      · exact hie e he
      · rw [List.mem_singleton.mp he]
        exact ⟨b, ecast⟩
  generalize insR es r (V.int (1 + (k : Int))) = es' at hl5 hlk hpd6 hie'
  have B6 : BfsL (L + 1) H6 l rl := I.B.k (k5.trans k6) ((sx6 _ _ nlp (sx5 _ _ nls I.B.ls)).trans I.B.ls.symm)
  have sx06 : SameX st H H6 := fun b o n e => sx6 _ _ (ne_of_none e npd) (sx5 _ _ n (sx4 _ _ n e))
  have hst6 : StAt H6 st := by
    obtain ⟨q1, q2, q3, q4, e⟩ := hst5
    exact ⟨q1, q2, q3, q4, sx6 _ _ nps.symm e⟩
  have ha6 := ha5.to k6
  have hR6 : RoadL st H6 rh nl d := hR.x hst sx06
  have hlr : lkp es' r = some (.int (b : Nat)) := by rw [hlk, if_pos rfl]
  refine ⟨by show 2 ≤ sizeLine; decide, fun tl ntl => ?_⟩
  have s7 : Same H6 (upd H6 tl (.lst [.bl true, .bl false])) := same_new ntl
  have htl7 : upd H6 tl (.lst [.bl true, .bl false]) tl = some (.lst [.bl true, .bl false]) := upd_same
  generalize upd H6 tl (.lst [.bl true, .bl false]) = H7 at s7 htl7
  have ntll : tl ≠ l := (ne_of_none B6.ls ntl).symm
  have npl : pd ≠ l := nlp.symm
  refine ⟨tl, rfl, ⟨_, SqL.of htl7⟩, for_list (K := K) (a := tl) (xs := [V.bl true, V.bl false]) (fun j σ H' => ∃ (e8 e9 : Option V) (more : RL), σ = [some (.ref sa), some (.ref st), some (.ref rh), some (.ref a0), some (.ref pd), some (.ref l), some (.int ((i : Nat) + 1)), some (.ref a), e8, e9] ∧ SameX l H7 H' ∧ BfsL (L + 1) H' l (rl ++ more) ∧ (1 ≤ j → led d.q r b true ∈ (rl ++ more).map (·.2)) ∧ (2 ≤ j → led d.q r b false ∈ (rl ++ more).map (·.2)))
    ⟨e8, e9, [], rfl, SameX.refl _ _, by rw [List.append_nil]; exact B6.to s7, fun h => absurd h (by decide), fun h => absurd h (by decide)⟩ (fun j σ H' _ ⟨_, _, _, _, sx, _⟩ => SqL.of (sx _ _ ntll htl7)) ?_ ?_⟩
  · rintro j x σ H8 hx ⟨f8, f9, more, rfl, sx8, B8, m1, m2⟩
    obtain ⟨z, rfl, hz'⟩ : ∃ z, x = V.bl z ∧ ((j = 0 ∧ z = true) ∨ (j = 1 ∧ z = false)) := by
      match j, hx with
      | 0, hx => exact ⟨true, (Option.some.inj hx).symm, .inl ⟨rfl, rfl⟩⟩
      | 1, hx => exact ⟨false, (Option.some.inj hx).symm, .inr ⟨rfl, rfl⟩⟩
      | j + 2, hx => cases hx
    have k8 : Keep H7 H8 := SameX.keep sx8 (B6.to s7).ls not_lst
    have hR8 : RoadV H8 rh nl d := ⟨k8 _ _ (s7 _ _ hR6.rt) (.tup _), sx8 _ _ nln (s7 _ _ hR6.ls)⟩
    have ha8 : RowAt H8 a r := RowAt.to (s7 _ _ ha6) k8
    have hpd8 : RowD H8 pd es' := sx8 _ _ npl (s7 _ _ hpd6)
    refine ⟨_, rfl, _, rfl, _, rfl, _, rfl, pd, _, rfl, rd_val hpd8 ha8 hlr, _, rfl, rh, nl, a, d, r, b, z, rfl, hR8, hL, ha8, by rw [hLe]; exact hor, b1, b2, fun p H9 s9 h9 => ?_⟩
    refine ⟨p, _, l, rl ++ more, rfl, rfl, B8.to s9, h9, hor.led d.q b1 b2 z, by omega, fun H10 mo2 hadd B10 sx10 => ?_⟩
    rw [List.map_append] at hadd
    obtain ⟨c1, c2⟩ := see_more hadd
    rw [List.append_assoc] at B10
    have up : ∀ y, y ∈ (rl ++ more).map (·.2) → y ∈ (rl ++ (more ++ mo2)).map (·.2) := fun y hy => by
      rw [← List.append_assoc, List.map_append]
      exact List.mem_append_left _ hy
    have cr : led d.q r b z ∈ (rl ++ (more ++ mo2)).map (·.2) := by
      rw [← List.append_assoc, List.map_append]
      exact c2
    refine ⟨_, _, more ++ mo2, rfl, fun b' o n e => sx10 _ _ n (s9 _ _ (sx8 _ _ n e)), B10, fun hj => ?_, fun hj => ?_⟩
    · rcases hz' with ⟨e0, e⟩ | ⟨e0, e⟩
      · rw [← e]; exact cr
      · exact up _ (m1 (by omega))
    · rcases hz' with ⟨e0, e⟩ | ⟨e0, e⟩
      · omega
      · rw [← e]; exact cr
  · rintro σ H8 ⟨f8, f9, more, rfl, sx8, B8, m1, m2⟩
    have hpr : plOf es' r = b := plOf_at hlr b1 b2
    have I2 := I.next (nx' := nxP d.q (plOf es')) he B8 (fun j e' x hj hje h => by
      have hne := hrest j e' hj hje
      have e1 : plOf es' e'.2 = plOf es e'.2 := by
        unfold plOf
        rw [hlk, if_neg hne]
      obtain ⟨h2, z, e2⟩ := h
      exact ⟨h2, z, by rw [e2, e1]⟩) (fun x hx => by
      obtain ⟨_, z, e2⟩ := hx
      rw [e2, hpr]
      cases z with
      | true => exact m1 (Nat.le_succ 1)
      | false => exact m2 (Nat.le_refl 2))
    refine ⟨390626 - (i + 1), by omega, _, i + 1, es', _, _, _, rfl, rfl, fun b' o n e => sx8 _ _ (ne_of_none e nl0) (s7 _ _ (sx06 _ _ n e)), ?_, I2, sx8 _ _ npl (s7 _ _ hpd6), by omega, hie', fun j e hj hje h2 => ?_⟩
    · obtain ⟨q1, q2, q3, q4, e⟩ := hst6
      exact ⟨q1, q2, q3, q4, sx8 _ _ nls.symm (s7 _ _ e)⟩
    · rw [List.getElem?_append_left (by omega)] at hje
      by_cases hji : j = i
      · subst hji
        rw [he] at hje
        cases hje
        exact ⟨b, hlr, b1, b2⟩
      · rw [hlk, if_neg (hrest j e (by omega) hje)]
        exact hval j e (by omega) hje h2
end
end Wp
set_option Elab.async false
set_option linter.all false
set_option maxRecDepth 100000
set_option maxHeartbeats 2000000
set_option pp.maxSteps 400
/-! WpD17: the law's drawn foe. -/
namespace Wp
open PySem PySem.Spec PyProof.Rows L2 WP
def spDF (P : Program) (w : World) (K : PySem.W.Frag) : Sp := fun vs H Q _ => ∃ (sa st : Addr) (zs : List Int) (rh nl a0 : Addr) (d : LogD) (r0 : List Nat), vs = [.ref sa, .ref st, .ref rh, .ref a0, .int (-1)] ∧ Scr K st H sa (zs.map V.int) ∧ zs.length ≤ 1000 ∧ StAt H st ∧ RoadL st H rh nl d ∧ d.L ≤ 3 ∧ RowAt H a0 r0 ∧ Ok (d.L + 1) r0 ∧
  ∀ t fa ff es S H', SameX st H H' → StAt H' st → H' t = some (.tup [.ref fa, .ref ff]) → FoeAt P w H' fa es → CoversF d.q (d.L + 1) S (foOf es) es r0 → Q (.ref t) H'
section
variable {P : Program} {w : World} {K : PySem.W.Frag} {mg : Str → Option Value} {base : Heap} {c : Cs} {Ts : List (Addr × Str)}
theorem scDF : FnScope ["_law_script", "_law_state", "_law_road_here", "_law_start_here", "_law_bad", "_law_foe", "_law_rows", "_law_count", "_law_at", "_law_row_here", "_law_below", "_law_kind", "_law_after"] ["_law_script", "_law_state", "_law_road_here", "_law_start_here", "_law_bad"] (defScope (topS 79)) := ⟨rfl, rfl, rfl, by decide +kernel, rfl, by decide +kernel, by decide +kernel⟩

theorem cal_df (T : Txt K mg c) : C8.Cal P w K mg base 3 "_law_drawn_foe" (spDF P w K) [] := by
  refine cal_mk T.l_drawn_foe scDF (fun _ _ _ _ _ _ us hl => match us, hl with | [_, _, _, _, _], _ => rfl) (fun vs H Q E h => ?_) (fun f cdv A outer s H vs Q E hr h => ?_)
  · obtain ⟨sa, st, zs, rh, nl, a0, d, r0, rfl, _⟩ := h
    rfl
  obtain ⟨sa, st, zs, rh, nl, a0, d, r0, rfl, hs, hz, hst, hR, hL, ha0, ho, q⟩ := h
  generalize hLe : d.L = L at ho q
  refine ⟨_, (pss_cons (ps_set (i := 5) scDF.nd rfl (.inl rfl) (pe_dnewF))
    (pss_cons (ps_set (i := 6) scDF.nd rfl (.inl rfl) (pe_lst (pa_cons (pv 3) pa_nil)))
    (pss_cons (ps_set (i := 7) scDF.nd rfl (.inl rfl) pe_int)
    (pss_cons (ps_set (i := 8) scDF.nd rfl (.inl rfl) pe_int)
    (pss_cons (ps_while PassesOwn.never (pt_cmpR op_lt (pv 8) (pe_callB call_len_seq (by rfl) T.bLen (by decide +kernel) (pa_cons (pv 6) pa_nil)) (nomark _))
    (pss_cons (ps_set (i := 9) scDF.nd rfl (.inl rfl) (pe_ix ix_list (pv 6) (pv 8) (fun _ _ => rfl)))
    (pss_cons (ps_set (i := 8) scDF.nd rfl (.inl rfl) (pe_op op_add (pv 8) pe_int))
    (pss_one (ps_for PassesOwn.never rfl (pi_range2 rfl T.bRange (pa_cons pe_int (pa_cons (pe_callB (cr_sumT rfl) (by rfl) T.bSum (by decide +kernel) (pa_cons (pv 9) pa_nil)) pa_nil))) (pg_name (i := 10) scDF.nd rfl (.inl rfl))
    (pss_cons (ps_if (pt_cmpR op_eq (pv 7) (pv 4) (nomark _)) (pss_cons ps_never (pss_cons ps_never (pss_cons ps_never (pss_one ps_never)))) pss_nil)
    (pss_cons (ps_set (i := 7) scDF.nd rfl (.inl rfl) (pe_op op_add (pv 7) pe_int))
    (pss_cons (ps_fput (hu100 hr) (pv 5) (pe_tup (pa_cons (pv 9) (pa_cons (pv 10) pa_nil))) (pe_cmpR op_eq (C8.pe_c (cal_dr T) hr (by decide) rfl (pa_cons (pv 0) (pa_cons (pv 1) (pa_cons pe_int pa_nil)))) pe_int (nomark _)) rfl)
    (pss_cons (ps_set (i := 12) scDF.nd rfl (.inl rfl) (C8.pe_c (cal_lle T) hr (by decide) rfl (pa_cons (pv 2) (pa_cons (pv 9) (pa_cons (pv 10) (pa_cons (pe_fget (hu100 hr) (pv 5) (pe_tup (pa_cons (pv 9) (pa_cons (pv 10) pa_nil))) (fun _ _ => rfl)) pa_nil))))))
    (pss_one (ps_app (L + 1) (i := 12) (k := 6) (ps_if (pt_cmpR (op_notInD (hu65 hr)) (pv 12) (pv 6) rfl) (pss_one (ps_expr (pe_bm PySem.F.plainAttrs_list PySem.F.slot_list_append PySem.F.type_list_append mt_append (pv 6) (pa_cons (pv 12) pa_nil)))) pss_nil))))))))))))
    (pss_one (ps_ret (pe_tup (pa_cons (pv 5) (pa_cons (pe_lst (pa_cons pe_str pa_nil)) pa_nil)))))))))), ?_⟩
  intro fa nfa H1 hoth hF1
  have s1 : Same H H1 := fun b o e => (hoth b (ne_of_none e nfa)).trans e
  refine ⟨_, rfl, by show 1 ≤ sizeLine; decide, fun l nl1 => ?_⟩
  have s2 : Same H1 (upd H1 l (.lst [.ref a0])) := same_new nl1
  have hl2 : upd H1 l (.lst [.ref a0]) l = some (.lst (refs [(a0, r0)])) := upd_same
  generalize upd H1 l (.lst [.ref a0]) = H2 at s2 hl2
  have s02 := s1.trans s2
  have nl0 : H l = none := s1.free nl1
  have nls : l ≠ st := st_ne hst nl0
  have nfs : fa ≠ st := st_ne hst nfa
  have nlf : l ≠ fa := (ne_of_none hF1.ob nl1).symm
  have nln : nl ≠ l := ne_of_none hR.ls nl0
  refine ⟨fun m σ H' => ∃ (rl : RL) (i cnt : Nat) (es : List FE) (e9 e10 e11 e12 : Option V), σ = [some (.ref sa), some (.ref st), some (.ref rh), some (.ref a0), some (.int (-1)), some (.ref fa), some (.ref l), some (.int (cnt : Nat)), some (.int (i : Nat)), e9, e10, e11, e12] ∧ m = 390626 - i ∧ SameX st H H' ∧ StAt H' st ∧ BfsJ (L + 1) (nxF d.q (foOf es)) r0 l i rl H' ∧ FoeAt P w H' fa es ∧ es.length ≤ 24 * i ∧
    (∀ j e b, j < i → rl[j]? = some e → 1 ≤ b → b < e.2.sum → (foeVal es e.2 b).isSome = true), ⟨_, [(a0, r0)], 0, 0, [], none, none, none, none, rfl, rfl, SameX.of s02, hst.to s02, ⟨Nat.zero_le _, ⟨hl2, fun e he => by rw [List.mem_singleton.mp he]; exact s02 _ _ ha0, by simp, fun e he => by rw [List.mem_singleton.mp he]; exact ho⟩, by simp, fun j e hj => absurd hj (Nat.not_lt_zero _)⟩, hF1.to s2, Nat.zero_le _, fun j e b hj => absurd hj (Nat.not_lt_zero _)⟩, ?_⟩
  rintro m σ H4 ⟨rl, i, cnt, es, e9, e10, e11, e12, rfl, rfl, sx4, hst4, I, hF4, hes, hval⟩
  have hfew := I.B.few (by omega)
  refine ⟨_, rfl, _, rfl, l, _, rfl, .inl (SqL.of I.B.ls), _, _, rfl, rfl, _, rfl, ?_⟩
  rw [refs_len]
  by_cases hlt : i < rl.length
  rotate_left
  · refine if0 (decide_eq_false (by omega)) ⟨_, rfl, by show 1 ≤ sizeLine; decide, fun ff nff => ?_⟩
    have s5 : Same H4 (upd H4 ff (.lst [.str "fine"])) := same_new nff
    refine ⟨by show 2 ≤ sizeLine; decide, fun t nt => ?_⟩
    have s6 : Same (upd H4 ff (.lst [.str "fine"])) (upd (upd H4 ff (.lst [.str "fine"])) t (.tup [.ref fa, .ref ff])) := same_new nt
    refine q t fa ff es (fun r => r ∈ rl.map (·.2)) _ (sx4.trans (SameX.of (s5.trans s6))) (hst4.to (s5.trans s6)) upd_same (hF4.to (s5.trans s6)) ⟨I.st, fun r hr' => ?_, fun r hr' b h1 h2 => ?_, fun r hr' b h1 h2 => ?_⟩
    · obtain ⟨e, he, rfl⟩ := List.mem_map.mp hr'
      exact I.B.ok e he
    · obtain ⟨e, he, rfl⟩ := List.mem_map.mp hr'
      obtain ⟨j, hj⟩ := List.getElem?_of_mem he
      obtain ⟨v, hv⟩ := Option.isSome_iff_exists.mp (hval j e b (by have := (List.getElem?_eq_some_iff.mp hj).1; omega) hj h1 h2)
      unfold foOf
      rw [hv]
      rfl
    · obtain ⟨e, he, rfl⟩ := List.mem_map.mp hr'
      obtain ⟨j, hj⟩ := List.getElem?_of_mem he
      exact I.cl j e (by have := (List.getElem?_eq_some_iff.mp hj).1; omega) hj _ ⟨b, h1, h2, rfl⟩
  refine if1 (decide_eq_true (by omega)) ⟨_, fun σ' H' z => z, ?_⟩
  obtain ⟨⟨a, r⟩, he⟩ : ∃ e, rl[i]? = some e := ⟨_, List.getElem?_eq_getElem hlt⟩
  have hm := List.mem_of_getElem? he
  have ha : RowAt H4 a r := I.B.rows _ hm
  have hor : Ok (L + 1) r := I.B.ok _ hm
  have htop := hor.top
  have er : rv r = (r.map fun n : Nat => (n : Int)).map V.int := rv_ints r
  have hrest : ∀ j e, j < i → rl[j]? = some e → e.2 ≠ r := fun j e hj hje z => by
    have h1 : (rl.map (·.2))[j]? = some r := by rw [List.getElem?_map, hje]; show some e.2 = _; rw [z]
    have h2 : (rl.map (·.2))[i]? = some r := by rw [List.getElem?_map, he]; rfl
    have := nodup_ix2 I.B.nd h1 h2
    omega
  refine ⟨_, rfl, _, rfl, l, _, _, _, rfl, rfl, SqL.of I.B.ls, atI_nat (refs_get' he), ?_⟩
  refine ⟨_, rfl, _, _, rfl, rfl, ?_⟩
  refine ⟨_, rfl, a, _, rfl, er ▸ SqT.of ha, _, _, rfl, ⟨by decide, by decide, by rw [sum_ints]; omega, by rw [sum_ints]; omega⟩, ?_⟩
  rw [sum_ints]
  refine for_range (lo := 1) (n := ((r.sum : Nat) - 1 : Int).toNat) (fun j σ H' => ∃ (cnt : Nat) (e10 e11 e12 : Option V) (more : RL) (es2 : List FE), σ = [some (.ref sa), some (.ref st), some (.ref rh), some (.ref a0), some (.int (-1)), some (.ref fa), some (.ref l), some (.int (cnt : Nat)), some (.int ((i : Nat) + 1)), some (.ref a), e10, e11, e12] ∧ SameX st H H' ∧ StAt H' st ∧ RowAt H' a r ∧ BfsL (L + 1) H' l (rl ++ more) ∧ FoeAt P w H' fa es2 ∧ es2.length ≤ 24 * i + j ∧
    (∀ r' b, r' ≠ r → foeVal es2 r' b = foeVal es r' b) ∧ (∀ b, 1 ≤ b → b < 1 + j → (foeVal es2 r b).isSome = true ∧ led d.q r b (foOf es2 r b) ∈ (rl ++ more).map (·.2))) ⟨cnt, e10, e11, e12, [], es, rfl, sx4, hst4, ha, by rw [List.append_nil]; exact I.B, hF4, hes, fun _ _ _ => rfl, fun b h1 h2 => by omega⟩ ?_ ?_
  · rintro j σ H5 hj ⟨cnt, f10, f11, f12, more, es2, rfl, sx5, hst5, ha5, B5, F5, hl5, hold, hnew⟩
    have b1 : 1 ≤ 1 + j := by omega
    have b2 : 1 + j < r.sum := by omega
    refine ⟨_, rfl, _, rfl, rfl, _, rfl, if0 (decide_eq_false (fun z => by injection z with z; omega)) ?_⟩
    refine ⟨_, rfl, _, _, rfl, rfl, ?_⟩
    refine ⟨_, rfl, _, rfl, sa, st, zs, 2, rfl, hs.x sx5, hz, hst5, by decide, by decide, fun k H6 hk sx6 hst6 => ⟨rfl, ?_⟩⟩
    generalize hzz : decide (V.int (k : Nat) = V.int 0) = z
    obtain ⟨w1, w2, w3, w4, hw⟩ := id hst5
    have k6 : Keep H5 H6 := SameX.keep sx6 hw not_lst
    have ha6 := ha5.to k6
    have F6 : FoeAt P w H6 fa es2 := F5.keep k6 ((sx6 _ _ nfs F5.ob).trans F5.ob.symm)
    have B6 : BfsL (L + 1) H6 l (rl ++ more) := B5.k k6 ((sx6 _ _ nls B5.ls).trans B5.ls.symm)
    refine ⟨_, rfl, _, rfl, _, rfl, by show 2 ≤ sizeLine; decide, fun kk nk => ?_⟩
    have s7 : Same H6 (upd H6 kk (.tup [.ref a, .int (1 + (j : Int))])) := same_new nk
    have hk7 : upd H6 kk (.tup [.ref a, .int (1 + (j : Int))]) kk = some (.tup [.ref a, .int ((1 + j : Nat) : Int)]) := by
      rw [upd_same, Int.natCast_add]
      rfl
    generalize upd H6 kk (.tup [.ref a, .int (1 + (j : Int))]) = H7 at s7 hk7
    have F7 := F6.to s7
    refine ⟨fa, kk, a, r, 1 + j, es2, z, rfl, rfl, rfl, F7, ?_, hk7, s7 _ _ ha6, fun H8 o8 F8 => ?_⟩
    · have h9 : (9500000 : Nat) < sizeLine := by decide
      omega
    have k8 : Keep H7 H8 := fun b o e f => (o8 b (fun zz => by
      subst zz
      rw [F7.ob] at e
      cases e
      cases f)).trans e
    have sx8 : SameX st H H8 := fun b o n e => (o8 b (ne_of_none e nfa)).trans (s7 _ _ (sx6 _ _ n (sx5 _ _ n e)))
    have hst8 : StAt H8 st := by
      obtain ⟨q1, q2, q3, q4, e⟩ := hst6
      exact ⟨q1, q2, q3, q4, (o8 _ nfs.symm).trans (s7 _ _ e)⟩
    have B8 : BfsL (L + 1) H8 l (rl ++ more) := (B6.to s7).k k8 (o8 _ nlf)
    have ha8 : RowAt H8 a r := RowAt.to (s7 _ _ ha6) k8
    have hR8 : RoadL st H8 rh nl d := hR.x hst sx8
    have hlen8 := foePut_len es2 kk a r (1 + j) z
    have fv : ∀ r' b', foeVal (foePut es2 kk a r (1 + j) z) r' b' = if r' = r ∧ b' = 1 + j then some z else foeVal es2 r' b' := foeVal_put es2 kk a r (1 + j) z
    generalize foePut es2 kk a r (1 + j) z = es3 at F8 hlen8 fv
    refine ⟨_, rfl, _, rfl, _, rfl, _, rfl, _, rfl, _, rfl, by show 2 ≤ sizeLine; decide, fun k2 nk2 => ?_⟩
    have s9 : Same H8 (upd H8 k2 (.tup [.ref a, .int (1 + (j : Int))])) := same_new nk2
    have hk9 : upd H8 k2 (.tup [.ref a, .int (1 + (j : Int))]) k2 = some (.tup [.ref a, .int ((1 + j : Nat) : Int)]) := by
      rw [upd_same, Int.natCast_add]
      rfl
    generalize upd H8 k2 (.tup [.ref a, .int (1 + (j : Int))]) = H9 at s9 hk9
    have F9 := F8.to s9
    have hvz : foeVal es3 r (1 + j) = some z := by rw [fv, if_pos ⟨rfl, rfl⟩]
    refine ⟨fa, k2, r, 1 + j, es3, z, rfl, rfl, F9.rd, ⟨a, hk9, s9 _ _ ha8⟩, hvz, ?_⟩
    refine ⟨rh, nl, a, d, r, 1 + j, z, by rw [Int.natCast_add]; rfl, (hR8.to s9).v, hL, s9 _ _ ha8, by rw [hLe]; exact hor, b1, b2, fun p H10 s10 h10 => ?_⟩
    have B10 := B8.to (s9.trans s10)
    refine ⟨p, _, l, rl ++ more, rfl, rfl, B10, h10, hor.led d.q b1 b2 z, by omega, fun H11 mo2 hadd B11 sx11 => ?_⟩
    rw [List.map_append] at hadd
    obtain ⟨c1, c2⟩ := see_more hadd
    rw [List.append_assoc] at B11
    have k11 : Keep H10 H11 := SameX.keep sx11 B10.ls not_lst
    have F10 := F9.to s10
    have s810 := s9.trans s10
    refine ⟨cnt + 1, _, _, _, more ++ mo2, es3, rfl, fun b o n e => sx11 _ _ (ne_of_none e nl0) (s810 _ _ (sx8 _ _ n e)), ?_, RowAt.to (s810 _ _ ha8) k11, B11, F10.keep k11 ((sx11 _ _ nlf.symm F10.ob).trans F10.ob.symm), by omega, fun r' b' hne => ?_, fun b' h1 h2 => ?_⟩
    · obtain ⟨q1, q2, q3, q4, e⟩ := hst8
      exact ⟨q1, q2, q3, q4, sx11 _ _ nls.symm (s810 _ _ e)⟩
    · rw [fv, if_neg (fun zz => hne zz.1)]
      exact hold r' b' hne
    · rw [← List.append_assoc, List.map_append]
      by_cases hb : b' = 1 + j
      · subst hb
        refine ⟨by rw [hvz]; rfl, ?_⟩
        unfold foOf
        rw [hvz]
        exact c2
      · have e1 : foeVal es3 r b' = foeVal es2 r b' := by rw [fv, if_neg (fun zz => hb zz.2)]
        obtain ⟨n1, n2⟩ := hnew b' h1 (by omega)
        refine ⟨by rw [e1]; exact n1, List.mem_append_left _ ?_⟩
        unfold foOf at n2 ⊢
        rw [e1]
        exact n2
  · rintro σ H5 ⟨cnt, f10, f11, f12, more, es2, rfl, sx5, hst5, ha5, B5, F5, hl5, hold, hnew⟩
    have I2 := I.next (nx' := nxF d.q (foOf es2)) he B5 (fun j e' x hj hje h => by
      obtain ⟨b, h1, h2, e2⟩ := h
      refine ⟨b, h1, h2, ?_⟩
      rw [e2]
      unfold foOf
      rw [hold _ _ (hrest j e' hj hje)]) (fun x hx => by
      obtain ⟨b, h1, h2, e2⟩ := hx
      have h3 : b < r.sum := h2
      rw [e2]
      exact (hnew b h1 (by omega)).2)
    refine ⟨390626 - (i + 1), by omega, _, i + 1, cnt, es2, _, _, _, _, rfl, rfl, sx5, hst5, I2, F5, by omega, fun j e b hj hje h1 h2 => ?_⟩
    rw [List.getElem?_append_left (by omega)] at hje
    by_cases hji : j = i
    · subst hji
      rw [he] at hje
      cases hje
      have h3 : b < r.sum := h2
      exact (hnew b h1 (by omega)).1
    · rw [hold _ _ (hrest j e (by omega) hje)]
      exact hval j e b (by omega) hje h1 h2
end
end Wp
set_option Elab.async false
set_option linter.all false
set_option maxRecDepth 100000
set_option maxHeartbeats 2000000
set_option pp.maxSteps 400
/-! WpD18: the law's course. -/
namespace Wp
open PySem PySem.Spec PyProof.Rows L2 WP
def spLC2 (P : Program) (w : World) : Sp := fun vs H Q _ => ∃ (rh nl pt pr pd fa : Addr) (d : LogD) (pa ps : Nat) (es : RE) (S : List Nat → Prop) (pl : List Nat → Nat) (fs : List FE) (S2 : List Nat → Prop) (fo : List Nat → Nat → Bool), vs = [.ref rh, .ref pt, .ref pr, .ref pd, .ref fa] ∧ RoadV H rh nl d ∧ TupPs H pt d.ps ∧
  H pr = some (.tup [.int (pa : Nat), .int (ps : Nat)]) ∧ RowD H pd es ∧ d.ns.length ≤ 24 ∧ d.L ≤ 3 ∧ can d ≠ [] ∧ Covers d.q (d.L + 1) S pl es (rowOf d) ∧ Good pl ∧ FoeAt P w H fa fs ∧ CoversF d.q (d.L + 1) S2 fo fs (rowOf d) ∧
  ∀ t l as H', Same H H' → H' t = some (.tup [.int (playC (parOf d pa ps) pl fo (rowOf d) : Nat), .ref l]) → H' l = some (.lst (as.map V.ref)) → PairsAt H' as (course d.q pl fo (rowOf d) (can d)) → Q (.ref t) H'
section
variable {P : Program} {w : World} {K : PySem.W.Frag} {mg : Str → Option Value} {base : Heap} {c : Cs} {Ts : List (Addr × Str)}
theorem scLC2 : FnScope ["_law_road_here", "_law_pairs", "_law_prices_here", "_law_plan", "_law_foe", "_law_widths_here", "_law_row_here", "_law_cost", "_law_course_here", "_law_below", "_law_answered"] ["_law_road_here", "_law_pairs", "_law_prices_here", "_law_plan", "_law_foe"] (defScope (topS 83)) := ⟨rfl, rfl, rfl, by decide +kernel, rfl, by decide +kernel, by decide +kernel⟩

theorem cal_lc2 (T : Txt K mg c) : C8.Cal P w K mg base 4 "_law_course" (spLC2 P w) [] := by
  refine cal_mk T.l_course scLC2 (fun _ _ _ _ _ _ us hl => match us, hl with | [_, _, _, _, _], _ => rfl) (fun vs H Q E h => ?_) (fun f cdv A outer s H vs Q E hr h => ?_)
  · obtain ⟨rh, nl, pt, pr, pd, fa, d, pa, ps, es, S, pl, fs, S2, fo, rfl, _⟩ := h
    rfl
  obtain ⟨rh, nl, pt, pr, pd, fa, d, pa, ps, es, S, pl, fs, S2, fo, rfl, hR, hpt, hpr, hpd, hlen24, hL, hne, hcv, hgood, hfa, hcf, q⟩ := h
  refine ⟨_, (pss_cons (ps_set (i := 5) scLC2.nd rfl (.inl rfl) (C8.pe_c (cal_lca T) hr (by decide) rfl (pa_cons (pv 0) (pa_cons (pv 1) pa_nil))))
    (pss_cons (ps_set (i := 6) scLC2.nd rfl (.inl rfl) (C8.pe_c (cal_lro T) hr (by decide) rfl (pa_cons (pv 0) (pa_cons (pv 1) pa_nil))))
    (pss_cons (ps_set (i := 7) scLC2.nd rfl (.inl rfl) pe_int)
    (pss_cons (ps_set (i := 8) scLC2.nd rfl (.inl rfl) (pe_lst pa_nil))
    (pss_cons (ps_while PassesOwn.never (pt_cmpR op_gt (pe_callB (cr_sumT rfl) (by rfl) T.bSum (by decide +kernel) (pa_cons (pv 6) pa_nil)) pe_int (nomark _))
    (pss_cons (ps_set (i := 9) scLC2.nd rfl (.inl rfl) (pe_dget (hu_of hr) (pv 3) (pv 6) (fun _ _ => rfl)))
    (pss_cons (ps_set (i := 10) scLC2.nd rfl (.inl rfl) (pe_fget (hu100 hr) (pv 4) (pe_tup (pa_cons (pv 6) (pa_cons (pv 9) pa_nil))) (fun _ _ => rfl)))
    (pss_cons (ps_set (i := 7) scLC2.nd rfl (.inl rfl) (pe_op op_add (pv 7) (C8.pe_c (cal_lpo T) hr (by decide) rfl (pa_cons (pv 2) (pa_cons (pv 10) pa_nil)))))
    (pss_cons (ps_expr (pe_bm PySem.F.plainAttrs_list PySem.F.slot_list_append PySem.F.type_list_append mt_append (pv 8) (pa_cons (pe_tup (pa_cons (pe_ix ix_list (pv 5) (pv 9) (fun _ _ => rfl)) (pa_cons (pv 10) pa_nil))) pa_nil)))
    (pss_cons (ps_set (i := 6) scLC2.nd rfl (.inl rfl) (C8.pe_c (cal_lle T) hr (by decide) rfl (pa_cons (pv 0) (pa_cons (pv 6) (pa_cons (pv 9) (pa_cons (pv 10) pa_nil))))))
    (pss_one (ps_if (pt_val (pv 10)) (pss_one (ps_set (i := 5) scLC2.nd rfl (.inl rfl) (pe_slice sl_list (pv 5) (po_some (pv 9)) po_none))) (pss_one (ps_set (i := 5) scLC2.nd rfl (.inl rfl) (pe_slice sl_list (pv 5) po_none (po_some (pe_callB (cr_sumT rfl) (by rfl) T.bSum (by decide +kernel) (pa_cons (pv 6) pa_nil))))))))))))))
    (pss_one (ps_ret (pe_tup (pa_cons (pv 7) (pa_cons (pv 8) pa_nil)))))))))), ?_⟩
  refine ⟨_, rfl, _, rfl, rh, nl, pt, d, rfl, hR, hpt, hlen24, fun wl H3 s3 nwl hwl => ?_⟩
  refine ⟨_, rfl, _, rfl, rh, nl, pt, d, rfl, hR.to s3, hpt.to (Same.x s3), hlen24, hL, fun a0 H4 s4 ha0 => ?_⟩
  refine ⟨Nat.zero_le _, fun cl ncl => ?_⟩
  have s24 : Same H H4 := s3.trans s4
  have nwc : wl ≠ cl := ne_of_none (s4 _ _ hwl) ncl
  have s5 : Same H4 (upd H4 cl (.lst [])) := same_new ncl
  have hcl5 : upd H4 cl (.lst []) cl = some (.lst (([] : List Addr).map V.ref)) := upd_same
  have hwl5 : upd H4 cl (.lst []) wl = some (.lst (rv (can d))) := s5 _ _ (s4 _ _ hwl)
  have ha5 : RowAt (upd H4 cl (.lst [])) a0 (rowOf d) := s5 _ _ ha0
  have ncl2 : H cl = none := s24.free ncl
  have s25 : Same H (upd H4 cl (.lst [])) := s24.trans s5
  generalize upd H4 cl (.lst []) = H5 at s5 hcl5 hwl5 ha5 s25
  have ho : Ok (d.L + 1) (rowOf d) := rowF_ok hne hlen24
  have hrb := rank_bound ho (by omega)
  have hcan : (can d).length = (rowOf d).sum := by
    have h1 : (needsF d.L d.q d.ps d.ns).length = (can d).length := by
      unfold needsF
      rw [List.length_map]
      rfl
    rw [← h1]
    exact (rowF_sum fun k hk => needsF_le hk).symm
  generalize hPe : parOf d pa ps = p at q
  have hpq : p.q = d.q := by rw [← hPe]; rfl
  have hpa : p.pa = pa := by rw [← hPe]; rfl
  have hps : p.ps = ps := by rw [← hPe]; rfl
  generalize hr0 : rowOf d = r0 at *
  generalize hw0 : can d = w0 at *
  refine ⟨fun m σ H' => ∃ (wa a : Addr) (ws r : List Nat) (cst : Nat) (as : List Addr) (done : List (Nat × Bool)) (e8 e9 : Option V), σ = [some (.ref rh), some (.ref pt), some (.ref pr), some (.ref pd), some (.ref fa), some (.ref wa), some (.ref a), some (.int (cst : Nat)), some (.ref cl), e8, e9] ∧ m = rank r ∧ Same H H' ∧ H' wa = some (.lst (rv ws)) ∧ ws.length = r.sum ∧ RowAt H' a r ∧ S r ∧ S2 r ∧ Ok (d.L + 1) r ∧
    cst + playC p pl fo r = playC p pl fo r0 ∧ H' cl = some (.lst (as.map V.ref)) ∧ PairsAt H' as done ∧ done ++ course d.q pl fo r ws = course d.q pl fo r0 w0 ∧ done.length + rank r ≤ rank r0 ∧ wa ≠ cl,
    ⟨_, wl, a0, w0, r0, 0, [], [], none, none, rfl, rfl, s25, hwl5, hcan, ha5, hcv.st, hcf.st, ho, Nat.zero_add _, hcl5, ⟨rfl, fun i a p h1 _ => by simp at h1⟩, rfl, by simp, nwc⟩, ?_⟩
  rintro m σ H6 ⟨wa, a, ws, r, cst, as, done, e8, e9, rfl, rfl, s6, hwa, hwl', ha, hS, hS2, hor, hcst, hcl, hps6, hdone, hlen, ncw⟩
  have er : rv r = (r.map fun n : Nat => (n : Int)).map V.int := rv_ints r
  have htop := hor.top
  have hlr := hor.len
  have hpl := playC_eq (p := p) (fo := fo) (show d.L + 1 ≤ 4 by omega) hgood hor
  have hco := course_eq (q := d.q) (fo := fo) (show d.L + 1 ≤ 4 by omega) hgood hor ws
  refine ⟨_, rfl, a, _, rfl, er ▸ SqT.of ha, _, _, rfl, rfl, _, rfl, ?_⟩
  rw [sum_ints]
  by_cases h1 : 1 < r.sum
  rotate_left
  · rw [if_pos (by omega)] at hpl hco
    rw [hpl, Nat.add_zero] at hcst
    rw [hco, List.append_nil] at hdone
    refine if0 (decide_eq_false (by omega)) ⟨_, rfl, _, rfl, by show 2 ≤ sizeLine; decide, fun t nt => ?_⟩
    have s7 : Same H6 (upd H6 t (.tup [.int (cst : Nat), .ref cl])) := same_new nt
    refine q t cl as _ (s6.trans s7) (by rw [upd_same, hcst]) (s7 _ _ hcl) ?_
    rw [← hdone]
    exact hps6.to (Same.x s7)
  rw [if_neg (by omega)] at hpl hco
  refine if1 (decide_eq_true (by omega)) ⟨_, fun σ' H' z => z, ?_⟩
  obtain ⟨g1, g2, g3⟩ := hcv.at_ r hS h1
  have hv := hcf.at_ r hS2 (pl r) g2 g3
  have hnx := hcv.nx r hS h1 (fo r (pl r))
  have hnx2 := hcf.nx r hS2 (pl r) g2 g3
  have hlt := rank_led hor (by omega) d.q g2 g3 (fo r (pl r))
  have hol := hor.led d.q g2 g3 (fo r (pl r))
  have hsumT : (ans d.q r (pl r)).sum = r.sum - pl r := ans_sum d.q r (pl r)
  have hsumF : (sil r (pl r)).sum ≤ r.sum := sil_sum_le r (pl r)
  generalize hb : pl r = b at *
  generalize hz : fo r b = z at *
  have hpd6 : RowD H6 pd es := s6 _ _ hpd
  refine ⟨_, rfl, _, rfl, pd, _, rfl, rd_val hpd6 ha g1, ?_⟩
  refine ⟨_, rfl, _, rfl, _, rfl, by show 2 ≤ sizeLine; decide, fun k nk => ?_⟩
  have s7 : Same H6 (upd H6 k (.tup [.ref a, .int (b : Nat)])) := same_new nk
  have hk7 : upd H6 k (.tup [.ref a, .int (b : Nat)]) k = some (.tup [.ref a, .int (b : Nat)]) := upd_same
  generalize upd H6 k (.tup [.ref a, .int (b : Nat)]) = H7 at s7 hk7
  have F7 := (hfa.to s6).to s7
  refine ⟨fa, k, r, b, fs, z, rfl, rfl, F7.rd, ⟨a, hk7, s7 _ _ ha⟩, hv, ?_⟩
  refine ⟨_, rfl, _, rfl, _, rfl, pr, pa, ps, z, rfl, (s6.trans s7) _ _ hpr, _, _, rfl, rfl, ?_⟩
  obtain ⟨wv, hwv⟩ : ∃ wv, ws[b]? = some wv := ⟨_, List.getElem?_eq_getElem (by omega)⟩
  have hgd : ws.getD b 0 = wv := by
    rw [List.getD_eq_getElem?_getD, hwv]
    rfl
  rw [hgd] at hco
  refine ⟨_, rfl, .inl ⟨rfl, _, SqL.of (s7 _ _ hcl)⟩, _, rfl, _, rfl, wa, _, _, _, rfl, rfl, SqL.of (s7 _ _ hwa), atI_nat (rv_get' hwv), _, rfl, by show 2 ≤ sizeLine; decide, fun u nu => ?_⟩
  have s8 : Same H7 (upd H7 u (.tup [.int (wv : Nat), .bl z])) := same_new nu
  have hu8 : upd H7 u (.tup [.int (wv : Nat), .bl z]) u = some (.tup [.int (wv : Nat), .bl z]) := upd_same
  generalize upd H7 u (.tup [.int (wv : Nat), .bl z]) = H8 at s8 hu8
  have s68 := s7.trans s8
  have hcl8 := s68 _ _ hcl
  have hal : as.length = done.length := hps6.1
  refine ⟨cl, _, _, rfl, rfl, hcl8, by rw [List.length_map, hal]; exact small_m (by omega), ?_⟩
  have k9 : Keep H8 (upd H8 cl (.lst (as.map V.ref ++ [.ref u]))) := Keep.upd hcl8 not_lst
  have o9 : ∀ b o, b ≠ cl → H8 b = some o → upd H8 cl (.lst (as.map V.ref ++ [.ref u])) b = some o := fun b o n e => (upd_ne n).trans e
  have hcl9 : upd H8 cl (.lst (as.map V.ref ++ [.ref u])) cl = some (.lst ((as ++ [u]).map V.ref)) := by
    rw [upd_same, List.map_append]
    rfl
  generalize upd H8 cl (.lst (as.map V.ref ++ [.ref u])) = H9 at k9 o9 hcl9
  have s29 : Same H H9 := fun b o e => o9 b o (ne_of_none e ncl2) (s68 _ _ (s6 _ _ e))
  have hwa9 : H9 wa = some (.lst (rv ws)) := o9 _ _ ncw (s68 _ _ hwa)
  have ha9 : RowAt H9 a r := RowAt.to (s68 _ _ ha) k9
  have hps9 : PairsAt H9 (as ++ [u]) (done ++ [(wv, z)]) := PairsAt.snoc ((hps6.to (Same.x s68)).to k9) (k9 _ _ hu8 (.tup _))
  refine ⟨_, rfl, _, rfl, _, rfl, _, rfl, rh, nl, a, d, r, b, z, rfl, hR.to s29, hL, ha9, hor, g2, g3, fun a2 H10 s10 ha2 => ?_⟩
  have hwa10 := s10 _ _ hwa9
  have hcl10 := s10 _ _ hcl9
  have s210 := s29.trans s10
  have hps10 := hps9.to (Same.x s10)
  have ecst : (cst + (if z then pa else ps)) + playC p pl fo (led d.q r b z) = playC p pl fo r0 := by
    rw [← hcst, hpl]
    unfold branch Par.price
    rw [hpa, hps, hpq]
    omega
  have edone : (done ++ [(wv, z)]) ++ course d.q pl fo (led d.q r b z) (if z then ws.drop b else ws.take (led d.q r b z).sum) = course d.q pl fo r0 w0 := by
    rw [← hdone, hco, List.append_assoc]
    rfl
  have hfin : ∀ (wp : Addr) (ws' : List Nat) (e8 e9 : Option V), H10 wp = none → ws' = (if z then ws.drop b else ws.take (led d.q r b z).sum) → ∃ m' < rank r, ∃ (wa a : Addr) (ws r : List Nat) (cst' : Nat) (as : List Addr) (done : List (Nat × Bool)) (f8 f9 : Option V), [some (V.ref rh), some (.ref pt), some (.ref pr), some (.ref pd), some (.ref fa), some (.ref wp), some (.ref a2), some (.int ((cst : Nat) + ((if z then pa else ps : Nat) : Int))), some (.ref cl), e8, e9] = [some (.ref rh), some (.ref pt), some (.ref pr), some (.ref pd), some (.ref fa), some (.ref wa), some (.ref a), some (.int (cst' : Nat)), some (.ref cl), f8, f9] ∧ m' = rank r ∧ Same H (upd H10 wp (.lst (rv ws'))) ∧ upd H10 wp (.lst (rv ws')) wa = some (.lst (rv ws)) ∧ ws.length = r.sum ∧ RowAt (upd H10 wp (.lst (rv ws'))) a r ∧ S r ∧ S2 r ∧ Ok (d.L + 1) r ∧
    cst' + playC p pl fo r = playC p pl fo r0 ∧ upd H10 wp (.lst (rv ws')) cl = some (.lst (as.map V.ref)) ∧ PairsAt (upd H10 wp (.lst (rv ws'))) as done ∧ done ++ course d.q pl fo r ws = course d.q pl fo r0 w0 ∧ done.length + rank r ≤ rank r0 ∧ wa ≠ cl := by
    intro wp ws' e8 e9 nwp ew
    have s11 : Same H10 (upd H10 wp (.lst (rv ws'))) := same_new nwp
    refine ⟨rank (led d.q r b z), hlt, wp, a2, ws', led d.q r b z, cst + (if z then pa else ps), as ++ [u], done ++ [(wv, z)], e8, e9, ?_, rfl, s210.trans s11, upd_same, ?_, s11 _ _ ha2, hnx, hnx2, hol, ecst, s11 _ _ hcl10, hps10.to (Same.x s11), ?_, ?_, (ne_of_none hcl10 nwp).symm⟩
    · rw [Int.natCast_add]
    · rw [ew]
      cases z with
      | true =>
        rw [if_pos rfl, List.length_drop]
        show _ = (ans d.q r b).sum
        omega
      | false =>
        rw [if_neg Bool.false_ne_true, List.length_take]
        show _ = (sil r b).sum
        have e3 : (led d.q r b false).sum = (sil r b).sum := rfl
        omega
    · rw [ew]
      exact edone
    · rw [List.length_append, List.length_singleton]
      omega
  refine ⟨_, rfl, z, rfl, ?_⟩
  cases z with
  | true =>
    refine if1 rfl ⟨_, rfl, _, rfl, (b : Int), rfl, wa, _, rfl, SqL.of hwa10, fun wp nwp => ?_⟩
    rw [cut_from]
    exact hfin wp _ _ _ nwp rfl
  | false =>
    have er2 : rv (led d.q r b false) = ((led d.q r b false).map fun n : Nat => (n : Int)).map V.int := rv_ints _
    refine if0 rfl ⟨_, rfl, _, rfl, a2, _, rfl, er2 ▸ SqT.of ha2, _, rfl, wa, _, rfl, SqL.of hwa10, fun wp nwp => ?_⟩
    rw [sum_ints, cut_to]
    exact hfin wp _ _ _ nwp rfl
end
end Wp
set_option Elab.async false
set_option linter.all false
set_option maxRecDepth 100000
set_option maxHeartbeats 2000000
set_option pp.maxSteps 400
/-! WpD19: the law makes widths, a road, a log. -/
namespace Wp
open PySem PySem.Spec PyProof.Rows L2 WP
def spLWd (c : Cs) : Sp := fun vs H Q _ => ∃ (l : Addr) (ns : List Nat), vs = [.ref l] ∧ H l = some (.lst (rv ns)) ∧ Up ns ∧ ns.length ≤ 5 ∧ ∀ wd dw nt H', Same H H' → H' wd = some (.ins c.widths dw [("numbers", .ref nt)]) → H' nt = some (.tup (rv ns)) → Q (.ref wd) H'
def spLMd (c : Cs) : Sp := fun vs H Q _ => ∃ (rh nl : Addr) (d : LogD), vs = [.ref rh] ∧ RoadV H rh nl d ∧ Up d.ns ∧ d.ns.length ≤ 5 ∧ d.L ≤ 3 ∧ ∀ A H', Same H H' → RoadAt c H' A d → Q (.ref A.rd) H'
def spLLg (c : Cs) : Sp := fun vs H Q _ => ∃ (rh nl pt : Addr) (d : LogD), vs = [.ref rh, .ref pt] ∧ RoadV H rh nl d ∧ TupPs H pt d.ps ∧ Up d.ns ∧ d.ns.length ≤ 5 ∧ DOk d ∧ ∀ A H', Same H H' → LogAt c H' A d → Q (.ref A.lg) H'
theorem DOk.take {d : LogD} (h : DOk d) (i : Nat) : DOk { d with ps := d.ps.take i } := ⟨h.len, h.hL, fun p hp => h.ps p (List.mem_of_mem_take hp), by
  show (d.ps.take i).length ≤ 100
  have := h.few
  rw [List.length_take]
  omega⟩
section
variable {P : Program} {w : World} {K : PySem.W.Frag} {mg : Str → Option Value} {base : Heap} {c : Cs} {Ts : List (Addr × Str)}
theorem scLWd : FnScope ["_law_numbers_here"] ["_law_numbers_here"] (defScope (topS 66)) := ⟨rfl, rfl, rfl, by decide +kernel, rfl, by decide +kernel, by decide +kernel⟩
theorem scLMd : FnScope ["_law_road_here"] ["_law_road_here"] (defScope (topS 70)) := ⟨rfl, rfl, rfl, by decide +kernel, rfl, by decide +kernel, by decide +kernel⟩
theorem scLLg : FnScope ["_law_road_here", "_law_pairs", "_law_log_here", "_law_probe", "_law_answered"] ["_law_road_here", "_law_pairs"] (defScope (topS 72)) := ⟨rfl, rfl, rfl, by decide +kernel, rfl, by decide +kernel, by decide +kernel⟩
theorem cal_lwd (T : Txt K mg c) : C8.Cal P w K mg base 5 "_law_widths" (spLWd c) [] := by
  obtain ⟨g, M, FR⟩ := fn_wi (P := P) (w := w) (base := base) T
  refine cal_mk T.l_widths scLWd (fun _ _ _ _ _ _ us hl => match us, hl with | [_], _ => rfl) (fun vs H Q E h => ?_) (fun f cdv A outer s H vs Q E hr h => ?_)
  · obtain ⟨l, ns, rfl, _⟩ := h
    rfl
  obtain ⟨l, ns, rfl, hl, hup, h5, q⟩ := h
  refine ⟨_, (pss_cons (ps_if (pt_cmpR op_eq (pe_callB call_len_seq (by rfl) T.bLen (by decide +kernel) (pa_cons (pv 0) pa_nil)) pe_int (nomark _)) (pss_one (ps_ret (StX.pe_makeR (E := C8.E0) M FR (hr.mono (by decide)) rfl T.widths.g C8.pass0 (pa_cons (pe_ix ix_list (pv 0) pe_int (fun _ _ => rfl)) pa_nil)))) pss_nil)
    (pss_cons (ps_if (pt_cmpR op_eq (pe_callB call_len_seq (by rfl) T.bLen (by decide +kernel) (pa_cons (pv 0) pa_nil)) pe_int (nomark _)) (pss_one (ps_ret (StX.pe_makeR (E := C8.E0) M FR (hr.mono (by decide)) rfl T.widths.g C8.pass0 (pa_cons (pe_ix ix_list (pv 0) pe_int (fun _ _ => rfl)) (pa_cons (pe_ix ix_list (pv 0) pe_int (fun _ _ => rfl)) pa_nil))))) pss_nil)
    (pss_cons (ps_if (pt_cmpR op_eq (pe_callB call_len_seq (by rfl) T.bLen (by decide +kernel) (pa_cons (pv 0) pa_nil)) pe_int (nomark _)) (pss_one (ps_ret (StX.pe_makeR (E := C8.E0) M FR (hr.mono (by decide)) rfl T.widths.g C8.pass0 (pa_cons (pe_ix ix_list (pv 0) pe_int (fun _ _ => rfl)) (pa_cons (pe_ix ix_list (pv 0) pe_int (fun _ _ => rfl)) (pa_cons (pe_ix ix_list (pv 0) pe_int (fun _ _ => rfl)) pa_nil)))))) pss_nil)
    (pss_cons (ps_if (pt_cmpR op_eq (pe_callB call_len_seq (by rfl) T.bLen (by decide +kernel) (pa_cons (pv 0) pa_nil)) pe_int (nomark _)) (pss_one (ps_ret (StX.pe_makeR (E := C8.E0) M FR (hr.mono (by decide)) rfl T.widths.g C8.pass0 (pa_cons (pe_ix ix_list (pv 0) pe_int (fun _ _ => rfl)) (pa_cons (pe_ix ix_list (pv 0) pe_int (fun _ _ => rfl)) (pa_cons (pe_ix ix_list (pv 0) pe_int (fun _ _ => rfl)) (pa_cons (pe_ix ix_list (pv 0) pe_int (fun _ _ => rfl)) pa_nil))))))) pss_nil)
    (pss_cons (ps_if (pt_cmpR op_eq (pe_callB call_len_seq (by rfl) T.bLen (by decide +kernel) (pa_cons (pv 0) pa_nil)) pe_int (nomark _)) (pss_one (ps_ret (StX.pe_makeR (E := C8.E0) M FR (hr.mono (by decide)) rfl T.widths.g C8.pass0 (pa_cons (pe_ix ix_list (pv 0) pe_int (fun _ _ => rfl)) (pa_cons (pe_ix ix_list (pv 0) pe_int (fun _ _ => rfl)) (pa_cons (pe_ix ix_list (pv 0) pe_int (fun _ _ => rfl)) (pa_cons (pe_ix ix_list (pv 0) pe_int (fun _ _ => rfl)) (pa_cons (pe_ix ix_list (pv 0) pe_int (fun _ _ => rfl)) pa_nil)))))))) pss_nil)
    (pss_one (ps_ret (StX.pe_makeR (E := C8.E0) M FR (hr.mono (by decide)) rfl T.widths.g C8.pass0 (pa_cons (pe_ix ix_list (pv 0) pe_int (fun _ _ => rfl)) (pa_cons (pe_ix ix_list (pv 0) pe_int (fun _ _ => rfl)) (pa_cons (pe_ix ix_list (pv 0) pe_int (fun _ _ => rfl)) (pa_cons (pe_ix ix_list (pv 0) pe_int (fun _ _ => rfl)) (pa_cons (pe_ix ix_list (pv 0) pe_int (fun _ _ => rfl)) (pa_cons (pe_ix ix_list (pv 0) pe_int (fun _ _ => rfl)) pa_nil)))))))))))))), ?_⟩
  have fin : ∀ x dx, H x = none → H dx = none → dx ≠ x → (fun vs H Q E => ∃ ws rest, vs = ws ++ rest ∧ ws.length = ["self"].length ∧ rest.length ≤ sizeLine ∧ ∀ p, H p = none → spWI c (ws ++ [V.ref p]) (upd H p (.tup rest)) Q E) (V.ref x :: rv ns) (upd (upd H dx (.own x)) x (.ins c.widths dx [])) (fun v H2 => v = .non ∧ Q (.ref x) H2) E0 := by
    intro x dx nx nd ne
    have hx : upd (upd H dx (.own x)) x (.ins c.widths dx []) x = some (.ins c.widths dx []) := upd_same
    have s1 : Same H (upd (upd H dx (.own x)) x (.ins c.widths dx [])) := fun b o e => by
      rw [upd_ne (ne_of_none e nx), upd_ne (ne_of_none e nd)]
      exact e
    generalize upd (upd H dx (.own x)) x (.ins c.widths dx []) = H1 at hx s1
    refine ⟨[.ref x], rv ns, rfl, rfl, by rw [rv_len]; exact Nat.le_of_lt (small1000 (by omega)), fun p np => ?_⟩
    have s2 : Same H1 (upd H1 p (.tup (rv ns))) := same_new np
    have npx : p ≠ x := (ne_of_none hx np).symm
    refine ⟨x, dx, p, ns, rfl, s2 _ _ hx, upd_same, hup, fun H' sx e => ⟨rfl, ?_⟩⟩
    exact q x dx p H' (fun b o e => sx _ _ (ne_of_none e nx) (s2 _ _ (s1 _ _ e))) e (sx _ _ npx upd_same)
  obtain ⟨u1, u2, u3, u4⟩ := hup
  rcases ns with _ | ⟨a, _ | ⟨b, _ | ⟨e, _ | ⟨g, _ | ⟨k, _ | ⟨m, t⟩⟩⟩⟩⟩⟩
  · exact absurd u1 (by decide)
  · exact ⟨_, rfl, l, _, rfl, .inl (SqL.of hl), rfl, _, rfl, if1 rfl ⟨_, rfl, l, _, _, _, rfl, rfl, SqL.of hl, atI_nat (j := 0) rfl, fin⟩⟩
  · exact ⟨_, rfl, l, _, rfl, .inl (SqL.of hl), rfl, _, rfl, if0 rfl ⟨_, rfl, l, _, rfl, .inl (SqL.of hl), rfl, _, rfl, if1 rfl ⟨_, rfl, l, _, _, _, rfl, rfl, SqL.of hl, atI_nat (j := 0) rfl, _, rfl, l, _, _, _, rfl, rfl, SqL.of hl, atI_nat (j := 1) rfl, fin⟩⟩⟩
  · exact ⟨_, rfl, l, _, rfl, .inl (SqL.of hl), rfl, _, rfl, if0 rfl ⟨_, rfl, l, _, rfl, .inl (SqL.of hl), rfl, _, rfl, if0 rfl ⟨_, rfl, l, _, rfl, .inl (SqL.of hl), rfl, _, rfl, if1 rfl ⟨_, rfl, l, _, _, _, rfl, rfl, SqL.of hl, atI_nat (j := 0) rfl, _, rfl, l, _, _, _, rfl, rfl, SqL.of hl, atI_nat (j := 1) rfl, _, rfl, l, _, _, _, rfl, rfl, SqL.of hl, atI_nat (j := 2) rfl, fin⟩⟩⟩⟩
  · exact ⟨_, rfl, l, _, rfl, .inl (SqL.of hl), rfl, _, rfl, if0 rfl ⟨_, rfl, l, _, rfl, .inl (SqL.of hl), rfl, _, rfl, if0 rfl ⟨_, rfl, l, _, rfl, .inl (SqL.of hl), rfl, _, rfl, if0 rfl ⟨_, rfl, l, _, rfl, .inl (SqL.of hl), rfl, _, rfl, if1 rfl ⟨_, rfl, l, _, _, _, rfl, rfl, SqL.of hl, atI_nat (j := 0) rfl, _, rfl, l, _, _, _, rfl, rfl, SqL.of hl, atI_nat (j := 1) rfl, _, rfl, l, _, _, _, rfl, rfl, SqL.of hl, atI_nat (j := 2) rfl, _, rfl, l, _, _, _, rfl, rfl, SqL.of hl, atI_nat (j := 3) rfl, fin⟩⟩⟩⟩⟩
  · exact ⟨_, rfl, l, _, rfl, .inl (SqL.of hl), rfl, _, rfl, if0 rfl ⟨_, rfl, l, _, rfl, .inl (SqL.of hl), rfl, _, rfl, if0 rfl ⟨_, rfl, l, _, rfl, .inl (SqL.of hl), rfl, _, rfl, if0 rfl ⟨_, rfl, l, _, rfl, .inl (SqL.of hl), rfl, _, rfl, if0 rfl ⟨_, rfl, l, _, rfl, .inl (SqL.of hl), rfl, _, rfl, if1 rfl ⟨_, rfl, l, _, _, _, rfl, rfl, SqL.of hl, atI_nat (j := 0) rfl, _, rfl, l, _, _, _, rfl, rfl, SqL.of hl, atI_nat (j := 1) rfl, _, rfl, l, _, _, _, rfl, rfl, SqL.of hl, atI_nat (j := 2) rfl, _, rfl, l, _, _, _, rfl, rfl, SqL.of hl, atI_nat (j := 3) rfl, _, rfl, l, _, _, _, rfl, rfl, SqL.of hl, atI_nat (j := 4) rfl, fin⟩⟩⟩⟩⟩⟩
  · simp at h5
theorem cal_lmd (T : Txt K mg c) : C8.Cal P w K mg base 6 "_law_made" (spLMd c) [] := by
  obtain ⟨f0, fd0, M, F0, FO⟩ := fn_ri (P := P) (w := w) (base := base) T
  obtain ⟨mv, hb⟩ := F0.kbinds0 (ps := ["self", "widths", "losses", "in_a_row"]) 3 ["in_a_row"] [] (fun vs _ zs => vs ++ zs) (by simp) (fun q hq => absurd hq (by simp)) (fun r1 _ r3 => r1.append r3) (fun D doc pm an cdv ct us mv ws h1 h2 h3 => match us, h1, mv, h2, ws, h3 with | [_, _, _], _, [], _, [_], _ => rfl)
  refine cal_mk T.l_made scLMd (fun _ _ _ _ _ _ us hl => match us, hl with | [_], _ => rfl) (fun vs H Q E h => ?_) (fun f cdv A outer s H vs Q E hr h => ?_)
  · obtain ⟨rh, nl, d, rfl, _⟩ := h
    rfl
  obtain ⟨rh, nl, d, rfl, hR, hup, h5, hL, q⟩ := h
  refine ⟨_, (pss_one (ps_ret (pe_makeK (E := C8.E0) M FO (hr.mono (by decide)) rfl T.road.g hb C8.pass0 (pa_cons (C8.pe_c (cal_lwd T) hr (by decide) rfl (pa_cons (pe_ix ix_tup (pv 0) pe_int (fun _ _ => rfl)) pa_nil)) (pa_cons (pe_ix ix_tup (pv 0) pe_int (fun _ _ => rfl)) pa_nil)) (pk_cons (pe_ix ix_tup (pv 0) pe_int (fun _ _ => rfl)) pk_nil)))), ?_⟩
  refine ⟨_, rfl, rh, _, _, _, rfl, rfl, SqT.of hR.rt, atI_nat (j := 0) rfl, nl, d.ns, rfl, hR.ls, hup, h5, fun wd dw nt H1 s1 hwd hnt => ?_⟩
  have hR1 := hR.to s1
  refine ⟨_, rfl, rh, _, _, _, rfl, rfl, SqT.of hR1.rt, atI_nat (j := 1) rfl, _, rfl, rh, _, _, _, rfl, rfl, SqT.of hR1.rt, atI_nat (j := 2) rfl, rfl, rfl, fun x dx nx nd ne => ?_⟩
  have hx : upd (upd H1 dx (.own x)) x (.ins c.road dx []) x = some (.ins c.road dx []) := upd_same
  have s2 : Same H1 (upd (upd H1 dx (.own x)) x (.ins c.road dx [])) := fun b o e => by
    rw [upd_ne (ne_of_none e nx), upd_ne (ne_of_none e nd)]
    exact e
  generalize upd (upd H1 dx (.own x)) x (.ins c.road dx []) = H2 at hx s2
  refine ⟨x, dx, wd, d.L, d.q, rfl, hx, hL, fun H' sx e => ⟨rfl, ?_⟩⟩
  have s3 : Same H1 H' := fun b o e => sx _ _ (ne_of_none e nx) (s2 _ _ e)
  exact q ⟨0, 0, x, dx, wd, dw, nt, 0, []⟩ H' (s1.trans s3) ⟨e, s3 _ _ hwd, s3 _ _ hnt⟩
theorem cal_llg (T : Txt K mg c) : C8.Cal P w K mg base 7 "_law_log" (spLLg c) [] := by
  obtain ⟨g, M, FR⟩ := fn_li (P := P) (w := w) (base := base) T
  refine cal_mk T.l_log scLLg (fun _ _ _ _ _ _ us hl => match us, hl with | [_, _], _ => rfl) (fun vs H Q E h => ?_) (fun f cdv A outer s H vs Q E hr h => ?_)
  · obtain ⟨rh, nl, pt, d, rfl, _⟩ := h
    rfl
  obtain ⟨rh, nl, pt, d, rfl, hR, ⟨pas, hpt, hps⟩, hup, h5, hd, q⟩ := h
  refine ⟨_, (pss_cons (ps_set (i := 2) scLLg.nd rfl (.inl rfl) (StX.pe_makeR (E := C8.E0) M FR (hr.mono (by decide)) rfl T.log.g C8.pass0 (pa_cons (C8.pe_c (cal_lmd T) hr (by decide) rfl (pa_cons (pv 0) pa_nil)) pa_nil)))
    (pss_cons (ps_for PassesOwn.never rfl (pi_tup (pv 1)) (pg_tup rfl (pgs_cons (pg_name (i := 3) scLLg.nd rfl (.inl rfl)) (pgs_cons (pg_name (i := 4) scLLg.nd rfl (.inl rfl)) pgs_nil)))
    (pss_one (ps_set (i := 2) scLLg.nd rfl (.inl rfl) (C8.pe_mt (met_te T) hr (by decide) (pv 2) (pa_cons (pv 3) (pa_cons (pv 4) pa_nil))))))
    (pss_one (ps_ret (pv 2))))), ?_⟩
  refine ⟨_, rfl, rh, nl, d, rfl, hR, hup, h5, hd.hL, fun A1 H1 s1 hA1 => ?_⟩
  intro x dx nx nd ne
  have hx : upd (upd H1 dx (.own x)) x (.ins c.log dx []) x = some (.ins c.log dx []) := upd_same
  have s2 : Same H1 (upd (upd H1 dx (.own x)) x (.ins c.log dx [])) := fun b o e => by
    rw [upd_ne (ne_of_none e nx), upd_ne (ne_of_none e nd)]
    exact e
  generalize upd (upd H1 dx (.own x)) x (.ins c.log dx []) = H2 at hx s2
  refine ⟨[.ref x, .ref A1.rd], [], rfl, rfl, Nat.zero_le _, fun p np => ?_⟩
  have s3 : Same H2 (upd H2 p (.tup [])) := same_new np
  have s13 := s2.trans s3
  have hA3 := hA1.to (Same.x s13)
  refine ⟨A1, { d with ps := d.ps.take 0 }, x, dx, p, rfl, s3 _ _ hx, ⟨hA3.rd, hA3.wd, hA3.nt⟩, ⟨[], upd_same, rfl, fun i a p h1 _ => by simp at h1⟩, hd.take 0, fun p' pas' H' sx e1 e2 e3 => ⟨rfl, ?_⟩⟩
  have s4 : Same H1 H' := fun b o e => sx _ _ (ne_of_none e nx) (s13 _ _ e)
  have hA4 := hA1.to (Same.x s4)
  have s04 := s1.trans s4
  refine ⟨_, rfl, pt, rfl, ⟨_, SqT.of (s04 _ _ hpt)⟩, for_tup (K := K) (a := pt) (xs := pas.map V.ref) (fun i σ H'' => ∃ (A2 : LogA) (f1 f2 : Option V), σ = [some (.ref rh), some (.ref pt), some (.ref A2.lg), f1, f2] ∧ Same H H'' ∧ LogAt c H'' A2 { d with ps := d.ps.take i })
    ⟨{ A1 with lg := x, dx := dx, pt := p', pas := pas' }, none, none, rfl, s04, ⟨⟨hA4.rd, hA4.wd, hA4.nt⟩, e1, e2, e3⟩⟩ (fun i σ H'' _ ⟨_, _, _, _, sm, _⟩ => SqT.of (sm _ _ hpt)) ?_ ?_⟩
  · rintro i y σ H3 hy ⟨A2, f1, f2, rfl, sm, hA2⟩
    obtain ⟨a, ⟨pb, b⟩, rfl, hp, ha⟩ := pas_get hps hy
    have ht := take_snoc hp
    have hdd : DOk { d with ps := d.ps.take i ++ [(pb, b)] } := by
      rw [← ht]
      exact hd.take (i + 1)
    refine ⟨a, _, rfl, SqT.of (sm _ _ ha), rfl, _, _, rfl, _, _, rfl, rfl, ?_⟩
    refine ⟨_, rfl, A2.lg, A2.dx, _, rfl, hA2.lg, rfl, _, rfl, _, rfl, A2, { d with ps := d.ps.take i }, pb, b, rfl, hA2, hdd, fun A3 H4 s5 hA5 => ?_⟩
    refine ⟨A3, _, _, rfl, sm.trans s5, ?_⟩
    rw [ht]
    exact hA5
  · rintro σ H3 ⟨A2, f1, f2, rfl, sm, hA2⟩
    have hl : (pas.map V.ref).length = d.ps.length := by rw [List.length_map]; exact hps.1
    have et : d.ps.take (pas.map V.ref).length = d.ps := by rw [hl, List.take_length]
    rw [et] at hA2
    exact ⟨_, rfl, q A2 H3 sm hA2⟩
end
end Wp
set_option Elab.async false
set_option linter.all false
set_option maxRecDepth 100000
set_option maxHeartbeats 2000000
set_option pp.maxSteps 400
/-! WpD20: what the law keeps of a plan and of a foe, as data. -/
namespace Wp
open PySem PySem.Spec PyProof.Rows L2 WP
def numDt : V → PyData
  | .int n => .int n
  | _ => .none
/-- a plan's entries, kept -/
structure KeptP (H : Hp) (ka : Addr) (es : RE) (its : List (Addr × Addr)) : Prop where
  ls : H ka = some (.lst (its.map fun t => V.ref t.1))
  len : its.length = es.length
  it : ∀ (i : Nat) (t : Addr × Addr) (e : List Nat × V), its[i]? = some t → es[i]? = some e → H t.1 = some (.tup [.ref t.2, (lkp es e.1).getD .non]) ∧ RowAt H t.2 e.1
def entD (es : RE) (e : List Nat × V) : PyData := .tuple [rowDt e.1, numDt ((lkp es e.1).getD .non)]
def dataP (es : RE) : PyData := .list (es.map (entD es))
theorem KeptP.to {H H' : Hp} {ka : Addr} {es : RE} {its : List (Addr × Addr)} (h : KeptP H ka es its) (k : Keep H H') (e : H' ka = H ka) : KeptP H' ka es its :=
  ⟨e.trans h.ls, h.len, fun i t e h1 h2 => ⟨k _ _ (h.it i t e h1 h2).1 (.tup _), (h.it i t e h1 h2).2.to k⟩⟩
theorem lkp_mem {es : RE} {e : List Nat × V} (h : e ∈ es) : ∃ v, lkp es e.1 = some v ∧ ∃ e' ∈ es, e'.2 = v := by
  unfold lkp
  cases hf : es.find? (fun x => decide (x.1 = e.1)) with
  | none => exact absurd (List.find?_eq_none.mp hf e h) (by simp)
  | some e' => exact ⟨e'.2, rfl, e', List.mem_of_find?_eq_some hf, rfl⟩
theorem dp_list {K : PySem.W.Frag} {H : Hp} : ∀ {xs : List V} {ds : List PyData}, xs.length = ds.length → (∀ (i : Nat) (x : V) (d : PyData), xs[i]? = some x → ds[i]? = some d → Dp K H x d) → DpAll K H xs ds
  | [], [], _, _ => .nil
  | [], _ :: _, h, _ => by simp at h
  | _ :: _, [], h, _ => by simp at h
  | x :: xs, d :: ds, h, hd => .cons (hd 0 x d rfl rfl) (dp_list (by simpa using h) fun i x' d' h1 h2 => hd (i + 1) x' d' (by simpa using h1) (by simpa using h2))
theorem KeptP.dp {K : PySem.W.Frag} {H : Hp} {ka : Addr} {es : RE} {its : List (Addr × Addr)} (h : KeptP H ka es its) (hi : IntsE es) : Dp K H (.ref ka) (dataP es) := by
  refine .lst (SqL.of h.ls) (dp_list (by rw [List.length_map, List.length_map, h.len]) fun i x d h1 h2 => ?_)
  rw [List.getElem?_map] at h1 h2
  obtain ⟨t, ht, rfl⟩ := Option.map_eq_some_iff.mp h1
  obtain ⟨e, he, rfl⟩ := Option.map_eq_some_iff.mp h2
  obtain ⟨a1, a2⟩ := h.it i t e ht he
  obtain ⟨v, hv, e', hm, hv'⟩ := lkp_mem (List.mem_of_getElem? he)
  obtain ⟨n, hn⟩ := hi e' hm
  refine .tup (SqT.of a1) (.cons (dp_row a2) (.cons ?_ .nil))
  rw [hv]
  show Dp K H v (numDt v)
  rw [← hv', hn]
  exact .int _
/-- a foe's entries, kept -/
structure KeptF (H : Hp) (ka : Addr) (es : List FE) (its : List Addr) : Prop where
  ls : H ka = some (.lst (its.map V.ref))
  len : its.length = es.length
  it : ∀ (i : Nat) (t : Addr) (e : FE), its[i]? = some t → es[i]? = some e → H t = some (.tup [.ref e.ka, .bl ((foeVal es e.r e.b).getD false)]) ∧ H e.ka = some (.tup [.ref e.ra, .int (e.b : Int)]) ∧ H e.ra = some (.tup (rv e.r))
def fentD (es : List FE) (e : FE) : PyData := .tuple [.tuple [rowDt e.r, .int (e.b : Int)], .bool ((foeVal es e.r e.b).getD false)]
def dataF (es : List FE) : PyData := .list (es.map (fentD es))
theorem KeptF.to {H H' : Hp} {ka : Addr} {es : List FE} {its : List Addr} (h : KeptF H ka es its) (k : Keep H H') (e : H' ka = H ka) : KeptF H' ka es its :=
  ⟨e.trans h.ls, h.len, fun i t e h1 h2 => ⟨k _ _ (h.it i t e h1 h2).1 (.tup _), k _ _ (h.it i t e h1 h2).2.1 (.tup _), k _ _ (h.it i t e h1 h2).2.2 (.tup _)⟩⟩
theorem KeptF.dp {K : PySem.W.Frag} {H : Hp} {ka : Addr} {es : List FE} {its : List Addr} (h : KeptF H ka es its) : Dp K H (.ref ka) (dataF es) := by
  refine .lst (SqL.of h.ls) (dp_list (by rw [List.length_map, List.length_map, h.len]) fun i x d h1 h2 => ?_)
  rw [List.getElem?_map] at h1 h2
  obtain ⟨t, ht, rfl⟩ := Option.map_eq_some_iff.mp h1
  obtain ⟨e, he, rfl⟩ := Option.map_eq_some_iff.mp h2
  obtain ⟨a1, a2, a3⟩ := h.it i t e ht he
  exact .tup (SqT.of a1) (.cons (.tup (SqT.of a2) (.cons (dp_row a3) (.cons (.int _) .nil))) (.cons (.bl _) .nil))
/-! ### they can be laid -/
theorem lay_map {α : Type} {f : α → PyData} : ∀ {l : List α}, (∀ x ∈ l, PyData.canLay0 (f x) = true) → PyData.canLayAll0 (l.map f) = true
  | [], _ => rfl
  | x :: l, h => by
    show (PyData.canLay0 (f x) && PyData.canLayAll0 (l.map f)) = true
    rw [lay_map (l := l) fun y hy => h y (List.mem_cons_of_mem _ hy), h x (List.mem_cons_self ..)]
    rfl
theorem dep_map {α : Type} {f : α → PyData} {n : Nat} : ∀ {l : List α}, (∀ x ∈ l, PyData.depth (f x) ≤ n) → PyData.depthAll (l.map f) ≤ n
  | [], _ => Nat.zero_le _
  | x :: l, h => by
    show max (PyData.depth (f x)) (PyData.depthAll (l.map f)) ≤ n
    have h1 := h x (List.mem_cons_self ..)
    have h2 := dep_map (l := l) fun y hy => h y (List.mem_cons_of_mem _ hy)
    omega
theorem lay_num (v : V) : PyData.canLay0 (numDt v) = true := by
  cases v <;> rfl
theorem dep_num (v : V) : PyData.depth (numDt v) = 0 := by
  cases v <;> rfl
theorem dep_row (r : List Nat) : (rowDt r).depth = 1 := by
  show PyData.depthAll (numsD r) + 1 = 1
  rw [dep_nums]
theorem lay_row (r : List Nat) : (rowDt r).canLay0 = true := lay_nums r
theorem lay_P (es : RE) : PyData.canLay0 (dataP es) = true := lay_map fun e _ => by
  show (PyData.canLay0 (rowDt e.1) && (PyData.canLay0 (numDt ((lkp es e.1).getD .non)) && true)) = true
  rw [lay_row, lay_num]
  rfl
theorem dep_P (es : RE) : PyData.depth (dataP es) ≤ 3 := by
  show PyData.depthAll (es.map (entD es)) + 1 ≤ 3
  have := dep_map (f := entD es) (n := 2) (l := es) fun e _ => by
    show max (PyData.depth (rowDt e.1)) (max (PyData.depth (numDt ((lkp es e.1).getD .non))) 0) + 1 ≤ 2
    rw [dep_row, dep_num]
    decide
  omega
theorem lay_F (es : List FE) : PyData.canLay0 (dataF es) = true := lay_map fun e _ => by
  show ((PyData.canLay0 (rowDt e.r) && true) && true) = true
  rw [lay_row]
  rfl
theorem dep_F (es : List FE) : PyData.depth (dataF es) ≤ 4 := by
  show PyData.depthAll (es.map (fentD es)) + 1 ≤ 4
  have := dep_map (f := fentD es) (n := 3) (l := es) fun e _ => by
    show max (max (PyData.depth (rowDt e.r)) (max 0 0) + 1) (max 0 0) + 1 ≤ 3
    rw [dep_row]
    decide
  omega
/-- both -/
def dataK (es : RE) (fs : List FE) : PyData := .tuple [dataP es, dataF fs]
theorem shaped_K (es : RE) (fs : List FE) : SeqAt.shaped (dataK es fs) = true ∧ PyData.eqv (dataK es fs) (dataK es fs) = true := by
  have hl : PyData.canLay0 (dataK es fs) = true := by
    show (PyData.canLay0 (dataP es) && (PyData.canLay0 (dataF fs) && true)) = true
    rw [lay_P, lay_F]
    rfl
  refine ⟨?_, SeqAt.eqv_refl _ hl⟩
  unfold SeqAt.shaped
  rw [hl]
  have h1 := dep_P es
  have h2 := dep_F fs
  have h : PyData.depth (dataK es fs) ≤ 64 := by
    show max (PyData.depth (dataP es)) (max (PyData.depth (dataF fs)) 0) + 1 ≤ 64
    omega
  rw [decide_eq_true h]
  rfl
/-- what a play tells -/
def pairD (p : Nat × Bool) : PyData := .tuple [.int (p.1 : Int), .bool p.2]
def dataC (v : Nat) (ps : List (Nat × Bool)) : PyData := .tuple [.int (v : Int), .list (ps.map pairD)]
theorem dp_C {K : PySem.W.Frag} {H : Hp} {t l : Addr} {as : List Addr} {v : Nat} {ps : List (Nat × Bool)} (ht : H t = some (.tup [.int (v : Nat), .ref l])) (hl : H l = some (.lst (as.map V.ref))) (hp : PairsAt H as ps) : Dp K H (.ref t) (dataC v ps) := by
  refine .tup (SqT.of ht) (.cons (.int _) (.cons (.lst (SqL.of hl) (dp_list (by rw [List.length_map, List.length_map, hp.1]) fun i x d h1 h2 => ?_)) .nil))
  rw [List.getElem?_map] at h1 h2
  obtain ⟨a, ha, rfl⟩ := Option.map_eq_some_iff.mp h1
  obtain ⟨p, hpp, rfl⟩ := Option.map_eq_some_iff.mp h2
  exact .tup (SqT.of (hp.2 i a p ha hpp)) (.cons (.int _) (.cons (.bl _) .nil))
theorem shaped_C (v : Nat) (ps : List (Nat × Bool)) : SeqAt.shaped (dataC v ps) = true ∧ PyData.eqv (dataC v ps) (dataC v ps) = true := by
  have hl : PyData.canLay0 (dataC v ps) = true := by
    show (true && (PyData.canLayAll0 (ps.map pairD) && true)) = true
    rw [lay_map (f := pairD) fun _ _ => rfl]
    rfl
  refine ⟨?_, SeqAt.eqv_refl _ hl⟩
  unfold SeqAt.shaped
  rw [hl]
  have h1 := dep_map (f := pairD) (n := 1) (l := ps) fun _ _ => Nat.le_refl _
  have h : PyData.depth (dataC v ps) ≤ 64 := by
    show max 0 (max (PyData.depthAll (ps.map pairD) + 1) 0) + 1 ≤ 64
    omega
  rw [decide_eq_true h]
  rfl
end Wp
set_option Elab.async false
set_option linter.all false
set_option maxRecDepth 100000
set_option maxHeartbeats 2000000
set_option pp.maxSteps 400
/-! WpD21: [(key, d[key]) for key in d], read. -/
namespace Wp
open PySem PySem.Spec PyProof.Rows L2 WP
theorem wipe_one {σ : L2.St} {x : Option V} (n : Nat) : wipe ((wipe σ [n]).set n x) [n] = wipe σ [n] := by
  show (((σ.set n none).set n x).set n none) = σ.set n none
  rw [List.set_set, List.set_set]
theorem slot_one {σ : L2.St} {x : Option V} {n : Nat} (h : n < σ.length) : ((wipe σ [n]).set n x)[n]? = some x := by
  show ((σ.set n none).set n x)[n]? = some x
  rw [List.getElem?_set_self (by rw [List.length_set]; exact h)]
theorem slot_oth {σ : L2.St} {x : Option V} {n m : Nat} (h : n ≠ m) : ((wipe σ [n]).set n x)[m]? = σ[m]? := by
  show ((σ.set n none).set n x)[m]? = σ[m]?
  rw [List.getElem?_set_ne h, List.getElem?_set_ne h]
theorem rkE_get {es : RE} {i : Nat} {k : List Key} {v : V} (h : (rkE es)[i]? = some (k, v)) : ∃ e, es[i]? = some e ∧ k = rk e.1 ∧ v = e.2 := by
  unfold rkE at h
  rw [List.getElem?_map] at h
  obtain ⟨e, he, h2⟩ := Option.map_eq_some_iff.mp h
  cases h2
  exact ⟨e, he, rfl, rfl⟩
theorem kept_plan {σ : L2.St} {H : Hp} {Q : VK} {a n : Nat} {pd : Addr} {es : RE} (ha : σ[a]? = some (some (.ref pd))) (hn : n < σ.length) (hna : n ≠ a) (hpd : RowD H pd es) (hl : es.length ≤ 5000000)
    (q : ∀ ka its H', Same H H' → H ka = none → KeptP H' ka es its → Q (.ref ka) H') :
    tLockE (tLc (iKeys (tVar a)) (gName n) tYes (tTup (tCons (tVar n) (tCons (tDGet (tVar a) (tVar n)) tNil))) [n]) σ H Q := by
  refine ⟨pd, .dT (rkE es), hpd, True.intro, fun od => ?_⟩
  have h1 : upd H pd (.frz od (.dT (rkE es))) pd = some (.frz od (.dT (rkE es))) := upd_same
  have o1 : ∀ b o, b ≠ pd → H b = some o → upd H pd (.frz od (.dT (rkE es))) b = some o := fun b o n e => (upd_ne n).trans e
  have b1 : ∀ b, b ≠ pd → upd H pd (.frz od (.dT (rkE es))) b = H b := fun b n => upd_ne n
  generalize upd H pd (.frz od (.dT (rkE es))) = H1 at h1 o1 b1
  refine ⟨_, ha, pd, od, rfl, .inr ⟨_, h1, fun D nD => ?_⟩⟩
  have nDp : D ≠ pd := fun z => by rw [z, h1] at nD; cases nD
  have s1 : Same H1 (upd H1 D (.lst [])) := same_new nD
  have hkl : (rkE es).length = es.length := List.length_map _
  refine lc_it walk_keysT (fun i H' => Same H1 H' ∧ ∃ its : List (Addr × Addr), H' D = some (.lst (its.map fun t => V.ref t.1)) ∧ its.length = i ∧ ∀ (j : Nat) (t : Addr × Addr) (e : List Nat × V), its[j]? = some t → es[j]? = some e → H' t.1 = some (.tup [.ref t.2, (lkp es e.1).getD .non]) ∧ RowAt H' t.2 e.1)
    ⟨s1, [], upd_same, rfl, fun j t e z => by simp at z⟩ (fun i H' _ ⟨s2, _⟩ => s2 _ _ h1) ?_ ?_
  · rintro i x HH H2 hi ⟨s2, its, hD, hlen, hit⟩ ⟨rfl, k, v, qa, hk, rfl, hq⟩
    obtain ⟨e, he, rfl, rfl⟩ := rkE_get hk
    have hra : RowAt H2 qa e.1 := by
      unfold RowAt
      rw [← rk_rv]
      exact hq
    obtain ⟨v, hv, _⟩ := lkp_mem (List.mem_of_getElem? he)
    refine ⟨wipe_one n, _, slot_one hn, _, (slot_oth hna).trans ha, _, slot_one hn, pd, v, rfl, .inr ⟨rkE es, rk e.1, qa, .inr ⟨od, s2 _ _ h1⟩, rfl, hq, by rw [valV_rk, hv]⟩, by show 2 ≤ sizeLine; decide, fun t nt => ?_⟩
    have s3 : Same H2 (upd H2 t (.tup [.ref qa, v])) := same_new nt
    have ht : upd H2 t (.tup [.ref qa, v]) t = some (.tup [.ref qa, v]) := upd_same
    generalize upd H2 t (.tup [.ref qa, v]) = H3 at s3 ht
    refine ⟨_, s3 _ _ hD, by rw [List.length_map, hlen]; exact small_m (by omega), Same.mut (s2.trans s3) nD, its ++ [(t, qa)], ?_, by rw [List.length_append, hlen]; rfl, fun j t' e' h2 h3 => ?_⟩
    · rw [upd_same, List.map_append]
      rfl
    · have k4 : Keep H3 (upd H3 D (.lst (its.map (fun t => V.ref t.1) ++ [.ref t]))) := Keep.upd (s3 _ _ hD) not_lst
      by_cases hj : j < its.length
      · rw [List.getElem?_append_left hj] at h2
        obtain ⟨c1, c2⟩ := hit j t' e' h2 h3
        exact ⟨k4 _ _ (s3 _ _ c1) (.tup _), (c2.to (Same.x s3)).to k4⟩
      · rw [List.getElem?_append_right (by omega)] at h2
        have e2 : j - its.length = 0 := by
          have := (List.getElem?_eq_some_iff.mp h2).1
          rw [List.length_singleton] at this
          omega
        rw [e2] at h2
        cases h2
        have hji : j = i := by omega
        rw [hji, he] at h3
        cases h3
        refine ⟨?_, (hra.to (Same.x s3)).to k4⟩
        rw [hv]
        exact k4 _ _ ht (.tup _)
  · rintro H2 ⟨s2, its, hD, hlen, hit⟩
    have h2 := s2 _ _ h1
    refine ⟨h2, q D its _ (fun b o e => ?_) ?_ ⟨(upd_ne nDp).trans hD, by rw [hlen, hkl], fun j t e z1 z2 => ?_⟩⟩
    · by_cases hb : b = pd
      · subst hb
        rw [show H b = some _ from hpd] at e
        rw [upd_same]
        exact e
      · rw [upd_ne hb]
        exact s2 _ _ (o1 b o hb e)
    · rw [← b1 D nDp]
      exact nD
    · have k3 : Keep H2 (upd H2 pd (.dT (rkE es))) := Keep.upd h2 (fun z => by cases z)
      obtain ⟨c1, c2⟩ := hit j t e z1 z2
      exact ⟨k3 _ _ c1 (.tup _), c2.to k3⟩
theorem kept_foe {P : Program} {w : World} {σ : L2.St} {H : Hp} {Q : VK} {a n : Nat} {fa : Addr} {es : List FE} (ha : σ[a]? = some (some (.ref fa))) (hn : n < σ.length) (hna : n ≠ a) (hfa : FoeAt P w H fa es)
    (q : ∀ ka its H', Same H H' → H ka = none → KeptF H' ka es its → Q (.ref ka) H') :
    tLockE (tLc (iKeysF P w (tVar a)) (gName n) tYes (tTup (tCons (tVar n) (tCons (tFGet P w (tVar a) (tVar n)) tNil))) [n]) σ H Q := by
  refine ⟨fa, foeO P w fa es, hfa.ob, True.intro, fun od => ?_⟩
  have h1 : upd H fa (.frz od (foeO P w fa es)) fa = some (.frz od (foeO P w fa es)) := upd_same
  have o1 : ∀ b o, b ≠ fa → H b = some o → upd H fa (.frz od (foeO P w fa es)) b = some o := fun b o n e => (upd_ne n).trans e
  have b1 : ∀ b, b ≠ fa → upd H fa (.frz od (foeO P w fa es)) b = H b := fun b n => upd_ne n
  generalize upd H fa (.frz od (foeO P w fa es)) = H1 at h1 o1 b1
  have nft : ∀ {b : Addr} {xs : List V}, H b = some (.tup xs) → b ≠ fa := fun e z => foeO_tup hfa.ob _ (z ▸ e)
  have keys : ∀ e ∈ es, H1 e.ka = some (.tup [.ref e.ra, .int (e.b : Int)]) ∧ H1 e.ra = some (.tup (rv e.r)) := fun e he => ⟨o1 _ _ (nft (hfa.en.key e he).1) (hfa.en.key e he).1, o1 _ _ (nft (hfa.en.key e he).2) (hfa.en.key e he).2⟩
  have en1 : ∀ {H' : Hp}, Same H1 H' → FoeRd P w H' fa es := fun s => ⟨.inr ⟨od, s _ _ h1⟩, hfa.en.big, hfa.en.sys, fun e he => ⟨s _ _ (keys e he).1, s _ _ (keys e he).2⟩, hfa.en.nd⟩
  refine ⟨_, ha, fa, od, es, rfl, hfa.en.sys, h1, fun D nD => ?_⟩
  have nDp : D ≠ fa := fun z => by rw [z, h1] at nD; cases nD
  have s1 : Same H1 (upd H1 D (.lst [])) := same_new nD
  refine lc_it walk_foe (fun i H' => Same H1 H' ∧ ∃ its : List Addr, H' D = some (.lst (its.map V.ref)) ∧ its.length = i ∧ ∀ (j : Nat) (t : Addr) (e : FE), its[j]? = some t → es[j]? = some e → H' t = some (.tup [.ref e.ka, .bl ((foeVal es e.r e.b).getD false)]))
    ⟨s1, [], upd_same, rfl, fun j t e z => by simp at z⟩ (fun i H' _ ⟨s2, _⟩ => s2 _ _ h1) ?_ ?_
  · rintro i x HH H2 hi ⟨s2, its, hD, hlen, hit⟩ ⟨rfl, e, he, rfl⟩
    have hem := List.mem_of_getElem? he
    obtain ⟨k1, k2⟩ := keys e hem
    have hvs : (foeVal es e.r e.b).isSome = true := by
      unfold foeVal
      cases hf : es.find? (fun x => decide (x.r = e.r ∧ x.b = e.b)) with
      | none => exact absurd (List.find?_eq_none.mp hf e hem) (by simp)
      | some e' => rfl
    obtain ⟨v, hv⟩ := Option.isSome_iff_exists.mp hvs
    refine ⟨wipe_one n, _, slot_one hn, _, (slot_oth hna).trans ha, _, slot_one hn, fa, e.ka, e.r, e.b, es, v, rfl, rfl, en1 s2, ⟨e.ra, s2 _ _ k1, s2 _ _ k2⟩, hv, by show 2 ≤ sizeLine; decide, fun t nt => ?_⟩
    have s3 : Same H2 (upd H2 t (.tup [.ref e.ka, .bl v])) := same_new nt
    have ht : upd H2 t (.tup [.ref e.ka, .bl v]) t = some (.tup [.ref e.ka, .bl v]) := upd_same
    generalize upd H2 t (.tup [.ref e.ka, .bl v]) = H3 at s3 ht
    refine ⟨_, s3 _ _ hD, ?_, Same.mut (s2.trans s3) nD, its ++ [t], ?_, by rw [List.length_append, hlen]; rfl, fun j t' e' h2 h3 => ?_⟩
    · rw [List.length_map, hlen]
      have := hfa.en.big
      omega
    · rw [upd_same, List.map_append]
      rfl
    · have k4 : Keep H3 (upd H3 D (.lst (its.map V.ref ++ [.ref t]))) := Keep.upd (s3 _ _ hD) not_lst
      by_cases hj : j < its.length
      · rw [List.getElem?_append_left hj] at h2
        exact k4 _ _ (s3 _ _ (hit j t' e' h2 h3)) (.tup _)
      · rw [List.getElem?_append_right (by omega)] at h2
        have e2 : j - its.length = 0 := by
          have := (List.getElem?_eq_some_iff.mp h2).1
          rw [List.length_singleton] at this
          omega
        rw [e2] at h2
        cases h2
        have hji : j = i := by omega
        rw [hji, he] at h3
        cases h3
        rw [hv]
        exact k4 _ _ ht (.tup _)
  · rintro H2 ⟨s2, its, hD, hlen, hit⟩
    have h2 := s2 _ _ h1
    refine ⟨h2, q D its _ (fun b o e => ?_) ?_ ⟨(upd_ne nDp).trans hD, hlen, fun j t e z1 z2 => ?_⟩⟩
    · by_cases hb : b = fa
      · subst hb
        rw [hfa.ob] at e
        rw [upd_same]
        exact e
      · rw [upd_ne hb]
        exact s2 _ _ (o1 b o hb e)
    · rw [← b1 D nDp]
      exact nD
    · have k3 : Keep H2 (upd H2 fa (foeO P w fa es)) := Keep.upd h2 (fun z => by cases z)
      obtain ⟨c1, c2⟩ := keys e (List.mem_of_getElem? z2)
      exact ⟨k3 _ _ (hit j t e z1 z2) (.tup _), k3 _ _ (s2 _ _ c1) (.tup _), k3 _ _ (s2 _ _ c2) (.tup _)⟩
end Wp
set_option Elab.async false
set_option linter.all false
set_option maxRecDepth 100000
set_option maxHeartbeats 2000000
set_option pp.maxSteps 400
/-! WpD22: the law. -/
namespace Wp
open PySem PySem.Spec PyProof.Rows L2 WP
def spE (c : Cs) (Ts : List (Addr × Str)) : Sp := fun vs H Q _ => ∃ (A : LogA) (d : LogD) (pp dp pa ps : Nat) (a : Addr), vs = [.ref A.lg, .ref pp, .ref a] ∧ LogOk c H A d ∧ PriceAt c H pp dp pa ps ∧ RowAt H a (rowOf d) ∧ LamX.Tabs Ts H ∧
  ∀ H', Q (.bl true) H'
def spLaw (K : PySem.W.Frag) (Ts : List (Addr × Str)) : Sp := fun vs H Q _ => ∃ (sa : Addr) (zs : List Int), vs = [.ref sa] ∧ SqL K H sa (zs.map V.int) ∧ zs.length ≤ 63 ∧ LamX.Tabs Ts H ∧ ∀ H', Q (.bl true) H'
/-- all but the script's state and the tables stay -/
structure LSt (Ts : List (Addr × Str)) (st : Addr) (H H' : Hp) : Prop where
  ext : ∀ b o, b ≠ st → H b = some o → (∀ ps, o ≠ .tbl ps) → H' b = some o
  st : StAt H' st
  tb : LamX.Tabs Ts H'
theorem LSt.keep {Ts : List (Addr × Str)} {st : Addr} {H H' : Hp} (h : LSt Ts st H H') (h0 : StAt H st) : Keep H H' := fun b o e f => by
  obtain ⟨_, _, _, _, h0⟩ := h0
  refine h.ext b o (fun z => ?_) e (fun ps z => by subst z; cases f)
  subst z
  rw [h0] at e
  cases e
  cases f
theorem Tabs.st {Ts : List (Addr × Str)} {H H' : Hp} {td : Addr} (h : LamX.Tabs Ts H) (e : StAt H td) (s : SameX td H H') : LamX.Tabs Ts H' := fun p hp => by
  obtain ⟨_, _, _, _, e⟩ := e
  obtain ⟨ps, h1, h2, h3⟩ := h p hp
  refine ⟨ps, s _ _ (fun z => ?_) h1, h2, fun pos cv hc => ?_⟩
  · rw [z, e] at h1
    cases h1
  · obtain ⟨cc, h4, h5⟩ := h3 pos cv hc
    refine ⟨cc, h4, s _ _ (fun z => ?_) h5⟩
    rw [z, e] at h5
    cases h5
theorem Tabs.same {Ts : List (Addr × Str)} {H H' : Hp} (h : LamX.Tabs Ts H) (s : Same H H') : LamX.Tabs Ts H' := fun p hp => by
  obtain ⟨ps, h1, h2, h3⟩ := h p hp
  refine ⟨ps, s _ _ h1, h2, fun pos cv hc => ?_⟩
  obtain ⟨cc, h4, h5⟩ := h3 pos cv hc
  exact ⟨cc, h4, s _ _ h5⟩
theorem LSt.sx {Ts : List (Addr × Str)} {st : Addr} {H H1 H2 : Hp} (h : LSt Ts st H H1) (s : SameX st H1 H2) (e : StAt H2 st) : LSt Ts st H H2 :=
  ⟨fun b o n z u => s b o n (h.ext b o n z u), e, Tabs.st h.tb h.st s⟩
theorem LSt.same {Ts : List (Addr × Str)} {st : Addr} {H H1 H2 : Hp} (h : LSt Ts st H H1) (s : Same H1 H2) : LSt Ts st H H2 := h.sx (SameX.of s) (h.st.to s)
theorem LSt.n {Ts : List (Addr × Str)} {st : Addr} {H H1 H2 : Hp} (h : LSt Ts st H H1) (s : LamX.ExtN H1 H2) (e : LamX.Tabs Ts H2) : LSt Ts st H H2 :=
  ⟨fun b o n z u => s b o (h.ext b o n z u) u, by
    obtain ⟨x1, x2, x3, x4, z⟩ := h.st
    exact ⟨x1, x2, x3, x4, s _ _ z (fun ps u => by cases u)⟩, e⟩
theorem FoeAt.sx {P : Program} {w : World} {H H' : Hp} {a st : Addr} {es : List FE} (h : FoeAt P w H a es) (h0 : StAt H st) (s : SameX st H H') : FoeAt P w H' a es := by
  obtain ⟨_, _, _, _, e⟩ := h0
  refine h.keep (SameX.keep s e not_lst) ((s _ _ (fun z => ?_) h.ob).trans h.ob.symm)
  have := h.ob
  rw [z, e] at this
  cases this
theorem RowD.sx {H H' : Hp} {a st : Addr} {es : RE} (h : RowD H a es) (h0 : StAt H st) (s : SameX st H H') : RowD H' a es := by
  obtain ⟨_, _, _, _, e⟩ := h0
  have h1 : H a = some _ := h
  refine s _ _ (fun z => ?_) h1
  rw [z, e] at h1
  cases h1
theorem RowD.n {H H' : Hp} {a : Addr} {es : RE} (h : RowD H a es) (s : LamX.ExtN H H') : RowD H' a es := s _ _ h (fun ps z => by cases z)
theorem LSt.scr {Ts : List (Addr × Str)} {K : PySem.W.Frag} {st sa : Addr} {H H' : Hp} {xs : List V} (h : LSt Ts st H H') (e : Scr K st H sa xs) : Scr K st H' sa xs := by
  rcases e with ⟨e | ⟨o, e⟩, n⟩ | e
  · exact .inl ⟨.inl (h.ext _ _ n e (fun ps z => by cases z)), n⟩
  · exact .inl ⟨.inr ⟨o, h.ext _ _ n e (fun ps z => by cases z)⟩, n⟩
  · exact .inr e
theorem LSt.road {Ts : List (Addr × Str)} {st rh nl : Addr} {H H' : Hp} {d : LogD} (h : LSt Ts st H H') (h0 : StAt H st) (e : RoadL st H rh nl d) : RoadL st H' rh nl d :=
  ⟨h.keep h0 _ _ e.rt (.tup _), h.ext _ _ e.ne e.ls (fun ps z => by cases z), e.ne⟩
section
variable {P : Program} {w : World} {K : PySem.W.Frag} {mg : Str → Option Value} {base : Heap} {c : Cs} {Ts : List (Addr × Str)}
theorem scLaw : FnScope ["_law_script", "_law_state", "_law_road_here", "_law_pairs", "_law_prices_here", "_law_log_here", "_law_priced", "_law_start_here", "_law_least", "_law_k", "_law_plan", "_law_foe", "_law_due", "_law_kept", "_law_told", "_law_low", "_law_high", "_law_key"] ["_law_script"] (defScope (topS 85)) := ⟨rfl, rfl, rfl, by decide +kernel, rfl, by decide +kernel, by decide +kernel⟩
/-- a def of the text that raises nothing: f, fd are given ahead of the base -/
theorem ok_mk {x : Str} {i : Nat} {N ps : List Str} {k : Nat} {sp : Sp} {f : Addr} {fd : FuncData} (F : FunD K x x (defArgs (topS i)) (defBody (topS i)) (defScope (topS i)) [] [] f fd) (S : FnScope N ps (defScope (topS i))) (len : ∀ vs H Q E, sp vs H Q E → vs.length = ps.length)
    (hbody : ∀ (f : Addr) (cdv : Value) (A : Around) (outer : List Env) (s : Shared) (H : Hp) (vs : List V) (Q : VK) (E : XK), Room k (A.deeper (envOfC x (defScope (topS i)) s.heap.objs.size f cdv)) → sp vs H Q E →
      ∃ t, PSs (cxOf CX0 P w K mg base N x (defScope (topS i)) f cdv A outer s H E).nox (defBody (topS i)) t ∧ t { nx := fun _ H' => Q .non H', rt := Q } (start N vs) H) : FnOk P w K mg base CX0 (k + 1) f fd ps sp :=
  F.ok S len fun cdv A outer s H vs Q E hr hs => by
    obtain ⟨t, h, q⟩ := hbody f cdv A outer s H vs Q E hr hs
    exact ⟨t, h.nox, q⟩
theorem fn_law {f : Addr} {fd : FuncData} (T : Txt K mg c) (R : ByR K mg base Ts) (F : FunD K "law" "law" (defArgs (topS 85)) (defBody (topS 85)) (defScope (topS 85)) [] [] f fd) (hE : C8.Cal P w K mg base 10 "_law_errors" (spE c Ts) []) : FnOk P w K mg base CX0 11 f fd ["_law_script"] (spLaw K Ts) := by
  refine ok_mk F scLaw (fun vs H Q E h => ?_) (fun f cdv A outer s H vs Q E hr h => ?_)
  · obtain ⟨sa, zs, rfl, _⟩ := h
    rfl
  obtain ⟨sa, zs, rfl, hs, hz, hT, q⟩ := h
  refine ⟨_, (pss_cons (ps_set (i := 1) scLaw.nd rfl (.inl rfl) (C8.pe_c (cal_ls T) hr (by decide) rfl (pa_cons (pv 0) pa_nil)))
    (pss_cons (ps_asg (C8.pe_c (cal_fi T) hr (by decide) rfl (pa_cons (pv 0) (pa_cons (pv 1) pa_nil))) (pg_tup rfl (pgs_cons (pg_name (i := 2) scLaw.nd rfl (.inl rfl)) (pgs_cons (pg_name (i := 3) scLaw.nd rfl (.inl rfl)) (pgs_cons (pg_name (i := 4) scLaw.nd rfl (.inl rfl)) pgs_nil)))))
    (pss_cons (ps_set (i := 5) scLaw.nd rfl (.inl rfl) (C8.pe_c (cal_llg T) hr (by decide) rfl (pa_cons (pv 2) (pa_cons (pv 3) pa_nil))))
    (pss_cons (ps_set (i := 6) scLaw.nd rfl (.inl rfl) (C8.pe_mk (init_pi T) hr (by decide) rfl (pa_cons (pe_ix ix_tup (pv 4) pe_int (fun _ _ => rfl)) (pa_cons (pe_ix ix_tup (pv 4) pe_int (fun _ _ => rfl)) pa_nil))))
    (pss_cons (ps_set (i := 7) scLaw.nd rfl (.inl rfl) (C8.pe_c (cal_lro T) hr (by decide) rfl (pa_cons (pv 2) (pa_cons (pv 3) pa_nil))))
    (pss_cons (ps_set (i := 8) scLaw.nd rfl (.inl rfl) (C8.pe_c (cal_lc T) hr (by decide) rfl (pa_cons (pv 5) (pa_cons (pv 6) pa_nil))))
    (pss_cons (ps_for PassesOwn.never rfl (pi_range1 rfl T.bRange (pa_cons pe_int pa_nil)) (pg_name (i := 9) scLaw.nd rfl (.inl rfl))
    (pss_cons (ps_set (i := 10) scLaw.nd rfl (.inr rfl) (C8.pe_c (cal_tp T) hr (by decide) rfl (pa_cons (pv 5) (pa_cons (pv 6) pa_nil))))
    (pss_cons (ps_set (i := 11) scLaw.nd rfl (.inr rfl) (C8.pe_c (cal_tf T) hr (by decide) rfl (pa_cons (pv 5) (pa_cons (pv 6) pa_nil))))
    (pss_cons (ps_if (pt_cmpR op_eq (pe_op op_mod (pv 9) pe_int) pe_int (nomark _)) (pss_one (ps_set (i := 10) scLaw.nd rfl (.inr rfl) (C8.pe_c (cal_dp T) hr (by decide) rfl (pa_cons (pv 0) (pa_cons (pv 1) (pa_cons (pv 2) (pa_cons (pv 7) pa_nil))))))) pss_nil)
    (pss_cons (ps_if (pt_cmpR op_gt (pv 9) pe_int (nomark _)) (pss_one (ps_asg (C8.pe_c (cal_df T) hr (by decide) rfl (pa_cons (pv 0) (pa_cons (pv 1) (pa_cons (pv 2) (pa_cons (pv 7) (pa_cons (pe_un un_neg pe_int) pa_nil)))))) (pg_tup rfl (pgs_cons (pg_name (i := 11) scLaw.nd rfl (.inr rfl)) (pgs_cons (pg_name (i := 12) scLaw.nd rfl (.inl rfl)) pgs_nil))))) pss_nil)
    (pss_cons (ps_set (i := 13) scLaw.nd rfl (.inl rfl) (pe_tup (pa_cons (pe_lock (pe_lc (own := [("_law_key", 17)]) (g := gName 17) (tt := tYes) rfl scLaw.nd (pi_keys (pv 10)) (blkOk_by (N := ["_law_script", "_law_state", "_law_road_here", "_law_pairs", "_law_prices_here", "_law_log_here", "_law_priced", "_law_start_here", "_law_least", "_law_k", "_law_plan", "_law_foe", "_law_due", "_law_kept", "_law_told", "_law_low", "_law_high", "_law_key"]) (sc := (defScope (topS 85))) (by decide +kernel)) (fun _ _ _ _ _ => pg_name (i := 17) scLaw.nd rfl (.inl rfl)) (fun _ _ _ _ _ => pts_nil) (fun _ _ _ _ _ => pe_tup (pa_cons (pv 17) (pa_cons (pe_dget (hu_of hr) (pv 10) (pv 17) (fun _ _ => rfl)) pa_nil))))) (pa_cons (pe_lock (pe_lc (te := tTup (tCons (tVar 17) (tCons (tFGet P w (tVar 11) (tVar 17)) tNil))) (wi := iKeysF P w (tVar 11)) (own := [("_law_key", 17)]) (g := gName 17) (tt := tYes) rfl scLaw.nd (pi_keysF (pv 11)) (blkOk_by (N := ["_law_script", "_law_state", "_law_road_here", "_law_pairs", "_law_prices_here", "_law_log_here", "_law_priced", "_law_start_here", "_law_least", "_law_k", "_law_plan", "_law_foe", "_law_due", "_law_kept", "_law_told", "_law_low", "_law_high", "_law_key"]) (sc := (defScope (topS 85))) (by decide +kernel)) (fun _ _ _ _ _ => pg_name (i := 17) scLaw.nd rfl (.inl rfl)) (fun _ _ _ _ _ => pts_nil) (fun _ _ _ _ _ => pe_tup (pa_cons (pv 17) (pa_cons (pe_fget (hu100 hr) (pv 11) (pv 17) (fun _ _ => rfl)) pa_nil))))) pa_nil))))
    (pss_cons (ps_set (i := 14) scLaw.nd rfl (.inl rfl) (C8.pe_c (cal_pf T R) hr (by decide) rfl (pa_cons (pv 5) (pa_cons (pv 6) (pa_cons (pv 10) (pa_cons (pv 11) pa_nil))))))
    (pss_cons (ps_if (pt_cmpR (op_neD (Nat.lt_of_succ_lt (hu65 hr))) (pv 14) (C8.pe_c (cal_lc2 T) hr (by decide) rfl (pa_cons (pv 2) (pa_cons (pv 3) (pa_cons (pv 4) (pa_cons (pv 10) (pa_cons (pv 11) pa_nil)))))) (nomark _)) (pss_one (ps_ret pe_bl)) pss_nil)
    (pss_cons (ps_set (i := 15) scLaw.nd rfl (.inl rfl) (C8.pe_c (cal_chf T R) hr (by decide) rfl (pa_cons (pv 5) (pa_cons (pv 6) (pa_cons (pv 11) pa_nil)))))
    (pss_cons (ps_set (i := 16) scLaw.nd rfl (.inl rfl) (C8.pe_c (cal_chp T R) hr (by decide) rfl (pa_cons (pv 5) (pa_cons (pv 6) (pa_cons (pv 10) pa_nil)))))
    (pss_cons (ps_if (PW.pt (pw_or (pt_not (pt_chain op_le op_le (pv 15) (pe_ix ix_tup (pv 14) pe_int (fun _ _ => rfl)) (pv 16))) (pw_or (pt_not (pt_chain op_le op_le (pv 15) (pv 8) (pv 16))) (pw_or1 (PW.pt (pw_and (pt_cmpR op_eq (pv 9) pe_int (nomark _)) (pw_and1 (pt_cmpR op_ne (pe_ix ix_tup (pv 14) pe_int (fun _ _ => rfl)) (pv 8) (nomark _))))))))) (pss_one (ps_ret pe_bl)) pss_nil)
    (pss_one (ps_if (pt_cmpR (op_neD (Nat.lt_of_succ_lt (hu65 hr))) (pe_tup (pa_cons (pe_lock (pe_lc (own := [("_law_key", 17)]) (g := gName 17) (tt := tYes) rfl scLaw.nd (pi_keys (pv 10)) (blkOk_by (N := ["_law_script", "_law_state", "_law_road_here", "_law_pairs", "_law_prices_here", "_law_log_here", "_law_priced", "_law_start_here", "_law_least", "_law_k", "_law_plan", "_law_foe", "_law_due", "_law_kept", "_law_told", "_law_low", "_law_high", "_law_key"]) (sc := (defScope (topS 85))) (by decide +kernel)) (fun _ _ _ _ _ => pg_name (i := 17) scLaw.nd rfl (.inl rfl)) (fun _ _ _ _ _ => pts_nil) (fun _ _ _ _ _ => pe_tup (pa_cons (pv 17) (pa_cons (pe_dget (hu_of hr) (pv 10) (pv 17) (fun _ _ => rfl)) pa_nil))))) (pa_cons (pe_lock (pe_lc (te := tTup (tCons (tVar 17) (tCons (tFGet P w (tVar 11) (tVar 17)) tNil))) (wi := iKeysF P w (tVar 11)) (own := [("_law_key", 17)]) (g := gName 17) (tt := tYes) rfl scLaw.nd (pi_keysF (pv 11)) (blkOk_by (N := ["_law_script", "_law_state", "_law_road_here", "_law_pairs", "_law_prices_here", "_law_log_here", "_law_priced", "_law_start_here", "_law_least", "_law_k", "_law_plan", "_law_foe", "_law_due", "_law_kept", "_law_told", "_law_low", "_law_high", "_law_key"]) (sc := (defScope (topS 85))) (by decide +kernel)) (fun _ _ _ _ _ => pg_name (i := 17) scLaw.nd rfl (.inl rfl)) (fun _ _ _ _ _ => pts_nil) (fun _ _ _ _ _ => pe_tup (pa_cons (pv 17) (pa_cons (pe_fget (hu100 hr) (pv 11) (pv 17) (fun _ _ => rfl)) pa_nil))))) pa_nil))) (pv 13) (nomark _)) (pss_one (ps_ret pe_bl)) pss_nil)))))))))))))
    (pss_one (ps_ret (C8.pe_c (hE) hr (by decide) rfl (pa_cons (pv 5) (pa_cons (pv 6) (pa_cons (pv 7) pa_nil))))))))))))), ?_⟩
  refine ⟨_, rfl, sa, zs, rfl, hs, by omega, fun st H1 s1 nst hst1 => ?_⟩
  have hs1 : Scr K st H1 sa (zs.map V.int) := (Scr.of hs nst).x (SameX.of s1)
  refine ⟨_, rfl, _, rfl, sa, st, zs, rfl, hs1, by omega, hst1, fun fd rh nl pt pr d pa ps H2 sx2 hst2 hF hd hp ha1 ha2 ha3 => ?_⟩
  refine ⟨fd, _, rfl, SqT.of hF.fd, rfl, _, _, rfl, _, _, rfl, _, _, rfl, rfl, ?_⟩
  have hR := hF.ro.v
  have hup : Up d.ns := ⟨hd.lo, by have := hd.hi; omega, fun n hn => by
    obtain ⟨i, hi⟩ := List.getElem?_of_mem hn
    have h1 := hd.ok.1 i n hi
    have h2 := (List.getElem?_eq_some_iff.mp hi).1
    have h3 := hd.hi
    omega, hd.ok.2⟩
  have hdk : DOk d := ⟨by have := hd.hi; omega, hd.hL, hp.mem, by have := hp.few; omega⟩
  have hcan : can d ≠ [] := by
    obtain ⟨w1, h1, h2⟩ := hp.po
    exact List.ne_nil_of_mem (List.mem_filter.mpr ⟨h1, h2⟩)
  refine ⟨_, rfl, _, rfl, rh, nl, pt, d, rfl, hR, hF.pt, hup, hd.hi, hdk, fun A H3 s3 hA => ?_⟩
  refine ⟨_, rfl, pr, _, _, _, rfl, rfl, SqT.of (s3 _ _ hF.pr), atI_nat (j := 0) rfl, _, rfl, pr, _, _, _, rfl, rfl, SqT.of (s3 _ _ hF.pr), atI_nat (j := 1) rfl, ?_⟩
  intro x dx nx nd ne
  have hx : upd (upd H3 dx (.own x)) x (.ins c.prices dx []) x = some (.ins c.prices dx []) := upd_same
  have s4 : Same H3 (upd (upd H3 dx (.own x)) x (.ins c.prices dx [])) := fun b o e => by
    rw [upd_ne (ne_of_none e nx), upd_ne (ne_of_none e nd)]
    exact e
  generalize upd (upd H3 dx (.own x)) x (.ins c.prices dx []) = H4 at hx s4
  refine ⟨x, dx, pa, ps, rfl, hx, by omega, by omega, ha3, fun H5 sx5 hPr => ⟨rfl, ?_⟩⟩
  have s5 : Same H3 H5 := fun b o e => sx5 _ _ (ne_of_none e nx) (s4 _ _ e)
  have s25 := s3.trans s5
  have hA5 : LogOk c H5 A d := ⟨hA.to (Same.x s5), by have := hd.hi; omega, hd.hL, hcan⟩
  refine ⟨_, rfl, _, rfl, rh, nl, pt, d, rfl, hR.to s25, hF.pt.to (Same.x s25), by have := hd.hi; omega, hd.hL, fun a0 H6 s6 ha0 => ?_⟩
  refine ⟨_, rfl, _, rfl, A, d, x, dx, pa, ps, rfl, hA5.to (Same.x s6), hPr.to (Same.x s6), fun H7 s7 => ?_⟩
  have s27 := s25.trans (s6.trans s7)
  have hA7 : LogOk c H7 A d := hA5.to (Same.x (s6.trans s7))
  have hP7 : PriceAt c H7 x dx pa ps := hPr.to (Same.x (s6.trans s7))
  have hR7 : RoadL st H7 rh nl d := hF.ro.to s27
  have hpt7 : TupPs H7 pt d.ps := hF.pt.to (Same.x s27)
  have hpr7 : H7 pr = some (.tup [.int (pa : Nat), .int (ps : Nat)]) := s27 _ _ hF.pr
  have ha7 : RowAt H7 a0 (rowOf d) := ha0.to (Same.x s7)
  have hst7 : StAt H7 st := hst2.to s27
  have hs7 : Scr K st H7 sa (zs.map V.int) := (hs1.x sx2).x (SameX.of s27)
  have hT7 : LamX.Tabs Ts H7 := Tabs.same (Tabs.st (Tabs.same hT s1) hst1 sx2) s27
  have L7 : LSt Ts st H7 H7 := ⟨fun b o _ e _ => e, hst7, hT7⟩
  refine ⟨_, rfl, by decide, by decide, for_range (lo := 0) (n := (4 : Int).toNat) (fun i σ H' => ∃ f9 f10 f11 f12 f13 f14 f15 f16 f17 : Option V, σ = [some (.ref sa), some (.ref st), some (.ref rh), some (.ref pt), some (.ref pr), some (.ref A.lg), some (.ref x), some (.ref a0), some (.int (cost (parOf d pa ps) (rowOf d) : Nat)), f9, f10, f11, f12, f13, f14, f15, f16, f17] ∧ LSt Ts st H7 H')
    ⟨_, _, _, _, _, _, _, _, _, rfl, L7⟩ ?_ ?_⟩
  · rintro k σ Hk hk4 ⟨f9, f10, f11, f12, f13, f14, f15, f16, f17, rfl, Lk⟩
    have kk := Lk.keep hst7
    refine ⟨_, rfl, _, rfl, A, d, x, dx, pa, ps, rfl, hA7.to kk, hP7.to kk, fun pd es S Ha sa1 hpd hie hlen hcov => ?_⟩
    have La := Lk.same sa1
    have ka := La.keep hst7
    refine ⟨_, rfl, _, rfl, A, d, x, dx, pa, ps, rfl, hA7.to ka, hP7.to ka, fun fa fs S2 Hb sb hfo hcf => ?_⟩
    have hpd : RowD Hb pd es := sb _ _ hpd
    have Lb := La.same sb
    have kb := Lb.keep hst7
    refine ⟨_, rfl, _, _, rfl, rfl, (by show (0 : Int) < 2; decide), rfl, _, rfl, ?_⟩
    by_cases h2 : V.int ((0 + ((k : Nat) : Int)) % 2) = V.int 1
    · refine if1 (decide_eq_true h2) ⟨_, rfl, _, rfl, _, rfl, _, rfl, sa, st, zs, rh, nl, a0, d, rowOf d, rfl, Lb.scr hs7, by omega, Lb.st, Lb.road hst7 hR7, hd.hL, ha7.to kb, hA7.ok, fun pd es S Hc sxc hstc hpd hie hlen hcov => ?_⟩
      have hfo := hfo.sx Lb.st sxc
      have Lb := Lb.sx sxc hstc
      obtain ⟨pl, hcov, hgood, htp⟩ : ∃ pl, Covers d.q (d.L + 1) S pl es (rowOf d) ∧ Good pl ∧ (k = 0 → pl = toldPl (parOf d pa ps)) := ⟨_, hcov, plOf_good es, fun z => by
        rw [z] at h2
        exact absurd h2 (by decide)⟩
      clear kb
      have kb := Lb.keep hst7
      refine ⟨_, rfl, _, _, rfl, rfl, _, rfl, ?_⟩
      by_cases h3 : (1 : Int) < 0 + ((k : Nat) : Int)
      · refine if1 (decide_eq_true h3) ⟨_, rfl, _, rfl, _, rfl, _, rfl, _, rfl, sa, st, zs, rh, nl, a0, d, rowOf d, rfl, Lb.scr hs7, by omega, Lb.st, Lb.road hst7 hR7, hd.hL, ha7.to kb, hA7.ok, fun t fa ff fs S2 Hb sxd hstd ht hfo hcf => ?_⟩
        refine ⟨t, _, rfl, SqT.of ht, rfl, _, _, rfl, _, _, rfl, rfl, ?_⟩
        have hpd := RowD.sx hpd Lb.st sxd
        have Lb := Lb.sx sxd hstd
        clear kb
        obtain ⟨fo, hcf, htf⟩ : ∃ fo, CoversF d.q (d.L + 1) S2 fo fs (rowOf d) ∧ (k = 0 → fo = toldFo (parOf d pa ps)) := ⟨_, hcf, fun z => by omega⟩
        dsimp only [tSeq, tAsg, tTup, tCons, tNext]
        refine kept_plan (a := 10) (n := 17) (pd := pd) (es := es) ?_ ?_ (by decide) hpd (by omega) fun ka its He se nka hka => ?_
        · rfl
        · exact (by decide : 17 < 18)
        have Le := Lb.same se
        have hfoe := hfo.to se
        refine kept_foe (a := 11) (n := 17) (fa := fa) (es := fs) ?_ ?_ (by decide) hfoe fun kf itf Hf sf nkf hkf => ?_
        · rfl
        · exact (by decide : 17 < 18)
        have Lf := Le.same sf
        have hfof := hfoe.to sf
        have hpdf : RowD Hf pd es := sf _ _ (se _ _ hpd)
        have hkaf := hka.to (Same.x sf) ((sf _ _ hka.ls).trans hka.ls.symm)
        refine ⟨by show 2 ≤ sizeLine; decide, fun kt nkt => ?_⟩
        have sg : Same Hf (upd Hf kt (.tup [.ref ka, .ref kf])) := same_new nkt
        have hkt : upd Hf kt (.tup [.ref ka, .ref kf]) kt = some (.tup [.ref ka, .ref kf]) := upd_same
        generalize upd Hf kt (.tup [.ref ka, .ref kf]) = Hg at sg hkt
        have Lg := Lf.same sg
        have kg := Lg.keep hst7
        refine ⟨_, rfl, _, rfl, _, rfl, _, rfl, A, d, x, dx, pa, ps, pd, fa, es, S, pl, fs, S2, fo, rfl, hA7.to kg, hP7.to kg, sg _ _ hpdf, hcov, hgood, hfof.to sg, hcf, Lg.tb, fun t l as Hh nh tbh ht hl hps => ?_⟩
        have Lh := Lg.n nh tbh
        have kh := Lh.keep hst7
        have hR8 := (Lh.road hst7 hR7).v
        have hpdh : RowD Hh pd es := RowD.n (sg _ _ hpdf) nh
        have hfoh : FoeAt P w Hh fa fs := FoeAt.x (hfof.to sg) nh
        have h24 : d.ns.length ≤ 24 := by have := hd.hi; omega
        refine ⟨_, rfl, _, rfl, _, rfl, _, rfl, _, rfl, _, rfl, rh, nl, pt, pr, pd, fa, d, pa, ps, es, S, pl, fs, S2, fo, rfl, hR8, hpt7.to kh, kh _ _ hpr7 (.tup _), hpdh, h24, hd.hL, hcan, hcov, hgood, hfoh, hcf, fun t2 l2 as2 Hi si ht2 hl2 hps2 => ?_⟩
        have sc := shaped_C (playC (parOf d pa ps) pl fo (rowOf d)) (course d.q pl fo (rowOf d) (can d))
        refine ⟨_, _, dp_C (si _ _ ht) (si _ _ hl) (hps.to (Same.x si)), dp_C ht2 hl2 hps2, sc.1, sc.1, _, rfl, if0 (by rw [sc.2]; rfl) ?_⟩
        have Li := Lh.same si
        have ki := Li.keep hst7
        have hpdi : RowD Hi pd es := si _ _ hpdh
        have hfoi := hfoh.to si
        refine ⟨_, rfl, _, rfl, _, rfl, A, d, x, dx, pa, ps, fa, fs, S2, fo, rfl, hA7.to ki, hP7.to ki, hfoi, hcf, Li.tb, fun Hj nj tbj => ?_⟩
        have Lj := Li.n nj tbj
        have kj := Lj.keep hst7
        have hpdj := RowD.n hpdi nj
        have hfoj := FoeAt.x hfoi nj
        refine ⟨_, rfl, _, rfl, _, rfl, A, d, x, dx, pa, ps, pd, es, S, pl, rfl, hA7.to kj, hP7.to kj, hpdj, hcov, hgood, Lj.tb, fun Hl nl9 tbl => ?_⟩
        have Ll := Lj.n nl9 tbl
        have kl := Ll.keep hst7
        have hpdl := RowD.n hpdj nl9
        have hfol := FoeAt.x hfoj nl9
        have hok := hA7.ok
        have hL4 : d.L + 1 ≤ 4 := by have := hd.hL; omega
        have q1 := foe_le_play (p := parOf d pa ps) (fo := fo) hL4 hgood _ hok
        have q2 := play_le_plan (p := parOf d pa ps) (fo := fo) hL4 hgood _ hok
        have q3 := foe_le_cost (p := parOf d pa ps) (fo := fo) hL4 _ hok
        have q4 := cost_le_plan (p := parOf d pa ps) hL4 hgood _ hok
        have htl : Hl t = some (.tup [.int (playC (parOf d pa ps) pl fo (rowOf d) : Nat), .ref l]) := nl9 _ _ (nj _ _ (si _ _ ht) (fun ps z => by cases z)) (fun ps z => by cases z)
        refine ⟨_, rfl, _, rfl, t, _, _, _, rfl, rfl, SqT.of htl, atI_nat (j := 0) rfl, _, _, rfl, rfl, _, rfl, if1 (decide_eq_true (by omega)) ⟨_, rfl, _, _, rfl, rfl, _, rfl, ?_⟩⟩
        rw [decide_eq_true (show (playC (parOf d pa ps) pl fo (rowOf d) : Int) ≤ (planC (parOf d pa ps) pl (rowOf d) : Int) by omega)]
        refine if0 rfl ?_
        refine ⟨_, rfl, _, rfl, _, _, rfl, rfl, _, rfl, if1 (decide_eq_true (by omega)) ⟨_, rfl, _, _, rfl, rfl, _, rfl, ?_⟩⟩
        rw [decide_eq_true (show (cost (parOf d pa ps) (rowOf d) : Int) ≤ (planC (parOf d pa ps) pl (rowOf d) : Int) by omega)]
        refine if0 rfl ?_
        refine ⟨_, rfl, rfl, _, rfl, ?_⟩
        by_cases h5 : V.int (0 + ((k : Nat) : Int)) = V.int 0
        · have hk0 : k = 0 := by
            cases k with
            | zero => rfl
            | succ m => exact absurd (V.int.inj h5) (by omega)
          have h6 := told_pays (p := parOf d pa ps) (pl := pl) (fo := fo) hL4 hgood (fun r _ _ => by rw [htp hk0]) (fun r _ b _ _ => by rw [htf hk0]) _ hok
          refine if1 (decide_eq_true h5) ⟨_, rfl, t, _, _, _, rfl, rfl, SqT.of htl, atI_nat (j := 0) rfl, _, rfl, rfl, _, rfl, ?_⟩
          refine if0 (by rw [h6]; exact congrArg (fun z => !z) (decide_eq_true rfl)) ?_
          dsimp only [tSeq, tIfS, tTest, tOp, tTup, tCons, tNext]
          refine kept_plan (a := 10) (n := 17) (pd := pd) (es := es) ?_ ?_ (by decide) hpdl (by omega) fun kb2 itb Hm sm nkb hkb => ?_
          · rfl
          · exact (by decide : 17 < 18)
          refine kept_foe (a := 11) (n := 17) (fa := fa) (es := fs) ?_ ?_ (by decide) (hfol.to sm) fun kc itc Hn sn nkc hkc => ?_
          · rfl
          · exact (by decide : 17 < 18)
          have hkbn := hkb.to (Same.x sn) ((sn _ _ hkb.ls).trans hkb.ls.symm)
          refine ⟨by show 2 ≤ sizeLine; decide, fun ku nku => ?_⟩
          have so : Same Hn (upd Hn ku (.tup [.ref kb2, .ref kc])) := same_new nku
          have hku : upd Hn ku (.tup [.ref kb2, .ref kc]) ku = some (.tup [.ref kb2, .ref kc]) := upd_same
          generalize upd Hn ku (.tup [.ref kb2, .ref kc]) = Ho at so hku
          have sall : Same Hl Ho := sm.trans (sn.trans so)
          have e1 : ∀ b o, Hf b = some o → (∀ ps, o ≠ .tbl ps) → Ho b = some o := fun b o e n => sall _ _ (nl9 _ _ (nj _ _ (si _ _ (nh _ _ (sg _ _ e) n)) n) n)
          have ek : ∀ b o, Hg b = some o → (∀ ps, o ≠ .tbl ps) → Ho b = some o := fun b o e n => sall _ _ (nl9 _ _ (nj _ _ (si _ _ (nh _ _ e n)) n) n)
          have hka9 := hkaf.to (Keep.ext e1) ((e1 _ _ hkaf.ls (fun ps z => by cases z)).trans hkaf.ls.symm)
          have hkf9 := hkf.to (Keep.ext e1) ((e1 _ _ hkf.ls (fun ps z => by cases z)).trans hkf.ls.symm)
          have hkb9 := hkbn.to (Same.x so) ((so _ _ hkbn.ls).trans hkbn.ls.symm)
          have hkc9 := hkc.to (Same.x so) ((so _ _ hkc.ls).trans hkc.ls.symm)
          have sk := shaped_K es fs
          refine ⟨_, rfl, _, _, .tup (SqT.of hku) (.cons (hkb9.dp hie) (.cons hkc9.dp .nil)), .tup (SqT.of (ek _ _ hkt (fun ps z => by cases z))) (.cons (hka9.dp hie) (.cons hkf9.dp .nil)), sk.1, sk.1, _, rfl, if0 ?_ ?_⟩
          · exact (congrArg (fun z => !z) sk.2)
          exact ⟨_, _, _, _, _, _, _, _, _, rfl, Ll.same sall⟩
        · refine if0 (decide_eq_false h5) ?_
          refine if0 rfl ?_
          dsimp only [tSeq, tIfS, tTest, tOp, tTup, tCons, tNext]
          refine kept_plan (a := 10) (n := 17) (pd := pd) (es := es) ?_ ?_ (by decide) hpdl (by omega) fun kb2 itb Hm sm nkb hkb => ?_
          · rfl
          · exact (by decide : 17 < 18)
          refine kept_foe (a := 11) (n := 17) (fa := fa) (es := fs) ?_ ?_ (by decide) (hfol.to sm) fun kc itc Hn sn nkc hkc => ?_
          · rfl
          · exact (by decide : 17 < 18)
          have hkbn := hkb.to (Same.x sn) ((sn _ _ hkb.ls).trans hkb.ls.symm)
          refine ⟨by show 2 ≤ sizeLine; decide, fun ku nku => ?_⟩
          have so : Same Hn (upd Hn ku (.tup [.ref kb2, .ref kc])) := same_new nku
          have hku : upd Hn ku (.tup [.ref kb2, .ref kc]) ku = some (.tup [.ref kb2, .ref kc]) := upd_same
          generalize upd Hn ku (.tup [.ref kb2, .ref kc]) = Ho at so hku
          have sall : Same Hl Ho := sm.trans (sn.trans so)
          have e1 : ∀ b o, Hf b = some o → (∀ ps, o ≠ .tbl ps) → Ho b = some o := fun b o e n => sall _ _ (nl9 _ _ (nj _ _ (si _ _ (nh _ _ (sg _ _ e) n)) n) n)
          have ek : ∀ b o, Hg b = some o → (∀ ps, o ≠ .tbl ps) → Ho b = some o := fun b o e n => sall _ _ (nl9 _ _ (nj _ _ (si _ _ (nh _ _ e n)) n) n)
          have hka9 := hkaf.to (Keep.ext e1) ((e1 _ _ hkaf.ls (fun ps z => by cases z)).trans hkaf.ls.symm)
          have hkf9 := hkf.to (Keep.ext e1) ((e1 _ _ hkf.ls (fun ps z => by cases z)).trans hkf.ls.symm)
          have hkb9 := hkbn.to (Same.x so) ((so _ _ hkbn.ls).trans hkbn.ls.symm)
          have hkc9 := hkc.to (Same.x so) ((so _ _ hkc.ls).trans hkc.ls.symm)
          have sk := shaped_K es fs
          refine ⟨_, rfl, _, _, .tup (SqT.of hku) (.cons (hkb9.dp hie) (.cons hkc9.dp .nil)), .tup (SqT.of (ek _ _ hkt (fun ps z => by cases z))) (.cons (hka9.dp hie) (.cons hkf9.dp .nil)), sk.1, sk.1, _, rfl, if0 ?_ ?_⟩
          · exact (congrArg (fun z => !z) sk.2)
          exact ⟨_, _, _, _, _, _, _, _, _, rfl, Ll.same sall⟩
      · refine if0 (decide_eq_false h3) ?_
        obtain ⟨fo, hcf, htf⟩ : ∃ fo, CoversF d.q (d.L + 1) S2 fo fs (rowOf d) ∧ (k = 0 → fo = toldFo (parOf d pa ps)) := ⟨_, hcf, fun _ => rfl⟩
        dsimp only [tSeq, tAsg, tTup, tCons, tNext]
        refine kept_plan (a := 10) (n := 17) (pd := pd) (es := es) ?_ ?_ (by decide) hpd (by omega) fun ka its He se nka hka => ?_
        · rfl
        · exact (by decide : 17 < 18)
        have Le := Lb.same se
        have hfoe := hfo.to se
        refine kept_foe (a := 11) (n := 17) (fa := fa) (es := fs) ?_ ?_ (by decide) hfoe fun kf itf Hf sf nkf hkf => ?_
        · rfl
        · exact (by decide : 17 < 18)
        have Lf := Le.same sf
        have hfof := hfoe.to sf
        have hpdf : RowD Hf pd es := sf _ _ (se _ _ hpd)
        have hkaf := hka.to (Same.x sf) ((sf _ _ hka.ls).trans hka.ls.symm)
        refine ⟨by show 2 ≤ sizeLine; decide, fun kt nkt => ?_⟩
        have sg : Same Hf (upd Hf kt (.tup [.ref ka, .ref kf])) := same_new nkt
        have hkt : upd Hf kt (.tup [.ref ka, .ref kf]) kt = some (.tup [.ref ka, .ref kf]) := upd_same
        generalize upd Hf kt (.tup [.ref ka, .ref kf]) = Hg at sg hkt
        have Lg := Lf.same sg
        have kg := Lg.keep hst7
        refine ⟨_, rfl, _, rfl, _, rfl, _, rfl, A, d, x, dx, pa, ps, pd, fa, es, S, pl, fs, S2, fo, rfl, hA7.to kg, hP7.to kg, sg _ _ hpdf, hcov, hgood, hfof.to sg, hcf, Lg.tb, fun t l as Hh nh tbh ht hl hps => ?_⟩
        have Lh := Lg.n nh tbh
        have kh := Lh.keep hst7
        have hR8 := (Lh.road hst7 hR7).v
        have hpdh : RowD Hh pd es := RowD.n (sg _ _ hpdf) nh
        have hfoh : FoeAt P w Hh fa fs := FoeAt.x (hfof.to sg) nh
        have h24 : d.ns.length ≤ 24 := by have := hd.hi; omega
        refine ⟨_, rfl, _, rfl, _, rfl, _, rfl, _, rfl, _, rfl, rh, nl, pt, pr, pd, fa, d, pa, ps, es, S, pl, fs, S2, fo, rfl, hR8, hpt7.to kh, kh _ _ hpr7 (.tup _), hpdh, h24, hd.hL, hcan, hcov, hgood, hfoh, hcf, fun t2 l2 as2 Hi si ht2 hl2 hps2 => ?_⟩
        have sc := shaped_C (playC (parOf d pa ps) pl fo (rowOf d)) (course d.q pl fo (rowOf d) (can d))
        refine ⟨_, _, dp_C (si _ _ ht) (si _ _ hl) (hps.to (Same.x si)), dp_C ht2 hl2 hps2, sc.1, sc.1, _, rfl, if0 (by rw [sc.2]; rfl) ?_⟩
        have Li := Lh.same si
        have ki := Li.keep hst7
        have hpdi : RowD Hi pd es := si _ _ hpdh
        have hfoi := hfoh.to si
        refine ⟨_, rfl, _, rfl, _, rfl, A, d, x, dx, pa, ps, fa, fs, S2, fo, rfl, hA7.to ki, hP7.to ki, hfoi, hcf, Li.tb, fun Hj nj tbj => ?_⟩
        have Lj := Li.n nj tbj
        have kj := Lj.keep hst7
        have hpdj := RowD.n hpdi nj
        have hfoj := FoeAt.x hfoi nj
        refine ⟨_, rfl, _, rfl, _, rfl, A, d, x, dx, pa, ps, pd, es, S, pl, rfl, hA7.to kj, hP7.to kj, hpdj, hcov, hgood, Lj.tb, fun Hl nl9 tbl => ?_⟩
        have Ll := Lj.n nl9 tbl
        have kl := Ll.keep hst7
        have hpdl := RowD.n hpdj nl9
        have hfol := FoeAt.x hfoj nl9
        have hok := hA7.ok
        have hL4 : d.L + 1 ≤ 4 := by have := hd.hL; omega
        have q1 := foe_le_play (p := parOf d pa ps) (fo := fo) hL4 hgood _ hok
        have q2 := play_le_plan (p := parOf d pa ps) (fo := fo) hL4 hgood _ hok
        have q3 := foe_le_cost (p := parOf d pa ps) (fo := fo) hL4 _ hok
        have q4 := cost_le_plan (p := parOf d pa ps) hL4 hgood _ hok
        have htl : Hl t = some (.tup [.int (playC (parOf d pa ps) pl fo (rowOf d) : Nat), .ref l]) := nl9 _ _ (nj _ _ (si _ _ ht) (fun ps z => by cases z)) (fun ps z => by cases z)
        refine ⟨_, rfl, _, rfl, t, _, _, _, rfl, rfl, SqT.of htl, atI_nat (j := 0) rfl, _, _, rfl, rfl, _, rfl, if1 (decide_eq_true (by omega)) ⟨_, rfl, _, _, rfl, rfl, _, rfl, ?_⟩⟩
        rw [decide_eq_true (show (playC (parOf d pa ps) pl fo (rowOf d) : Int) ≤ (planC (parOf d pa ps) pl (rowOf d) : Int) by omega)]
        refine if0 rfl ?_
        refine ⟨_, rfl, _, rfl, _, _, rfl, rfl, _, rfl, if1 (decide_eq_true (by omega)) ⟨_, rfl, _, _, rfl, rfl, _, rfl, ?_⟩⟩
        rw [decide_eq_true (show (cost (parOf d pa ps) (rowOf d) : Int) ≤ (planC (parOf d pa ps) pl (rowOf d) : Int) by omega)]
        refine if0 rfl ?_
        refine ⟨_, rfl, rfl, _, rfl, ?_⟩
        by_cases h5 : V.int (0 + ((k : Nat) : Int)) = V.int 0
        · have hk0 : k = 0 := by
            cases k with
            | zero => rfl
            | succ m => exact absurd (V.int.inj h5) (by omega)
          have h6 := told_pays (p := parOf d pa ps) (pl := pl) (fo := fo) hL4 hgood (fun r _ _ => by rw [htp hk0]) (fun r _ b _ _ => by rw [htf hk0]) _ hok
          refine if1 (decide_eq_true h5) ⟨_, rfl, t, _, _, _, rfl, rfl, SqT.of htl, atI_nat (j := 0) rfl, _, rfl, rfl, _, rfl, ?_⟩
          refine if0 (by rw [h6]; exact congrArg (fun z => !z) (decide_eq_true rfl)) ?_
          dsimp only [tSeq, tIfS, tTest, tOp, tTup, tCons, tNext]
          refine kept_plan (a := 10) (n := 17) (pd := pd) (es := es) ?_ ?_ (by decide) hpdl (by omega) fun kb2 itb Hm sm nkb hkb => ?_
          · rfl
          · exact (by decide : 17 < 18)
          refine kept_foe (a := 11) (n := 17) (fa := fa) (es := fs) ?_ ?_ (by decide) (hfol.to sm) fun kc itc Hn sn nkc hkc => ?_
          · rfl
          · exact (by decide : 17 < 18)
          have hkbn := hkb.to (Same.x sn) ((sn _ _ hkb.ls).trans hkb.ls.symm)
          refine ⟨by show 2 ≤ sizeLine; decide, fun ku nku => ?_⟩
          have so : Same Hn (upd Hn ku (.tup [.ref kb2, .ref kc])) := same_new nku
          have hku : upd Hn ku (.tup [.ref kb2, .ref kc]) ku = some (.tup [.ref kb2, .ref kc]) := upd_same
          generalize upd Hn ku (.tup [.ref kb2, .ref kc]) = Ho at so hku
          have sall : Same Hl Ho := sm.trans (sn.trans so)
          have e1 : ∀ b o, Hf b = some o → (∀ ps, o ≠ .tbl ps) → Ho b = some o := fun b o e n => sall _ _ (nl9 _ _ (nj _ _ (si _ _ (nh _ _ (sg _ _ e) n)) n) n)
          have ek : ∀ b o, Hg b = some o → (∀ ps, o ≠ .tbl ps) → Ho b = some o := fun b o e n => sall _ _ (nl9 _ _ (nj _ _ (si _ _ (nh _ _ e n)) n) n)
          have hka9 := hkaf.to (Keep.ext e1) ((e1 _ _ hkaf.ls (fun ps z => by cases z)).trans hkaf.ls.symm)
          have hkf9 := hkf.to (Keep.ext e1) ((e1 _ _ hkf.ls (fun ps z => by cases z)).trans hkf.ls.symm)
          have hkb9 := hkbn.to (Same.x so) ((so _ _ hkbn.ls).trans hkbn.ls.symm)
          have hkc9 := hkc.to (Same.x so) ((so _ _ hkc.ls).trans hkc.ls.symm)
          have sk := shaped_K es fs
          refine ⟨_, rfl, _, _, .tup (SqT.of hku) (.cons (hkb9.dp hie) (.cons hkc9.dp .nil)), .tup (SqT.of (ek _ _ hkt (fun ps z => by cases z))) (.cons (hka9.dp hie) (.cons hkf9.dp .nil)), sk.1, sk.1, _, rfl, if0 ?_ ?_⟩
          · exact (congrArg (fun z => !z) sk.2)
          exact ⟨_, _, _, _, _, _, _, _, _, rfl, Ll.same sall⟩
        · refine if0 (decide_eq_false h5) ?_
          refine if0 rfl ?_
          dsimp only [tSeq, tIfS, tTest, tOp, tTup, tCons, tNext]
          refine kept_plan (a := 10) (n := 17) (pd := pd) (es := es) ?_ ?_ (by decide) hpdl (by omega) fun kb2 itb Hm sm nkb hkb => ?_
          · rfl
          · exact (by decide : 17 < 18)
          refine kept_foe (a := 11) (n := 17) (fa := fa) (es := fs) ?_ ?_ (by decide) (hfol.to sm) fun kc itc Hn sn nkc hkc => ?_
          · rfl
          · exact (by decide : 17 < 18)
          have hkbn := hkb.to (Same.x sn) ((sn _ _ hkb.ls).trans hkb.ls.symm)
          refine ⟨by show 2 ≤ sizeLine; decide, fun ku nku => ?_⟩
          have so : Same Hn (upd Hn ku (.tup [.ref kb2, .ref kc])) := same_new nku
          have hku : upd Hn ku (.tup [.ref kb2, .ref kc]) ku = some (.tup [.ref kb2, .ref kc]) := upd_same
          generalize upd Hn ku (.tup [.ref kb2, .ref kc]) = Ho at so hku
          have sall : Same Hl Ho := sm.trans (sn.trans so)
          have e1 : ∀ b o, Hf b = some o → (∀ ps, o ≠ .tbl ps) → Ho b = some o := fun b o e n => sall _ _ (nl9 _ _ (nj _ _ (si _ _ (nh _ _ (sg _ _ e) n)) n) n)
          have ek : ∀ b o, Hg b = some o → (∀ ps, o ≠ .tbl ps) → Ho b = some o := fun b o e n => sall _ _ (nl9 _ _ (nj _ _ (si _ _ (nh _ _ e n)) n) n)
          have hka9 := hkaf.to (Keep.ext e1) ((e1 _ _ hkaf.ls (fun ps z => by cases z)).trans hkaf.ls.symm)
          have hkf9 := hkf.to (Keep.ext e1) ((e1 _ _ hkf.ls (fun ps z => by cases z)).trans hkf.ls.symm)
          have hkb9 := hkbn.to (Same.x so) ((so _ _ hkbn.ls).trans hkbn.ls.symm)
          have hkc9 := hkc.to (Same.x so) ((so _ _ hkc.ls).trans hkc.ls.symm)
          have sk := shaped_K es fs
          refine ⟨_, rfl, _, _, .tup (SqT.of hku) (.cons (hkb9.dp hie) (.cons hkc9.dp .nil)), .tup (SqT.of (ek _ _ hkt (fun ps z => by cases z))) (.cons (hka9.dp hie) (.cons hkf9.dp .nil)), sk.1, sk.1, _, rfl, if0 ?_ ?_⟩
          · exact (congrArg (fun z => !z) sk.2)
          exact ⟨_, _, _, _, _, _, _, _, _, rfl, Ll.same sall⟩
    · refine if0 (decide_eq_false h2) ?_
      obtain ⟨pl, hcov, hgood, htp⟩ : ∃ pl, Covers d.q (d.L + 1) S pl es (rowOf d) ∧ Good pl ∧ (k = 0 → pl = toldPl (parOf d pa ps)) := ⟨_, hcov, fun r h => told_good _ r h, fun _ => rfl⟩
      refine ⟨_, rfl, _, _, rfl, rfl, _, rfl, ?_⟩
      by_cases h3 : (1 : Int) < 0 + ((k : Nat) : Int)
      · refine if1 (decide_eq_true h3) ⟨_, rfl, _, rfl, _, rfl, _, rfl, _, rfl, sa, st, zs, rh, nl, a0, d, rowOf d, rfl, Lb.scr hs7, by omega, Lb.st, Lb.road hst7 hR7, hd.hL, ha7.to kb, hA7.ok, fun t fa ff fs S2 Hb sxd hstd ht hfo hcf => ?_⟩
        refine ⟨t, _, rfl, SqT.of ht, rfl, _, _, rfl, _, _, rfl, rfl, ?_⟩
        have hpd := RowD.sx hpd Lb.st sxd
        have Lb := Lb.sx sxd hstd
        clear kb
        obtain ⟨fo, hcf, htf⟩ : ∃ fo, CoversF d.q (d.L + 1) S2 fo fs (rowOf d) ∧ (k = 0 → fo = toldFo (parOf d pa ps)) := ⟨_, hcf, fun z => by omega⟩
        dsimp only [tSeq, tAsg, tTup, tCons, tNext]
        refine kept_plan (a := 10) (n := 17) (pd := pd) (es := es) ?_ ?_ (by decide) hpd (by omega) fun ka its He se nka hka => ?_
        · rfl
        · exact (by decide : 17 < 18)
        have Le := Lb.same se
        have hfoe := hfo.to se
        refine kept_foe (a := 11) (n := 17) (fa := fa) (es := fs) ?_ ?_ (by decide) hfoe fun kf itf Hf sf nkf hkf => ?_
        · rfl
        · exact (by decide : 17 < 18)
        have Lf := Le.same sf
        have hfof := hfoe.to sf
        have hpdf : RowD Hf pd es := sf _ _ (se _ _ hpd)
        have hkaf := hka.to (Same.x sf) ((sf _ _ hka.ls).trans hka.ls.symm)
        refine ⟨by show 2 ≤ sizeLine; decide, fun kt nkt => ?_⟩
        have sg : Same Hf (upd Hf kt (.tup [.ref ka, .ref kf])) := same_new nkt
        have hkt : upd Hf kt (.tup [.ref ka, .ref kf]) kt = some (.tup [.ref ka, .ref kf]) := upd_same
        generalize upd Hf kt (.tup [.ref ka, .ref kf]) = Hg at sg hkt
        have Lg := Lf.same sg
        have kg := Lg.keep hst7
        refine ⟨_, rfl, _, rfl, _, rfl, _, rfl, A, d, x, dx, pa, ps, pd, fa, es, S, pl, fs, S2, fo, rfl, hA7.to kg, hP7.to kg, sg _ _ hpdf, hcov, hgood, hfof.to sg, hcf, Lg.tb, fun t l as Hh nh tbh ht hl hps => ?_⟩
        have Lh := Lg.n nh tbh
        have kh := Lh.keep hst7
        have hR8 := (Lh.road hst7 hR7).v
        have hpdh : RowD Hh pd es := RowD.n (sg _ _ hpdf) nh
        have hfoh : FoeAt P w Hh fa fs := FoeAt.x (hfof.to sg) nh
        have h24 : d.ns.length ≤ 24 := by have := hd.hi; omega
        refine ⟨_, rfl, _, rfl, _, rfl, _, rfl, _, rfl, _, rfl, rh, nl, pt, pr, pd, fa, d, pa, ps, es, S, pl, fs, S2, fo, rfl, hR8, hpt7.to kh, kh _ _ hpr7 (.tup _), hpdh, h24, hd.hL, hcan, hcov, hgood, hfoh, hcf, fun t2 l2 as2 Hi si ht2 hl2 hps2 => ?_⟩
        have sc := shaped_C (playC (parOf d pa ps) pl fo (rowOf d)) (course d.q pl fo (rowOf d) (can d))
        refine ⟨_, _, dp_C (si _ _ ht) (si _ _ hl) (hps.to (Same.x si)), dp_C ht2 hl2 hps2, sc.1, sc.1, _, rfl, if0 (by rw [sc.2]; rfl) ?_⟩
        have Li := Lh.same si
        have ki := Li.keep hst7
        have hpdi : RowD Hi pd es := si _ _ hpdh
        have hfoi := hfoh.to si
        refine ⟨_, rfl, _, rfl, _, rfl, A, d, x, dx, pa, ps, fa, fs, S2, fo, rfl, hA7.to ki, hP7.to ki, hfoi, hcf, Li.tb, fun Hj nj tbj => ?_⟩
        have Lj := Li.n nj tbj
        have kj := Lj.keep hst7
        have hpdj := RowD.n hpdi nj
        have hfoj := FoeAt.x hfoi nj
        refine ⟨_, rfl, _, rfl, _, rfl, A, d, x, dx, pa, ps, pd, es, S, pl, rfl, hA7.to kj, hP7.to kj, hpdj, hcov, hgood, Lj.tb, fun Hl nl9 tbl => ?_⟩
        have Ll := Lj.n nl9 tbl
        have kl := Ll.keep hst7
        have hpdl := RowD.n hpdj nl9
        have hfol := FoeAt.x hfoj nl9
        have hok := hA7.ok
        have hL4 : d.L + 1 ≤ 4 := by have := hd.hL; omega
        have q1 := foe_le_play (p := parOf d pa ps) (fo := fo) hL4 hgood _ hok
        have q2 := play_le_plan (p := parOf d pa ps) (fo := fo) hL4 hgood _ hok
        have q3 := foe_le_cost (p := parOf d pa ps) (fo := fo) hL4 _ hok
        have q4 := cost_le_plan (p := parOf d pa ps) hL4 hgood _ hok
        have htl : Hl t = some (.tup [.int (playC (parOf d pa ps) pl fo (rowOf d) : Nat), .ref l]) := nl9 _ _ (nj _ _ (si _ _ ht) (fun ps z => by cases z)) (fun ps z => by cases z)
        refine ⟨_, rfl, _, rfl, t, _, _, _, rfl, rfl, SqT.of htl, atI_nat (j := 0) rfl, _, _, rfl, rfl, _, rfl, if1 (decide_eq_true (by omega)) ⟨_, rfl, _, _, rfl, rfl, _, rfl, ?_⟩⟩
        rw [decide_eq_true (show (playC (parOf d pa ps) pl fo (rowOf d) : Int) ≤ (planC (parOf d pa ps) pl (rowOf d) : Int) by omega)]
        refine if0 rfl ?_
        refine ⟨_, rfl, _, rfl, _, _, rfl, rfl, _, rfl, if1 (decide_eq_true (by omega)) ⟨_, rfl, _, _, rfl, rfl, _, rfl, ?_⟩⟩
        rw [decide_eq_true (show (cost (parOf d pa ps) (rowOf d) : Int) ≤ (planC (parOf d pa ps) pl (rowOf d) : Int) by omega)]
        refine if0 rfl ?_
        refine ⟨_, rfl, rfl, _, rfl, ?_⟩
        by_cases h5 : V.int (0 + ((k : Nat) : Int)) = V.int 0
        · have hk0 : k = 0 := by
            cases k with
            | zero => rfl
            | succ m => exact absurd (V.int.inj h5) (by omega)
          have h6 := told_pays (p := parOf d pa ps) (pl := pl) (fo := fo) hL4 hgood (fun r _ _ => by rw [htp hk0]) (fun r _ b _ _ => by rw [htf hk0]) _ hok
          refine if1 (decide_eq_true h5) ⟨_, rfl, t, _, _, _, rfl, rfl, SqT.of htl, atI_nat (j := 0) rfl, _, rfl, rfl, _, rfl, ?_⟩
          refine if0 (by rw [h6]; exact congrArg (fun z => !z) (decide_eq_true rfl)) ?_
          dsimp only [tSeq, tIfS, tTest, tOp, tTup, tCons, tNext]
          refine kept_plan (a := 10) (n := 17) (pd := pd) (es := es) ?_ ?_ (by decide) hpdl (by omega) fun kb2 itb Hm sm nkb hkb => ?_
          · rfl
          · exact (by decide : 17 < 18)
          refine kept_foe (a := 11) (n := 17) (fa := fa) (es := fs) ?_ ?_ (by decide) (hfol.to sm) fun kc itc Hn sn nkc hkc => ?_
          · rfl
          · exact (by decide : 17 < 18)
          have hkbn := hkb.to (Same.x sn) ((sn _ _ hkb.ls).trans hkb.ls.symm)
          refine ⟨by show 2 ≤ sizeLine; decide, fun ku nku => ?_⟩
          have so : Same Hn (upd Hn ku (.tup [.ref kb2, .ref kc])) := same_new nku
          have hku : upd Hn ku (.tup [.ref kb2, .ref kc]) ku = some (.tup [.ref kb2, .ref kc]) := upd_same
          generalize upd Hn ku (.tup [.ref kb2, .ref kc]) = Ho at so hku
          have sall : Same Hl Ho := sm.trans (sn.trans so)
          have e1 : ∀ b o, Hf b = some o → (∀ ps, o ≠ .tbl ps) → Ho b = some o := fun b o e n => sall _ _ (nl9 _ _ (nj _ _ (si _ _ (nh _ _ (sg _ _ e) n)) n) n)
          have ek : ∀ b o, Hg b = some o → (∀ ps, o ≠ .tbl ps) → Ho b = some o := fun b o e n => sall _ _ (nl9 _ _ (nj _ _ (si _ _ (nh _ _ e n)) n) n)
          have hka9 := hkaf.to (Keep.ext e1) ((e1 _ _ hkaf.ls (fun ps z => by cases z)).trans hkaf.ls.symm)
          have hkf9 := hkf.to (Keep.ext e1) ((e1 _ _ hkf.ls (fun ps z => by cases z)).trans hkf.ls.symm)
          have hkb9 := hkbn.to (Same.x so) ((so _ _ hkbn.ls).trans hkbn.ls.symm)
          have hkc9 := hkc.to (Same.x so) ((so _ _ hkc.ls).trans hkc.ls.symm)
          have sk := shaped_K es fs
          refine ⟨_, rfl, _, _, .tup (SqT.of hku) (.cons (hkb9.dp hie) (.cons hkc9.dp .nil)), .tup (SqT.of (ek _ _ hkt (fun ps z => by cases z))) (.cons (hka9.dp hie) (.cons hkf9.dp .nil)), sk.1, sk.1, _, rfl, if0 ?_ ?_⟩
          · exact (congrArg (fun z => !z) sk.2)
          exact ⟨_, _, _, _, _, _, _, _, _, rfl, Ll.same sall⟩
        · refine if0 (decide_eq_false h5) ?_
          refine if0 rfl ?_
          dsimp only [tSeq, tIfS, tTest, tOp, tTup, tCons, tNext]
          refine kept_plan (a := 10) (n := 17) (pd := pd) (es := es) ?_ ?_ (by decide) hpdl (by omega) fun kb2 itb Hm sm nkb hkb => ?_
          · rfl
          · exact (by decide : 17 < 18)
          refine kept_foe (a := 11) (n := 17) (fa := fa) (es := fs) ?_ ?_ (by decide) (hfol.to sm) fun kc itc Hn sn nkc hkc => ?_
          · rfl
          · exact (by decide : 17 < 18)
          have hkbn := hkb.to (Same.x sn) ((sn _ _ hkb.ls).trans hkb.ls.symm)
          refine ⟨by show 2 ≤ sizeLine; decide, fun ku nku => ?_⟩
          have so : Same Hn (upd Hn ku (.tup [.ref kb2, .ref kc])) := same_new nku
          have hku : upd Hn ku (.tup [.ref kb2, .ref kc]) ku = some (.tup [.ref kb2, .ref kc]) := upd_same
          generalize upd Hn ku (.tup [.ref kb2, .ref kc]) = Ho at so hku
          have sall : Same Hl Ho := sm.trans (sn.trans so)
          have e1 : ∀ b o, Hf b = some o → (∀ ps, o ≠ .tbl ps) → Ho b = some o := fun b o e n => sall _ _ (nl9 _ _ (nj _ _ (si _ _ (nh _ _ (sg _ _ e) n)) n) n)
          have ek : ∀ b o, Hg b = some o → (∀ ps, o ≠ .tbl ps) → Ho b = some o := fun b o e n => sall _ _ (nl9 _ _ (nj _ _ (si _ _ (nh _ _ e n)) n) n)
          have hka9 := hkaf.to (Keep.ext e1) ((e1 _ _ hkaf.ls (fun ps z => by cases z)).trans hkaf.ls.symm)
          have hkf9 := hkf.to (Keep.ext e1) ((e1 _ _ hkf.ls (fun ps z => by cases z)).trans hkf.ls.symm)
          have hkb9 := hkbn.to (Same.x so) ((so _ _ hkbn.ls).trans hkbn.ls.symm)
          have hkc9 := hkc.to (Same.x so) ((so _ _ hkc.ls).trans hkc.ls.symm)
          have sk := shaped_K es fs
          refine ⟨_, rfl, _, _, .tup (SqT.of hku) (.cons (hkb9.dp hie) (.cons hkc9.dp .nil)), .tup (SqT.of (ek _ _ hkt (fun ps z => by cases z))) (.cons (hka9.dp hie) (.cons hkf9.dp .nil)), sk.1, sk.1, _, rfl, if0 ?_ ?_⟩
          · exact (congrArg (fun z => !z) sk.2)
          exact ⟨_, _, _, _, _, _, _, _, _, rfl, Ll.same sall⟩
      · refine if0 (decide_eq_false h3) ?_
        obtain ⟨fo, hcf, htf⟩ : ∃ fo, CoversF d.q (d.L + 1) S2 fo fs (rowOf d) ∧ (k = 0 → fo = toldFo (parOf d pa ps)) := ⟨_, hcf, fun _ => rfl⟩
        dsimp only [tSeq, tAsg, tTup, tCons, tNext]
        refine kept_plan (a := 10) (n := 17) (pd := pd) (es := es) ?_ ?_ (by decide) hpd (by omega) fun ka its He se nka hka => ?_
        · rfl
        · exact (by decide : 17 < 18)
        have Le := Lb.same se
        have hfoe := hfo.to se
        refine kept_foe (a := 11) (n := 17) (fa := fa) (es := fs) ?_ ?_ (by decide) hfoe fun kf itf Hf sf nkf hkf => ?_
        · rfl
        · exact (by decide : 17 < 18)
        have Lf := Le.same sf
        have hfof := hfoe.to sf
        have hpdf : RowD Hf pd es := sf _ _ (se _ _ hpd)
        have hkaf := hka.to (Same.x sf) ((sf _ _ hka.ls).trans hka.ls.symm)
        refine ⟨by show 2 ≤ sizeLine; decide, fun kt nkt => ?_⟩
        have sg : Same Hf (upd Hf kt (.tup [.ref ka, .ref kf])) := same_new nkt
        have hkt : upd Hf kt (.tup [.ref ka, .ref kf]) kt = some (.tup [.ref ka, .ref kf]) := upd_same
        generalize upd Hf kt (.tup [.ref ka, .ref kf]) = Hg at sg hkt
        have Lg := Lf.same sg
        have kg := Lg.keep hst7
        refine ⟨_, rfl, _, rfl, _, rfl, _, rfl, A, d, x, dx, pa, ps, pd, fa, es, S, pl, fs, S2, fo, rfl, hA7.to kg, hP7.to kg, sg _ _ hpdf, hcov, hgood, hfof.to sg, hcf, Lg.tb, fun t l as Hh nh tbh ht hl hps => ?_⟩
        have Lh := Lg.n nh tbh
        have kh := Lh.keep hst7
        have hR8 := (Lh.road hst7 hR7).v
        have hpdh : RowD Hh pd es := RowD.n (sg _ _ hpdf) nh
        have hfoh : FoeAt P w Hh fa fs := FoeAt.x (hfof.to sg) nh
        have h24 : d.ns.length ≤ 24 := by have := hd.hi; omega
        refine ⟨_, rfl, _, rfl, _, rfl, _, rfl, _, rfl, _, rfl, rh, nl, pt, pr, pd, fa, d, pa, ps, es, S, pl, fs, S2, fo, rfl, hR8, hpt7.to kh, kh _ _ hpr7 (.tup _), hpdh, h24, hd.hL, hcan, hcov, hgood, hfoh, hcf, fun t2 l2 as2 Hi si ht2 hl2 hps2 => ?_⟩
        have sc := shaped_C (playC (parOf d pa ps) pl fo (rowOf d)) (course d.q pl fo (rowOf d) (can d))
        refine ⟨_, _, dp_C (si _ _ ht) (si _ _ hl) (hps.to (Same.x si)), dp_C ht2 hl2 hps2, sc.1, sc.1, _, rfl, if0 (by rw [sc.2]; rfl) ?_⟩
        have Li := Lh.same si
        have ki := Li.keep hst7
        have hpdi : RowD Hi pd es := si _ _ hpdh
        have hfoi := hfoh.to si
        refine ⟨_, rfl, _, rfl, _, rfl, A, d, x, dx, pa, ps, fa, fs, S2, fo, rfl, hA7.to ki, hP7.to ki, hfoi, hcf, Li.tb, fun Hj nj tbj => ?_⟩
        have Lj := Li.n nj tbj
        have kj := Lj.keep hst7
        have hpdj := RowD.n hpdi nj
        have hfoj := FoeAt.x hfoi nj
        refine ⟨_, rfl, _, rfl, _, rfl, A, d, x, dx, pa, ps, pd, es, S, pl, rfl, hA7.to kj, hP7.to kj, hpdj, hcov, hgood, Lj.tb, fun Hl nl9 tbl => ?_⟩
        have Ll := Lj.n nl9 tbl
        have kl := Ll.keep hst7
        have hpdl := RowD.n hpdj nl9
        have hfol := FoeAt.x hfoj nl9
        have hok := hA7.ok
        have hL4 : d.L + 1 ≤ 4 := by have := hd.hL; omega
        have q1 := foe_le_play (p := parOf d pa ps) (fo := fo) hL4 hgood _ hok
        have q2 := play_le_plan (p := parOf d pa ps) (fo := fo) hL4 hgood _ hok
        have q3 := foe_le_cost (p := parOf d pa ps) (fo := fo) hL4 _ hok
        have q4 := cost_le_plan (p := parOf d pa ps) hL4 hgood _ hok
        have htl : Hl t = some (.tup [.int (playC (parOf d pa ps) pl fo (rowOf d) : Nat), .ref l]) := nl9 _ _ (nj _ _ (si _ _ ht) (fun ps z => by cases z)) (fun ps z => by cases z)
        refine ⟨_, rfl, _, rfl, t, _, _, _, rfl, rfl, SqT.of htl, atI_nat (j := 0) rfl, _, _, rfl, rfl, _, rfl, if1 (decide_eq_true (by omega)) ⟨_, rfl, _, _, rfl, rfl, _, rfl, ?_⟩⟩
        rw [decide_eq_true (show (playC (parOf d pa ps) pl fo (rowOf d) : Int) ≤ (planC (parOf d pa ps) pl (rowOf d) : Int) by omega)]
        refine if0 rfl ?_
        refine ⟨_, rfl, _, rfl, _, _, rfl, rfl, _, rfl, if1 (decide_eq_true (by omega)) ⟨_, rfl, _, _, rfl, rfl, _, rfl, ?_⟩⟩
        rw [decide_eq_true (show (cost (parOf d pa ps) (rowOf d) : Int) ≤ (planC (parOf d pa ps) pl (rowOf d) : Int) by omega)]
        refine if0 rfl ?_
        refine ⟨_, rfl, rfl, _, rfl, ?_⟩
        by_cases h5 : V.int (0 + ((k : Nat) : Int)) = V.int 0
        · have hk0 : k = 0 := by
            cases k with
            | zero => rfl
            | succ m => exact absurd (V.int.inj h5) (by omega)
          have h6 := told_pays (p := parOf d pa ps) (pl := pl) (fo := fo) hL4 hgood (fun r _ _ => by rw [htp hk0]) (fun r _ b _ _ => by rw [htf hk0]) _ hok
          refine if1 (decide_eq_true h5) ⟨_, rfl, t, _, _, _, rfl, rfl, SqT.of htl, atI_nat (j := 0) rfl, _, rfl, rfl, _, rfl, ?_⟩
          refine if0 (by rw [h6]; exact congrArg (fun z => !z) (decide_eq_true rfl)) ?_
          dsimp only [tSeq, tIfS, tTest, tOp, tTup, tCons, tNext]
          refine kept_plan (a := 10) (n := 17) (pd := pd) (es := es) ?_ ?_ (by decide) hpdl (by omega) fun kb2 itb Hm sm nkb hkb => ?_
          · rfl
          · exact (by decide : 17 < 18)
          refine kept_foe (a := 11) (n := 17) (fa := fa) (es := fs) ?_ ?_ (by decide) (hfol.to sm) fun kc itc Hn sn nkc hkc => ?_
          · rfl
          · exact (by decide : 17 < 18)
          have hkbn := hkb.to (Same.x sn) ((sn _ _ hkb.ls).trans hkb.ls.symm)
          refine ⟨by show 2 ≤ sizeLine; decide, fun ku nku => ?_⟩
          have so : Same Hn (upd Hn ku (.tup [.ref kb2, .ref kc])) := same_new nku
          have hku : upd Hn ku (.tup [.ref kb2, .ref kc]) ku = some (.tup [.ref kb2, .ref kc]) := upd_same
          generalize upd Hn ku (.tup [.ref kb2, .ref kc]) = Ho at so hku
          have sall : Same Hl Ho := sm.trans (sn.trans so)
          have e1 : ∀ b o, Hf b = some o → (∀ ps, o ≠ .tbl ps) → Ho b = some o := fun b o e n => sall _ _ (nl9 _ _ (nj _ _ (si _ _ (nh _ _ (sg _ _ e) n)) n) n)
          have ek : ∀ b o, Hg b = some o → (∀ ps, o ≠ .tbl ps) → Ho b = some o := fun b o e n => sall _ _ (nl9 _ _ (nj _ _ (si _ _ (nh _ _ e n)) n) n)
          have hka9 := hkaf.to (Keep.ext e1) ((e1 _ _ hkaf.ls (fun ps z => by cases z)).trans hkaf.ls.symm)
          have hkf9 := hkf.to (Keep.ext e1) ((e1 _ _ hkf.ls (fun ps z => by cases z)).trans hkf.ls.symm)
          have hkb9 := hkbn.to (Same.x so) ((so _ _ hkbn.ls).trans hkbn.ls.symm)
          have hkc9 := hkc.to (Same.x so) ((so _ _ hkc.ls).trans hkc.ls.symm)
          have sk := shaped_K es fs
          refine ⟨_, rfl, _, _, .tup (SqT.of hku) (.cons (hkb9.dp hie) (.cons hkc9.dp .nil)), .tup (SqT.of (ek _ _ hkt (fun ps z => by cases z))) (.cons (hka9.dp hie) (.cons hkf9.dp .nil)), sk.1, sk.1, _, rfl, if0 ?_ ?_⟩
          · exact (congrArg (fun z => !z) sk.2)
          exact ⟨_, _, _, _, _, _, _, _, _, rfl, Ll.same sall⟩
        · refine if0 (decide_eq_false h5) ?_
          refine if0 rfl ?_
          dsimp only [tSeq, tIfS, tTest, tOp, tTup, tCons, tNext]
          refine kept_plan (a := 10) (n := 17) (pd := pd) (es := es) ?_ ?_ (by decide) hpdl (by omega) fun kb2 itb Hm sm nkb hkb => ?_
          · rfl
          · exact (by decide : 17 < 18)
          refine kept_foe (a := 11) (n := 17) (fa := fa) (es := fs) ?_ ?_ (by decide) (hfol.to sm) fun kc itc Hn sn nkc hkc => ?_
          · rfl
          · exact (by decide : 17 < 18)
          have hkbn := hkb.to (Same.x sn) ((sn _ _ hkb.ls).trans hkb.ls.symm)
          refine ⟨by show 2 ≤ sizeLine; decide, fun ku nku => ?_⟩
          have so : Same Hn (upd Hn ku (.tup [.ref kb2, .ref kc])) := same_new nku
          have hku : upd Hn ku (.tup [.ref kb2, .ref kc]) ku = some (.tup [.ref kb2, .ref kc]) := upd_same
          generalize upd Hn ku (.tup [.ref kb2, .ref kc]) = Ho at so hku
          have sall : Same Hl Ho := sm.trans (sn.trans so)
          have e1 : ∀ b o, Hf b = some o → (∀ ps, o ≠ .tbl ps) → Ho b = some o := fun b o e n => sall _ _ (nl9 _ _ (nj _ _ (si _ _ (nh _ _ (sg _ _ e) n)) n) n)
          have ek : ∀ b o, Hg b = some o → (∀ ps, o ≠ .tbl ps) → Ho b = some o := fun b o e n => sall _ _ (nl9 _ _ (nj _ _ (si _ _ (nh _ _ e n)) n) n)
          have hka9 := hkaf.to (Keep.ext e1) ((e1 _ _ hkaf.ls (fun ps z => by cases z)).trans hkaf.ls.symm)
          have hkf9 := hkf.to (Keep.ext e1) ((e1 _ _ hkf.ls (fun ps z => by cases z)).trans hkf.ls.symm)
          have hkb9 := hkbn.to (Same.x so) ((so _ _ hkbn.ls).trans hkbn.ls.symm)
          have hkc9 := hkc.to (Same.x so) ((so _ _ hkc.ls).trans hkc.ls.symm)
          have sk := shaped_K es fs
          refine ⟨_, rfl, _, _, .tup (SqT.of hku) (.cons (hkb9.dp hie) (.cons hkc9.dp .nil)), .tup (SqT.of (ek _ _ hkt (fun ps z => by cases z))) (.cons (hka9.dp hie) (.cons hkf9.dp .nil)), sk.1, sk.1, _, rfl, if0 ?_ ?_⟩
          · exact (congrArg (fun z => !z) sk.2)
          exact ⟨_, _, _, _, _, _, _, _, _, rfl, Ll.same sall⟩
  · rintro σ H' ⟨f9, f10, f11, f12, f13, f14, f15, f16, f17, rfl, Lk⟩
    have kk := Lk.keep hst7
    exact ⟨_, rfl, _, rfl, _, rfl, A, d, x, dx, pa, ps, a0, rfl, hA7.to kk, hP7.to kk, ha7.to kk, Lk.tb, fun H' => q H'⟩
end
end Wp
set_option Elab.async false
set_option linter.all false
set_option maxRecDepth 100000
set_option maxHeartbeats 2000000
/-! WpR10: super().__init__(x) in a class over an own class over ValueError; an __init__ that begins so. -/
namespace Wp
open PySem PySem.Spec PyProof.Rows L2 WP PySem.Calls
section
variable {prog : Program} {w : World} {A : Around} {E : Value → Shared → Prop} {h : Heap} {g : Array GenState} {d : Drawn} {t : Nat} {os : OsState}
variable {nm q : Str} {C N : Addr} {bs bm : List Value} {hdct : Bool} {sn : List Str} {sub : List Value} {ab : Bool} {col : Option Bool} {dd : Option Addr} {k0 k1 k2 k3 k5 : Option Value}
theorem call_bwV {u e t0 : Addr} {rest : List Value} {Q : Value → Shared → Prop}
    (hC : h.get? C = some (excClassObj nm q C N bs bm hdct sn sub ab col dd k0 k1 k2 k3 k5 "ValueError.__new__")) (he : h.get? e = some (HandSPX.excO C t0)) (hu : h.get? u = some (PySem.W.kxs_mw "ValueError.__init__" e)) (hrest : rest.length ≤ sizeLine)
    (hq : ∀ h' t1, (∀ b o, b ≠ e → h.get? b = some o → h'.get? b = some o) → h'.get? e = some (HandSPX.excO C t1) → Q .none ⟨h', g, d, t, os⟩) :
    wpAny (model prog w) A (call (.ref u) rest) Q E ⟨h, g, d, t, os⟩ := by
  refine wpAny_call (codeAny_of_tree ?_)
  show wpAny _ A.in1 (callAny (.ref u) ⟨rest, []⟩) _ _ _
  simp only [callAny]
  refine wpAny_bind (wpAny_load hu ?_)
  simp only [PySem.W.kxs_mw, show (Value.type "method-wrapper" == Value.type "method" || Value.type "method-wrapper" == Value.type "builtin_function_or_method" || Value.type "method-wrapper" == Value.type "method-wrapper") = true by decide, if_true]
  refine PySem.W.KFB.if_so (by decide) ?_
  refine wpAny_bind (ESX.check_bound F.excBase_ValueError hC he rfl ?_)
  refine wpAny_bind (wpAny_pure (wpAny_pure ?_))
  refine ⟨Code.quiet_builtin _ (by decide +kernel), codeAny_builtin F.excBase_ValueError.initEntry ?_⟩
  rw [Around.under_plainId F.excBase_ValueError.init.plain _]
  wp_walk
  refine hq _ h.objs.size (fun b o hb ho => ?_) ?_
  · rw [Heap.get?_update_other _ _ (Ne.symm hb)]
    exact Heap.get?_push_of_some _ ho
  · rw [Heap.get?_update_self _ (Heap.get?_push_of_some _ he) rfl]
    rfl
end
/-- what the text and the written part say of the class at C, its __init__ at f -/
structure SupC (P : Program) (K : PySem.W.Frag) (mg : Str → Option Value) (C f cda cc : Addr) (qual : Str) : Prop where
  ox : OexC K C
  code : PySem.W.codeIn K (.ref cda) qual = true
  file : ∃ ccl cdd vs ccs fl tf, K.lookup cda = some ⟨ccl, cdd, .fields vs, ccs⟩ ∧ vs[2]? = some (.str fl tf) ∧ ((P.main.file : Str) == fl) = true
  cell : ∃ cl cld csl, K.lookup cc = some ⟨cl, cld, .cell (some (.ref C)), csl⟩
  sup : mg "super" = none
  top : (P.main.scope.names.lookup ("super" : Str)).isSome = false
  third : PySem.W.nsIn K cStatics "thirdparty.any" = some none
  up : PySem.W.ks_superIn K C C "__init__" = some (some (.builtin "ValueError.__init__"))
  ve : PySem.W.subIn K (.ref C) (.type "ValueError") = some true
/-- a scope of such an __init__: all names are parameters -/
structure SupScope (N : List Str) (sc : Scope) : Prop where
  kind : sc.kind = .function
  co : sc.isCoroutine = false
  gen : sc.isGenerator = false
  nd : N.Nodup
  par : ∀ x ∈ N, sc.names.lookup x = some .local
  nocell : ∀ x ∈ sc.names, x.2 ≠ .cell
  free : ∀ x, sc.names.lookup x = some .free → x = ("__class__" : Str)
  sup : sc.names.lookup ("super" : Str) = some .globalImplicit
  cls : sc.names.lookup ("__class__" : Str) = some .free
theorem boot_super : bootBuiltins "super" = some (.type "super") := by decide +kernel
theorem zip_look : ∀ {P : List Str} {us : List Value} {i : Nat} {y : Str} {u : Value}, P.Nodup → P[i]? = some y → us[i]? = some u → (P.zip us).lookup y = some u
  | [], _, _, _, _, _, h, _ => by simp at h
  | _ :: _, [], _, _, _, _, _, h => by simp at h
  | p :: P, w :: us, 0, y, u, nd, h1, h2 => by
    simp at h1 h2
    subst h1
    subst h2
    simp [List.lookup]
  | p :: P, w :: us, i + 1, y, u, nd, h1, h2 => by
    have h3 : P[i]? = some y := by simpa using h1
    have hne : y ≠ p := fun e => (List.nodup_cons.mp nd).1 (e ▸ List.mem_of_getElem? h3)
    rw [List.zip_cons_cons, List.lookup_cons, beq_eq_false_iff_ne.mpr hne]
    exact zip_look (List.nodup_cons.mp nd).2 h3 (by simpa using h2)
theorem zip_keys : ∀ {P : List Str} {us : List Value}, P.length = us.length → (P.zip us).map (·.1) = P
  | [], _, _ => by simp
  | _ :: _, [], h => by simp at h
  | p :: P, w :: us, h => by
    rw [List.zip_cons_cons, List.map_cons, zip_keys (by simpa using h)]
/-- the context of such a body -/
def cxSup (CX : CXT) (P : Program) (w : World) (K : PySem.W.Frag) (mg : Str → Option Value) (base : Heap) (N : List Str) (qual : Str) (scope : Scope) (f : Addr) (cd : Value) (cc : Addr) (A : Around) (outer : List Env) (s : Shared) (H : Hp) (E : XK) : Cx where
  prog := P
  w := w
  K := K
  mg := mg
  base := base
  A := A.deeper (PySem.W.ksEnv qual scope s.heap.objs.size f cd cc)
  N := N
  s_0 := s
  H_0 := H
  env := PySem.W.ksEnv qual scope s.heap.objs.size f cd cc
  outer := outer
  stack := PySem.W.ksEnv qual scope s.heap.objs.size f cd cc :: outer
  ex := []
  calm := true
  fn := fun _ => false
  pn := []
  xe := fun e s' => wpAny (model P w) (A.deeper (PySem.W.ksEnv qual scope s.heap.objs.size f cd cc)) (leaving (PySem.W.ksEnv qual scope s.heap.objs.size f cd cc) e) (fun _ s'' => CX outer H s E e s'') (fun e' s'' => CX outer H s E e' s'') s'
theorem sup_start {CX : CXT} {P : Program} {w : World} {K : PySem.W.Frag} {mg : Str → Option Value} {base : Heap} {N : List Str} {qual : Str} {scope : Scope} {f C cda cc : Addr} {A : Around} {outer : List Env} {s : Shared} {h1 : Heap} {tk : Nat} {H : Hp} {E : XK} {us : List Value} {vs : List V}
    (S : SupScope N scope) (T : SupC P K mg C f cda cc qual) (hd : A.handled = none) (e0 : Env0 P w K mg base A outer s H) (hl : vs.length = N.length) (r : Vals vs us)
    (ns : h1.Ns s.heap.objs.size (fun x => (N.zip us).reverse.lookup x)) (k : ∀ b o, s.heap.get? b = some o → h1.get? b = some o) :
    Inv (cxSup CX P w K mg base N qual scope f (.ref cda) cc A outer s H E) [] (vs.map some) H { s with heap := h1, toks := tk } := by
  have KX : K.In s.heap := e0.mod.kin.keeps fun b o e => (e0.bs b o e).1
  obtain ⟨cl, cld, csl, hcell⟩ := T.cell
  have cells : ∀ x c, (cxSup CX P w K mg base N qual scope f (.ref cda) cc A outer s H E).env.cells.lookup x = some c → c = cc ∧ x = ("__class__" : Str) := fun x c e => by
    have e' : ([(("__class__" : Str), cc)] : List (Str × Addr)).lookup x = some c := e
    rw [List.lookup_cons] at e'
    split at e'
    · rename_i hx
      cases e'
      exact ⟨rfl, beq_iff_eq.mp hx⟩
    · cases e'
  have hbase : base.get? cc = some ⟨cl, cld, .cell (some (.ref C)), csl⟩ := e0.mod.kin _ _ hcell
  have noA : ∀ b : Addr, b ∉ (cxSup CX P w K mg base N qual scope f (.ref cda) cc A outer s H E).ex := fun b z => absurd (show b ∈ ([] : List Addr) from z) (by simp)
  have hul : N.length = us.length := by rw [← hl]; exact r.length
  refine ⟨⟨e0.mod, S.kind, rfl, rfl, Nat.le_refl _, fun x y c h1 h2 => (cells x c h1).2.trans (cells y c h2).2.symm, fun y hy => ?_, fun y c hf _ => (by cases hf), fun _ => hd, Around.frames_deeper e0.frames, .inr ⟨rfl, rfl⟩, fun b z => absurd z (noA b), e0.bs, e0.bsz, fun b _ _ => noA b, fun b z => absurd z (noA b), e0.funs, e0.frf⟩,
    rfl, e0.bare, Un.kept k, ⟨_, ns, fun i y v h1 h2 h3 => ?_⟩, fun y c h => ?_, e0.hok.fresh (Nat.le_refl _), fun y c h => ?_, fun p hp => absurd (show p ∈ ([] : List (Addr × Obj)) from hp) (by simp), e0.hok.kept k, ?_⟩
  · have hy : scope.names.lookup y = some .cell ∨ scope.names.lookup y = some .free := hy
    rcases hy with hy | hy
    · exact absurd rfl (S.nocell _ (PySem.mem_of_lookup hy))
    · refine ⟨cc, ?_⟩
      rw [S.free y hy]
      rfl
  · have hp : N[i]? = some y := h1
    have ha : vs[i]? = some v := by
      rw [List.getElem?_map] at h2
      obtain ⟨z, hz, e⟩ := Option.map_eq_some_iff.mp h2
      cases e
      exact hz
    obtain ⟨u, hu, rv⟩ := r.get ha
    refine ⟨u, rv, .inl ⟨S.par y (List.mem_of_getElem? hp), ?_⟩⟩
    show (N.zip us).reverse.lookup y = some u
    rw [lookup_reverse_of_nodup _ (by rw [zip_keys hul]; exact S.nd)]
    exact zip_look S.nd hp hu
  · obtain ⟨rfl, _⟩ := cells y c h
    exact ⟨_, _, k _ _ (KX _ _ hcell), rfl⟩
  · obtain ⟨rfl, _⟩ := cells y c h
    exact (e0.bs _ _ hbase).2
  · rw [List.length_map]
    exact hl
/-- a def that begins with super().__init__('m') -/
theorem fn_sup {CX : CXT} {P : Program} {w : World} {K : PySem.W.Frag} {mg : Str → Option Value} {base : Heap} {k : Nat} {f C cda cc : Addr} {name qual : Str} {params : Arguments} {rest : List Stmt} {scope : Scope} {dV kV doc pm ct oc : Value} {an od : Option Addr}
    {osl : Array (Option Value)} {N : List Str} {ar : Arg} {nt : List Str} {sp : Sp} {p0 p1 p2 p3 p4 p5 : Pos} {j : Nat} {m : Str} {pl : Sem Bool}
    (lk : K.lookup f = some ⟨oc, od, .func (PySem.W.ksFn name qual params (.Expr (.Call (.Attribute (.Call (.Name "super" p0) [] [] p1) "__init__" p2) [.Constant (.str m) j p3] [] p4) p5 :: rest) scope dV kV doc pm an (.ref cda) ct cc), osl⟩)
    (S : SupScope N scope) (T : SupC P K mg C f cda cc qual) (hp : (params.posonlyargs ++ params.args).head? = some ar) (hN : N = ar.arg :: nt) (hi : ∀ L, interactive (PySem.W.ksEnv qual scope L f (.ref cda) cc) = false)
    (hs : ∀ L, swapsWith (.Call (.Attribute (.Call (.Name "super" p0) [] [] p1) "__init__" p2) [.Constant (.str m) j p3] [] p4) none p5.line (PySem.W.ksEnv qual scope L f (.ref cda) cc) = pure false)
    (he : ∀ L, eval (.Call (.Attribute (.Call (.Name "super" p0) [] [] p1) "__init__" p2) [.Constant (.str m) j p3] [] p4) (PySem.W.ksEnv qual scope L f (.ref cda) cc) = (do
      let ov ← attributeBase (.Call (.Name "super" p0) [] [] p1) "__init__" (PySem.W.ksEnv qual scope L f (.ref cda) cc) (eval (.Call (.Name "super" p0) [] [] p1) (PySem.W.ksEnv qual scope L f (.ref cda) cc))
      standAt p2.atName
      let (f', first) ← holding [ov] (getMethod ov "__init__" pl)
      callWith p4 f' first (backTo p4 (starEach [.Constant (.str m) j p3] (PySem.W.ksEnv qual scope L f (.ref cda) cc))) []))
    (len : ∀ vs H Q E, sp vs H Q E → vs.length = N.length) (hsp : ∀ vs H Q E, sp vs H Q E → ∃ a ws, vs = .ref a :: ws ∧ H a = some (exo a C none))
    (hbody : ∀ (A : Around) (outer : List Env) (s : Shared) (H : Hp) (vs : List V) (Q : VK) (E : XK), Room k (A.deeper (PySem.W.ksEnv qual scope s.heap.objs.size f (.ref cda) cc)) → sp vs H Q E →
      ∃ t, PSs (cxSup CX P w K mg base N qual scope f (.ref cda) cc A outer s H E) rest t ∧ t { nx := fun _ H' => Q .non H', rt := Q } (vs.map some) H) :
    FnOk P w K mg base CX (k + 1) f (PySem.W.ksFn name qual params (.Expr (.Call (.Attribute (.Call (.Name "super" p0) [] [] p1) "__init__" p2) [.Constant (.str m) j p3] [] p4) p5 :: rest) scope dV kV doc pm an (.ref cda) ct cc) N sp := by
  refine ⟨len, fun A outer s H args us vs Q E hr e0 hb r hq0 => ?_⟩
  have hl := len _ _ _ _ hq0
  have KX : K.In s.heap := e0.mod.kin.keeps fun b o e => (e0.bs b o e).1
  have lim : s.heap.NoLimit := e0.mod.nolimit.keeps fun b o e => (e0.bs b o e).1
  refine PySem.ks_codeAny_call_defAt (fd := PySem.W.ksFn name qual params (.Expr (.Call (.Attribute (.Call (.Name "super" p0) [] [] p1) "__init__" p2) [.Constant (.str m) j p3] [] p4) p5 :: rest) scope dV kV doc pm an (.ref cda) ct cc) hr.depth (KX _ _ lk) rfl lim (PySem.W.codeRec_of KX T.code) rfl hb S.nocell (fun y hy => S.par _ (List.of_mem_zip hy).1) (fun h1 ns kp => ?_) S.co S.gen S.kind
  have I : Inv (cxSup CX P w K mg base N qual scope f (.ref cda) cc A outer s H E) [] (vs.map some) H { s with heap := h1, toks := s.toks + (N.zip us).length } := sup_start S T hr.hd e0 hl r ns kp
  obtain ⟨a, ws, rfl, ea⟩ := hsp _ _ _ _ hq0
  obtain ⟨t, ht, hq⟩ := hbody A outer s H _ Q E (hr.deeper _) hq0
  cases r with
  | @cons _ u0 _ ur ra rw' =>
  obtain rfl : u0 = Value.ref a := ra
  obtain ⟨nm, qn, NN, bs, bm, sn, sub, ab, col, dd, k0, k1, k2, k3, k5, hC, hbm⟩ := T.ox.cls
  have hcl : PySem.W.clsIn K C = some { name := nm, bases := bs, mro := .ref C :: bm, ns := NN, qualname := qn, hasDict := true, slotNames := sn, subclasses := sub, abstract := ab, collection := col, hasDel := false } := by unfold PySem.W.clsIn; rw [hC] <;> rfl
  obtain ⟨ccl, cdd, fvs, ccs, fl, tf, hcode, hfv, hfile⟩ := T.file
  obtain ⟨cl, cld, csl, hcell⟩ := T.cell
  obtain ⟨mb, hmb, hbb⟩ := e0.mod.blt
  have X1 : K.In h1 := I.kIn
  obtain ⟨t1, ho⟩ := exo_at I.hok ea
  have hIn : PySem.W.InstAt h1 a (HandSPX.excO C t1) C none := ⟨ho, rfl, rfl, trivial⟩
  have hne : a ≠ C := PySem.W.ks_ne X1 hIn hcl
  have hsub : PySem.W.mroIn K C (.ref C) = some true := by
    unfold PySem.W.mroIn
    rw [hcl, Option.bind_some]
    show (if (Value.ref C :: bm).isEmpty = true then none else some ((Value.ref C :: bm).contains (Value.ref C))) = some true
    rw [if_neg (show ¬ (List.isEmpty (Value.ref C :: bm) = true) from Bool.false_ne_true), List.contains_cons, beq_self_eq_true, Bool.true_or]
  have hm2 : PySem.W.alongIn K "__init__" (((Value.ref C :: bm).dropWhile (· != .ref C)).drop 1) = some (some (.builtin "ValueError.__init__")) := by
    have h9 := T.up
    unfold PySem.W.ks_superIn at h9
    rw [hcl] at h9
    exact h9
  have hself : (N.zip (Value.ref a :: ur)).reverse.lookup ar.arg = some (.ref a) := by
    have hul : N.length = (Value.ref a :: ur).length := by
      rw [← hl, List.length_cons, List.length_cons, Paired.length rw']
    rw [lookup_reverse_of_nodup _ (by rw [zip_keys hul]; exact S.nd)]
    exact zip_look (i := 0) S.nd (by rw [hN]; rfl) rfl
  have hka : scope.names.lookup ar.arg = some .local := S.par _ (by rw [hN]; exact List.mem_cons_self ..)
  refine PySem.ks_wpAt_execs_cons ?_
  refine PySem.ks_wpAt_Expr_any ?_ (hi _) (hs _)
  refine PySem.ks_wpAt_MethodCall ?_ (he _)
  refine PySem.ks_wpAt_super_base (env := PySem.W.ksEnv qual scope s.heap.objs.size f (.ref cda) cc) S.sup S.cls (by decide) rfl (X1 _ _ lk) rfl hp rfl (X1 _ _ hcode) rfl hfv hfile T.top ?_
  refine PySem.W.ks_loadName_global S.kind S.sup (loadGlobal_builtin (env := PySem.W.ksEnv qual scope s.heap.objs.size f (.ref cda) cc) (e0.mod.glob.keeps I.bk) T.sup (hmb.keeps I.bk) ((hbb _ (by decide +kernel)).trans boot_super) ⟨rfl, ?_⟩)
  refine wpAny_loadName_free S.kind S.cls rfl ⟨_, X1 _ _ hcell, rfl⟩ ?_
  refine wpAny_loadName_local S.kind hka ns hself ?_
  refine PySem.ks_wpAny_isType_cls (X1 _ _ hC) rfl ⟨rfl, ?_⟩
  refine PySem.ks_wpAny_call_super (X1 _ _ hC) rfl ho rfl (fun c e => by cases e) (PySem.W.looks_mroIn X1 hsub) (fun h2 e2 kp2 => ?_)
  have X2 : K.In h2 := fun b o e => kp2 b o (X1 b o e)
  have hI2 : PySem.W.Looks (model P w) h2 (isInstance (.ref a) (.type "ValueError")) true := (PySem.W.InstAt.type (M := model P w) (⟨kp2 _ _ ho, rfl, rfl, trivial⟩ : PySem.W.InstAt h2 a (HandSPX.excO C t1) C none)).andThen (PySem.W.looks_subIn X2 T.ve)
  refine PySem.W.kxs_getMethod PySem.W.kxs_ValueError e2 (PySem.W.looks_opaque X2 T.third) (l₀ := .ref C :: bm) (fun A Q E s k q => wpAny_bind ((PySem.W.looks_clsIn X2 hcl) A _ E s k (wpAny_pure q))) rfl X2 hm2 hI2 hne (by decide) ?_
  have lt2 : h1.objs.size ≤ h2.objs.size := by
    exact Nat.le_of_lt (Heap.lt_size e2)
  have kp3 : ∀ b o, h1.get? b = some o → (h2.push (PySem.W.kxs_mw "ValueError.__init__" a)).get? b = some o := fun b o e => Heap.get?_push_of_some _ (kp2 b o e)
  have hmw : (h2.push (PySem.W.kxs_mw "ValueError.__init__" a)).get? h2.objs.size = some (PySem.W.kxs_mw "ValueError.__init__" a) := Heap.get?_push_at rfl rfl
  have J0 := I.kept (h' := h2.push (PySem.W.kxs_mw "ValueError.__init__" a)) (t' := s.toks + (N.zip (Value.ref a :: ur)).length + 1) kp3
  have J := J0.pins_of (pins' := [(h2.objs.size, PySem.W.kxs_mw "ValueError.__init__" a)]) (fun p hp9 => by
    rw [List.mem_singleton.mp hp9]
    exact ⟨hmw, I.hok.fresh lt2, fun z => absurd I.lt (by rw [← z]; exact Nat.not_lt.mpr lt2), I.nofs lt2, fun v z => by cases z⟩)
  refine PySem.W.kxs_callWith (i := "ValueError.__init__") (x := a) rfl (evalArgs_plain ?_)
  refine thn ((pa_cons pe_str pa_nil : PA (cxSup CX P w K mg base N qual scope f (.ref cda) cc A outer s H E) [.Constant (.str m) j p3] (tCons (tC (.str m)) tNil)).run p4 [(h2.objs.size, PySem.W.kxs_mw "ValueError.__init__" a)] _ _ H (fun vs9 H9 => vs9 = [V.str m] ∧ H9 = H) J ⟨rfl, rfl⟩) fun us9 s9 ⟨vs9, H9, J9, r9, ev9, eH9⟩ => ?_
  subst ev9
  subst eH9
  have hmw9 : s9.heap.get? h2.objs.size = some (PySem.W.kxs_mw "ValueError.__init__" a) := (J9.pin (h2.objs.size, PySem.W.kxs_mw "ValueError.__init__" a) (List.mem_append_right _ (List.mem_cons_self ..))).1
  refine ⟨hmw9, ?_⟩
  obtain ⟨t9, ho9⟩ := exo_at J9.hok ea
  have hC9 := J9.kIn _ _ hC
  have hl9 : us9.length ≤ sizeLine := by
    rw [← Paired.length r9, sizeLine_eq]
    show 1 ≤ 16777216
    decide
  obtain ⟨hp9, g9, d9, tk9, os9⟩ := s9
  refine call_bwV hC9 ho9 hmw9 hl9 fun h' t' kp9 hx => ?_
  have J10 := J9.write (t' := tk9) (x := a) (e := a) (o := exo a C none) (by rw [ea]; exact True.intro) (.inl rfl) kp9 ⟨_, hx⟩ (exo_ok hx)
  have eu : upd H9 a (exo a C none) = H9 := by
    funext b
    by_cases hb9 : b = a
    · rw [hb9, upd_same, ea]
    · rw [upd_ne hb9]
  rw [eu] at J10
  have J11 := J10.pins_of (pins' := []) (fun p hp9 => by simp at hp9)
  refine wpAt_of_wpAny (wpAny_mono (ht.run [] _ _ H9 _ J11 hq) (fun fl s' hs' => ?_) fun e s' hs' => hs')
  have fin : ∀ {σ' : L2.St} {H' : Hp} {v : V} {u : Value}, Inv (cxSup CX P w K mg base N qual scope f (.ref cda) cc A outer s H9 E) [] σ' H' s' → RelV v u → Q v H' → CE outer P w H9 s Q u s' :=
    fun {σ' H' v u} J rv q => ⟨v, H', J.os, J.bare, J.base, J.hok, rv, q⟩
  cases fl with
  | ret u =>
    obtain ⟨v, σ', H', J, rv, q⟩ := hs'
    exact fin J rv q
  | next =>
    obtain ⟨σ', H', J, q⟩ := hs'
    exact fin (v := V.non) (u := Value.none) J rfl q
  | brk =>
    obtain ⟨_, _, _, q⟩ := hs'
    exact False.elim q
  | cont =>
    obtain ⟨_, _, _, q⟩ := hs'
    exact False.elim q
end Wp
set_option Elab.async false
set_option linter.all false
set_option maxRecDepth 100000
set_option maxHeartbeats 2000000
/-! WpR11: BadPlan(state, reason), BadFoe(state, number, reason): made, raised. -/
namespace Wp
open PySem PySem.Spec PyProof.Rows L2 WP PySem.Calls
/-- an own class of error: what the top has written -/
structure ErrAt (P : Program) (K : PySem.W.Frag) (mg : Str → Option Value) (x q : Str) (C : Addr) (i : Nat) (fl : List Str) : Prop where
  g : mg x = some (.ref C)
  ex : ∃ (f cda cc : Addr) (oc : Value) (od : Option Addr) (kV doc pm : Value) (an : Option Addr) (ct : Value) (osl : Array (Option Value)),
    K.lookup f = some ⟨oc, od, .func (PySem.W.ksFn "__init__" q (defArgs (metS i 0)) (defBody (metS i 0)) (defScope (metS i 0)) .none kV doc pm an (.ref cda) ct cc), osl⟩ ∧ SupC P K mg C f cda cc q ∧
    PySem.W.findIn K (.ref C) "__init__" = some (some (.ref f)) ∧ PySem.W.typeIn K (.ref f) = some (.type "function")
  noF : ∀ n ∈ fl, PySem.W.findIn K (.ref C) n = some none
  xf : XfC K C
  exm : PySem.W.exmOne K (.ref C) (.ref C) = some true
theorem ErrAt.ox {P : Program} {K : PySem.W.Frag} {mg : Str → Option Value} {x q : Str} {C : Addr} {i : Nat} {fl : List Str} (h : ErrAt P K mg x q C i fl) : OexC K C := by
  obtain ⟨f, cda, cc, oc, od, kV, doc, pm, an, ct, osl, lk, T, _⟩ := h.ex
  exact T.ox
/-- __init__ of an own error: its fields -/
def spErr (C : Addr) (fl : List Str) : Sp := fun vs H Q _ => ∃ (a : Addr) (ws : List V), vs = .ref a :: ws ∧ ws.length = fl.length ∧ H a = some (exo a C none) ∧
  ∀ d, H d = none → d ≠ a → Q .non (upd (upd H a (exo a C (some d))) d (exd d (fl.zip ws).reverse))
theorem upd_comm {H : Hp} {a b : Addr} {o u : HO} (h : a ≠ b) : upd (upd H a o) b u = upd (upd H b u) a o := by
  funext x
  by_cases h1 : x = a
  · subst h1
    rw [upd_ne h, upd_same, upd_same]
  · by_cases h2 : x = b
    · subst h2
      rw [upd_same, upd_ne h1, upd_same]
    · rw [upd_ne h2, upd_ne h1, upd_ne h1, upd_ne h2]
theorem sup_scope {N : List Str} {sc : Scope} (h1 : sc.kind = .function) (h2 : sc.isCoroutine = false) (h3 : sc.isGenerator = false) (h4 : N.Nodup) (h5 : ∀ x ∈ N, sc.names.lookup x = some .local) (h6 : ∀ x ∈ sc.names, x.2 ≠ .cell)
    (h7 : ∀ p ∈ sc.names, p.2 = .free → p.1 = ("__class__" : Str)) (h8 : sc.names.lookup ("super" : Str) = some .globalImplicit) (h9 : sc.names.lookup ("__class__" : Str) = some .free) : SupScope N sc :=
  ⟨h1, h2, h3, h4, h5, h6, fun x hx => h7 _ (PySem.mem_of_lookup hx) rfl, h8, h9⟩
theorem scBP : SupScope ["self", "state", "reason"] (defScope (metS 7 0)) := sup_scope rfl rfl rfl (by decide +kernel) (by decide +kernel) (by decide +kernel) (by decide +kernel) (by decide +kernel) (by decide +kernel)
theorem scBF : SupScope ["self", "state", "number", "reason"] (defScope (metS 8 0)) := sup_scope rfl rfl rfl (by decide +kernel) (by decide +kernel) (by decide +kernel) (by decide +kernel) (by decide +kernel) (by decide +kernel)
section
variable {P : Program} {w : World} {K : PySem.W.Frag} {mg : Str → Option Value} {base : Heap}
theorem fn_bp {C : Addr} (B : ErrAt P K mg "BadPlan" "BadPlan.__init__" C 7 ["state", "reason"]) : ∃ (f : Addr) (fd : FuncData), FnOk P w K mg base CX0 1 f fd ["self", "state", "reason"] (spErr C ["state", "reason"]) ∧
    PySem.W.findIn K (.ref C) "__init__" = some (some (.ref f)) ∧ PySem.W.typeIn K (.ref f) = some (.type "function") ∧ Binds K fd ["self", "state", "reason"] [] := by
  have T := B.ox
  obtain ⟨f, cda, cc, oc, od, kV, doc, pm, an, ct, osl, lk, TC, iC, tI⟩ := B.ex
  refine ⟨f, _, fn_sup lk scBP TC rfl rfl (fun _ => rfl) (fun _ => rfl) (fun _ => rfl) (fun vs H Q E h => ?_) (fun vs H Q E h => ?_) (fun A outer s H vs Q E hr h => ?_), iC, tI, .all fun us hl => match us, hl with | [_, _, _], _ => rfl⟩
  · obtain ⟨a, ws, rfl, hl, _⟩ := h
    rw [List.length_cons, hl]
    rfl
  · obtain ⟨a, ws, rfl, hl, ea, _⟩ := h
    exact ⟨a, ws, rfl, ea⟩
  obtain ⟨a, ws, rfl, hl, ea, q⟩ := h
  obtain ⟨x, y, rfl⟩ : ∃ x y, ws = [x, y] := match ws, hl with | [x, y], _ => ⟨x, y, rfl⟩
  refine ⟨_, pss_cons (ps_ost (pv 0) (pv 1)) (pss_one (ps_ost (pv 0) (pv 2))), ?_⟩
  refine ⟨_, rfl, _, rfl, a, C, rfl, T, B.noF _ (by decide), .inl ⟨ea, fun d nd nda => ?_⟩⟩
  have h1 : upd (upd H d (exd d [("state", x)])) a (exo a C (some d)) a = some (exo a C (some d)) := upd_same
  have h2 : upd (upd H d (exd d [("state", x)])) a (exo a C (some d)) d = some (exd d [("state", x)]) := by rw [upd_ne nda, upd_same]
  refine ⟨_, rfl, _, rfl, a, C, rfl, T, B.noF _ (by decide), .inr ⟨d, _, h1, h2, by show 1 ≤ 900; decide, ?_⟩⟩
  have e : upd (upd (upd H d (exd d [("state", x)])) a (exo a C (some d))) d (exd d [("reason", y), ("state", x)]) = upd (upd H a (exo a C (some d))) d (exd d [("reason", y), ("state", x)]) := by
    rw [upd_comm (Ne.symm nda).symm, upd_upd]
  show Q .non _
  rw [e]
  exact q d nd nda
theorem fn_bf {C : Addr} (B : ErrAt P K mg "BadFoe" "BadFoe.__init__" C 8 ["state", "number", "reason"]) : ∃ (f : Addr) (fd : FuncData), FnOk P w K mg base CX0 1 f fd ["self", "state", "number", "reason"] (spErr C ["state", "number", "reason"]) ∧
    PySem.W.findIn K (.ref C) "__init__" = some (some (.ref f)) ∧ PySem.W.typeIn K (.ref f) = some (.type "function") ∧ Binds K fd ["self", "state", "number", "reason"] [] := by
  have T := B.ox
  obtain ⟨f, cda, cc, oc, od, kV, doc, pm, an, ct, osl, lk, TC, iC, tI⟩ := B.ex
  refine ⟨f, _, fn_sup lk scBF TC rfl rfl (fun _ => rfl) (fun _ => rfl) (fun _ => rfl) (fun vs H Q E h => ?_) (fun vs H Q E h => ?_) (fun A outer s H vs Q E hr h => ?_), iC, tI, .all fun us hl => match us, hl with | [_, _, _, _], _ => rfl⟩
  · obtain ⟨a, ws, rfl, hl, _⟩ := h
    rw [List.length_cons, hl]
    rfl
  · obtain ⟨a, ws, rfl, hl, ea, _⟩ := h
    exact ⟨a, ws, rfl, ea⟩
  obtain ⟨a, ws, rfl, hl, ea, q⟩ := h
  obtain ⟨x, y, z, rfl⟩ : ∃ x y z, ws = [x, y, z] := match ws, hl with | [x, y, z], _ => ⟨x, y, z, rfl⟩
  refine ⟨_, pss_cons (ps_ost (pv 0) (pv 1)) (pss_cons (ps_ost (pv 0) (pv 2)) (pss_one (ps_ost (pv 0) (pv 3)))), ?_⟩
  refine ⟨_, rfl, _, rfl, a, C, rfl, T, B.noF _ (by decide), .inl ⟨ea, fun d nd nda => ?_⟩⟩
  have h1 : upd (upd H d (exd d [("state", x)])) a (exo a C (some d)) a = some (exo a C (some d)) := upd_same
  have h2 : upd (upd H d (exd d [("state", x)])) a (exo a C (some d)) d = some (exd d [("state", x)]) := by rw [upd_ne nda, upd_same]
  refine ⟨_, rfl, _, rfl, a, C, rfl, T, B.noF _ (by decide), .inr ⟨d, _, h1, h2, by show 1 ≤ 900; decide, ?_⟩⟩
  refine ⟨_, rfl, _, rfl, a, C, rfl, T, B.noF _ (by decide), .inr ⟨d, _, (upd_ne (Ne.symm nda)).trans h1, upd_same, by show 2 ≤ 900; decide, ?_⟩⟩
  have e : upd (upd (upd (upd H d (exd d [("state", x)])) a (exo a C (some d))) d (exd d [("number", y), ("state", x)])) d (exd d [("reason", z), ("number", y), ("state", x)]) = upd (upd H a (exo a C (some d))) d (exd d [("reason", z), ("number", y), ("state", x)]) := by
    rw [upd_upd, upd_comm (Ne.symm nda).symm, upd_upd]
  show Q .non _
  rw [e]
  exact q d nd nda
end
/-- the end of C(e, ..): the exception's own dict is new -/
theorem err_end {C : Addr} {fl : List Str} {H1 : Hp} {vs : List V} {Q : XK} (hl : vs.length = fl.length) (hz : fl.length ≤ 1000) (q : ∀ d, H1 d = none → Q (.ref C) (some d) (upd H1 d (.xd (fl.zip vs).reverse))) :
    vs.length ≤ 1000 ∧ ∀ a, H1 a = none → spErr C fl (.ref a :: (vs ++ [])) (upd H1 a (exo a C none))
      (fun v H2 => v = .non ∧ ∃ (d : Addr) (fs : List (Str × V)), H2 a = some (exo a C (some d)) ∧ H2 d = some (exd d fs) ∧ H1 d = none ∧ Q (.ref C) (some d) (upd (del H2 a) d (.xd fs))) (fun _ _ _ => False) := by
  refine ⟨by omega, fun a na => ⟨a, vs ++ [], rfl, by rw [List.append_nil]; exact hl, upd_same, fun d nd nda => ⟨rfl, d, (fl.zip vs).reverse, ?_, ?_, ?_, ?_⟩⟩⟩
  · rw [upd_ne (Ne.symm nda), upd_same]
  · rw [List.append_nil, upd_same]
  · rwa [upd_ne nda] at nd
  · have nd1 : H1 d = none := by rwa [upd_ne nda] at nd
    have e : upd (del (upd (upd (upd H1 a (exo a C none)) a (exo a C (some d))) d (exd d (fl.zip (vs ++ [])).reverse)) a) d (.xd (fl.zip vs).reverse) = upd H1 d (.xd (fl.zip vs).reverse) := by
      funext b
      by_cases hb : b = d
      · subst hb
        rw [upd_same, upd_same]
      · rw [upd_ne hb, upd_ne hb]
        by_cases ha : b = a
        · subst ha
          rw [del_same, na]
        · rw [del_ne ha, upd_ne hb, upd_ne ha, upd_ne ha]
    rw [e]
    exact q d nd1
end Wp
set_option Elab.async false
set_option linter.all false
set_option maxRecDepth 100000
set_option maxHeartbeats 2000000
set_option pp.maxSteps 400
/-! WpD23: number_for, reached_rows with an empty plan, answer_at, met_rows with an empty foe: they raise. -/
namespace Wp
open PySem PySem.Spec PyProof.Rows L2 WP
structure Txe (P : Program) (K : PySem.W.Frag) (mg : Str → Option Value) (c : Cs) : Prop where
  bp : ErrAt P K mg "BadPlan" "BadPlan.__init__" c.badPlan 7 ["state", "reason"]
  bf : ErrAt P K mg "BadFoe" "BadFoe.__init__" c.badFoe 8 ["state", "number", "reason"]
/-- the fields of the two errors -/
def fsP (a : Addr) : List (Str × V) := [("reason", .str "lacks"), ("state", .ref a)]
def fsF (a : Addr) : List (Str × V) := [("reason", .str "lacks"), ("number", .int 1), ("state", .ref a)]
/-- what is raised for an empty plan, an empty foe -/
def RaiseP (c : Cs) (H : Hp) (r : List Nat) (E : XK) : Prop := ∀ (a d : Addr) (H' : Hp), Same H H' → RowAt H' a r → H' d = some (.xd (fsP a)) → E (.ref c.badPlan) (some d) H'
def RaiseF (c : Cs) (H : Hp) (r : List Nat) (E : XK) : Prop := ∀ (a d : Addr) (H' : Hp), LamX.ExtN H H' → RowAt H' a r → H' d = some (.xd (fsF a)) → E (.ref c.badFoe) (some d) H'
theorem RaiseP.to {c : Cs} {H H' : Hp} {r : List Nat} {E : XK} (h : RaiseP c H r E) (s : Same H H') : RaiseP c H' r E := fun a d H2 e => h a d H2 (s.trans e)
theorem RaiseF.to {c : Cs} {H H' : Hp} {r : List Nat} {E : XK} (h : RaiseF c H r E) (s : LamX.ExtN H H') : RaiseF c H' r E := fun a d H2 e => h a d H2 (s.trans e)
theorem ext_same {H H' : Hp} (s : Same H H') : LamX.ExtN H H' := fun b o e _ => s b o e
def spNFx (c : Cs) : Sp := fun vs H _ E => ∃ (pl a : Addr) (r : List Nat), vs = [.ref pl, .ref a] ∧ RowD H pl [] ∧ RowAt H a r ∧ RaiseP c H r E
def spRRx (c : Cs) : Sp := fun vs H _ E => ∃ (A : LogA) (d : LogD) (pa : Addr), vs = [.ref A.lg, .ref pa] ∧ LogOk c H A d ∧ RowD H pa [] ∧ 1 < (rowOf d).sum ∧ RaiseP c H (rowOf d) E
def spATx (c : Cs) (P : Program) (w : World) : Sp := fun vs H _ E => ∃ (fo a : Addr) (r : List Nat), vs = [.ref fo, .ref a, .int 1] ∧ FoeAt P w H fo [] ∧ RowAt H a r ∧ RaiseF c H r E
def spMRx (c : Cs) (P : Program) (w : World) : Sp := fun vs H _ E => ∃ (A : LogA) (d : LogD) (fa : Addr), vs = [.ref A.lg, .ref fa] ∧ LogOk c H A d ∧ FoeAt P w H fa [] ∧ 1 < (rowOf d).sum ∧ RaiseF c H (rowOf d) E
section
variable {P : Program} {w : World} {K : PySem.W.Frag} {mg : Str → Option Value} {base : Heap} {c : Cs}
theorem cal_nfx (T : Txt K mg c) (B : Txe P K mg c) : CalX P w K mg base 3 "number_for" (spNFx c) := by
  have OE := B.bp.ox
  obtain ⟨fe, fde, FE, iE, tE, bE⟩ := fn_bp (w := w) (base := base) B.bp
  refine calx_mk T.number_for scNF (fun _ _ _ _ _ _ us hl => match us, hl with | [_, _], _ => rfl) (fun vs H Q E h => ?_) (fun f cdv A outer s H vs Q E hr h => ?_)
  · obtain ⟨pl, a, r, rfl, _⟩ := h
    rfl
  obtain ⟨pl, a, r, rfl, hp, ha, q⟩ := h
  refine ⟨_, (pss_cons (ps_if (pt_cmp (pc_dnotin (hu_of hr) (pv 1) (pv 0))) (pss_one (ps_raise rfl (takes_of (E := E) rfl rfl rfl rfl) (pmk_oex OE iE tE FE (hr.mono (by decide)) bE .nil C8.pass0 rfl B.bp.g (pa_cons (pv 1) (pa_cons pe_str pa_nil))))) pss_nil)
    (pss_cons (ps_set (i := 2) scNF.nd rfl (.inl rfl) (pe_dget (hu_of hr) (pv 0) (pv 1) (fun _ _ => rfl)))
    (pss_cons (ps_if (PW.pt (pw_or (pt_not (pt_val (C8.pe_c (cal_ii T) hr (by decide) rfl (pa_cons (pv 2) pa_nil)))) (pw_or (pt_cmpR op_lt (pv 2) pe_int (nomark _)) (pw_or1 (pt_cmpR op_ge (pv 2) (pe_callB (cr_sumT rfl) (by rfl) T.bSum (by decide +kernel) (pa_cons (pv 1) pa_nil)) (nomark _)))))) (pss_one ps_never) pss_nil)
    (pss_one (ps_ret (pv 2)))))), ?_⟩
  refine ⟨_, rfl, _, rfl, pl, _, rfl, rd_get hp ha, _, rfl, if1 rfl ?_⟩
  refine ⟨_, rfl, err_end rfl (by decide) fun d nd => ?_⟩
  have s1 : Same H (upd H d (.xd (([Str.ofString "state", Str.ofString "reason"] : List Str).zip [V.ref a, V.str "lacks"]).reverse)) := same_new nd
  exact q a d _ s1 (s1 _ _ ha) upd_same
theorem cal_rrx (T : Txt K mg c) (B : Txe P K mg c) : CalX P w K mg base 6 "reached_rows" (spRRx c) := by
  refine calx_mk T.reached_rows scRR (fun _ _ _ _ _ _ us hl => match us, hl with | [_, _], _ => rfl) (fun vs H Q E h => ?_) (fun f cdv A outer s H vs Q E hr h => ?_)
  · obtain ⟨A, d, pa, rfl, _⟩ := h
    rfl
  obtain ⟨LA, d, pa, rfl, hL, hpa, h1, q⟩ := h
  generalize hLe : d.L = L
  have hL3 : L ≤ 3 := by have := hL.hL; omega
  refine ⟨_, (pss_cons (ps_set (i := 2) scRR.nd rfl (.inl rfl) (pe_lst (pa_cons (C8.pe_mt0 (met_ro T) hr (by decide) (pv 0)) pa_nil)))
    (pss_cons (ps_set (i := 3) scRR.nd rfl (.inl rfl) (pe_seen0 (L + 1) (i := 2) (pe_dispT (hu100 hr) (pe_ix ix_list (pv 2) pe_int (fun _ _ => rfl)) pe_bl)))
    (pss_cons (ps_set (i := 4) scRR.nd rfl (.inl rfl) pe_int)
    (pss_cons (ps_while (passes_of rfl) (pt_cmpR op_lt (pv 4) (pe_callB call_len_seq (by rfl) T.bLen (by decide +kernel) (pa_cons (pv 2) pa_nil)) (nomark _))
    (pss_cons (ps_set (i := 5) scRR.nd rfl (.inl rfl) (pe_ix ix_list (pv 2) (pv 4) (fun _ _ => rfl)))
    (pss_cons (ps_aug (i := 4) scRR.nd rfl (.inl rfl) pe_int ip_add)
    (pss_one (ps_if (pt_cmpR op_gt (pe_callB (cr_sumT rfl) (by rfl) T.bSum (by decide +kernel) (pa_cons (pv 5) pa_nil)) pe_int (nomark _)) (pss_one (ps_for (passes_of rfl) rfl (pi_tup (C8.pe_c (cal_bo T) hr (by decide) rfl (pa_cons (pv 0) (pa_cons (pv 5) (pa_cons (pe_cX (cal_nfx T B) hr (by decide) rfl (fun σ => passAt (takes_of (E := E) rfl rfl rfl rfl) σ) (pa_cons (pv 1) (pa_cons (pv 5) pa_nil))) pa_nil))))) (pg_name (i := 6) scRR.nd rfl (.inl rfl))
    (pss_one (ps_see (L + 1) (i := 6) (j := 3) (k := 2) (ps_if (pt_cmp (pc_dnotin (hu_of hr) (pv 6) (pv 3))) (pss_cons (ps_dput (hu_of hr) (pv 3) (pv 6) pe_bl rfl) (pss_one (ps_expr (pe_bm PySem.F.plainAttrs_list PySem.F.slot_list_append PySem.F.type_list_append mt_append (pv 2) (pa_cons (pv 6) pa_nil))))) pss_nil))))) pss_nil)))))
    (pss_one (ps_ret (pv 2))))))), ?_⟩
  refine ⟨_, rfl, LA.lg, LA.dx, _, rfl, hL.at_.lg, rfl, LA, d, rfl, hL.at_, hL.len, hL.hL, hL.ne, fun p H1 s1 hr1 => ?_⟩
  refine ⟨by show 1 ≤ sizeLine; decide, fun l nl => ?_⟩
  have s2 : Same H1 (upd H1 l (.lst [.ref p])) := same_new nl
  have hl2 : upd H1 l (.lst [.ref p]) l = some (.lst [.ref p]) := upd_same
  generalize upd H1 l (.lst [.ref p]) = H2 at s2 hl2
  have ho := hL.ok
  rw [hLe] at ho
  refine ⟨l, p, rowOf d, rfl, hl2, s2 _ _ hr1, ho, fun sn H3 s3 nsn Bf => ?_⟩
  have s03 : Same H H3 := s1.trans (s2.trans s3)
  have hl3 := Bf.ls
  have ha3 : RowAt H3 p (rowOf d) := s3 _ _ (s2 _ _ hr1)
  refine ⟨fun m σ H' => m = 0 ∧ σ = [some (.ref LA.lg), some (.ref pa), some (.ref l), some (.ref sn), some (.int 0), none, none] ∧ H' = H3, ⟨0, rfl, rfl, rfl⟩, ?_⟩
  rintro m σ H4 ⟨rfl, rfl, rfl⟩
  have er : rv (rowOf d) = ((rowOf d).map fun n : Nat => (n : Int)).map V.int := rv_ints _
  have htop := ho.top
  have hlr := ho.len
  refine ⟨_, rfl, _, rfl, l, _, rfl, .inl (SqL.of hl3), _, _, rfl, rfl, _, rfl, ?_⟩
  refine if1 (decide_eq_true (show (0 : Int) < ((1 : Nat) : Int) by decide)) ⟨_, fun σ' H' z => z, ?_⟩
  refine ⟨_, rfl, _, rfl, l, _, _, _, rfl, rfl, SqL.of hl3, atI_nat (j := 0) rfl, ?_⟩
  refine ⟨_, rfl, _, _, rfl, rfl, ?_⟩
  refine ⟨_, rfl, p, _, rfl, er ▸ SqT.of ha3, _, _, rfl, rfl, _, rfl, ?_⟩
  rw [sum_ints]
  refine if1 (decide_eq_true (by omega)) ?_
  exact ⟨_, rfl, _, rfl, _, rfl, _, rfl, pa, p, rowOf d, rfl, s03 _ _ hpa, ha3, q.to s03⟩
theorem cal_atx (T : Txt K mg c) (B : Txe P K mg c) : CalX P w K mg base 3 "answer_at" (spATx c P w) := by
  have OE := B.bf.ox
  obtain ⟨fe, fde, FE, iE, tE, bE⟩ := fn_bf (w := w) (base := base) B.bf
  refine calx_mk T.answer_at scAT (fun _ _ _ _ _ _ us hl => match us, hl with | [_, _, _], _ => rfl) (fun vs H Q E h => ?_) (fun f cdv A outer s H vs Q E hr h => ?_)
  · obtain ⟨fo, a, r, rfl, _⟩ := h
    rfl
  obtain ⟨fo, a, r, rfl, hf, ha, q⟩ := h
  refine ⟨_, (pss_cons (ps_set (i := 3) scAT.nd rfl (.inl rfl) (pe_tup (pa_cons (pv 1) (pa_cons (pv 2) pa_nil))))
    (pss_cons (ps_if (pt_cmp (pc_fnotin (hu100 hr) (pv 3) (pv 0))) (pss_one (ps_raise rfl (takes_of (E := E) rfl rfl rfl rfl) (pmk_oex OE iE tE FE (hr.mono (by decide)) bE .nil C8.pass0 rfl B.bf.g (pa_cons (pv 1) (pa_cons (pv 2) (pa_cons pe_str pa_nil)))))) pss_nil)
    (pss_cons (ps_if (pt_not (pt_val (pe_callB call_isi (by rfl) T.bIsi (by decide +kernel) (pa_cons (pe_fget (hu100 hr) (pv 0) (pv 3) (fun _ _ => rfl)) (pa_cons (pe_bltn (v := .ty "bool") (u := .type "bool") rfl T.bBool (by decide +kernel) rfl) pa_nil))))) (pss_one ps_never) pss_nil)
    (pss_one (ps_ret (pe_fget (hu100 hr) (pv 0) (pv 3) (fun _ _ => rfl))))))), ?_⟩
  refine ⟨_, rfl, _, rfl, by show 2 ≤ sizeLine; decide, fun t nt => ?_⟩
  have s1 : Same H (upd H t (.tup [.ref a, .int 1])) := same_new nt
  have ht : upd H t (.tup [.ref a, .int 1]) t = some (.tup [.ref a, .int ((1 : Nat) : Int)]) := upd_same
  generalize upd H t (.tup [.ref a, .int 1]) = H1 at s1 ht
  have hf1 := (hf.to s1).rd
  have hk : FKey H1 t r 1 := ⟨a, ht, s1 _ _ ha⟩
  refine ⟨_, rfl, _, rfl, fo, t, r, 1, [], rfl, rfl, hf1, hk, _, rfl, if1 rfl ?_⟩
  refine ⟨_, rfl, _, rfl, err_end rfl (by decide) fun d nd => ?_⟩
  have s2 : Same H1 (upd H1 d (.xd (([Str.ofString "state", Str.ofString "number", Str.ofString "reason"] : List Str).zip [V.ref a, V.int 1, V.str "lacks"]).reverse)) := same_new nd
  exact q a d _ (ext_same (s1.trans s2)) (s2 _ _ (s1 _ _ ha)) upd_same
theorem cal_mrx (T : Txt K mg c) (B : Txe P K mg c) : CalX P w K mg base 6 "met_rows" (spMRx c P w) := by
  refine calx_mk T.met_rows scMR (fun _ _ _ _ _ _ us hl => match us, hl with | [_, _], _ => rfl) (fun vs H Q E h => ?_) (fun f cdv A outer s H vs Q E hr h => ?_)
  · obtain ⟨A, d, pa, rfl, _⟩ := h
    rfl
  obtain ⟨LA, d, fa, rfl, hL, hfa, h1, q⟩ := h
  generalize hLe : d.L = L
  have hL3 : L ≤ 3 := by have := hL.hL; omega
  refine ⟨_, (pss_cons (ps_set (i := 2) scMR.nd rfl (.inl rfl) (pe_lst (pa_cons (C8.pe_mt0 (met_ro T) hr (by decide) (pv 0)) pa_nil)))
    (pss_cons (ps_set (i := 3) scMR.nd rfl (.inl rfl) (pe_seen0 (L + 1) (i := 2) (pe_dispT (hu100 hr) (pe_ix ix_list (pv 2) pe_int (fun _ _ => rfl)) pe_bl)))
    (pss_cons (ps_set (i := 4) scMR.nd rfl (.inl rfl) pe_int)
    (pss_cons (ps_while (passes_of rfl) (pt_cmpR op_lt (pv 4) (pe_callB call_len_seq (by rfl) T.bLen (by decide +kernel) (pa_cons (pv 2) pa_nil)) (nomark _))
    (pss_cons (ps_set (i := 5) scMR.nd rfl (.inl rfl) (pe_ix ix_list (pv 2) (pv 4) (fun _ _ => rfl)))
    (pss_cons (ps_aug (i := 4) scMR.nd rfl (.inl rfl) pe_int ip_add)
    (pss_one (ps_for (passes_of rfl) rfl (pi_range2 rfl T.bRange (pa_cons pe_int (pa_cons (pe_callB (cr_sumT rfl) (by rfl) T.bSum (by decide +kernel) (pa_cons (pv 5) pa_nil)) pa_nil))) (pg_name (i := 6) scMR.nd rfl (.inl rfl))
    (pss_cons (ps_set (i := 7) scMR.nd rfl (.inl rfl) (C8.pe_c (cal_lr T) hr (by decide) rfl (pa_cons (pv 0) (pa_cons (pv 5) (pa_cons (pv 6) (pa_cons (pe_cX (cal_atx T B) hr (by decide) rfl (fun σ => passAt (takes_of (E := E) rfl rfl rfl rfl) σ) (pa_cons (pv 1) (pa_cons (pv 5) (pa_cons (pv 6) pa_nil)))) pa_nil))))))
    (pss_one (ps_see (L + 1) (i := 7) (j := 3) (k := 2) (ps_if (pt_cmp (pc_dnotin (hu_of hr) (pv 7) (pv 3))) (pss_cons (ps_dput (hu_of hr) (pv 3) (pv 7) pe_bl rfl) (pss_one (ps_expr (pe_bm PySem.F.plainAttrs_list PySem.F.slot_list_append PySem.F.type_list_append mt_append (pv 2) (pa_cons (pv 7) pa_nil))))) pss_nil)))))))))
    (pss_one (ps_ret (pv 2))))))), ?_⟩
  refine ⟨_, rfl, LA.lg, LA.dx, _, rfl, hL.at_.lg, rfl, LA, d, rfl, hL.at_, hL.len, hL.hL, hL.ne, fun p H1 s1 hr1 => ?_⟩
  refine ⟨by show 1 ≤ sizeLine; decide, fun l nl => ?_⟩
  have s2 : Same H1 (upd H1 l (.lst [.ref p])) := same_new nl
  have hl2 : upd H1 l (.lst [.ref p]) l = some (.lst [.ref p]) := upd_same
  generalize upd H1 l (.lst [.ref p]) = H2 at s2 hl2
  have ho := hL.ok
  rw [hLe] at ho
  refine ⟨l, p, rowOf d, rfl, hl2, s2 _ _ hr1, ho, fun sn H3 s3 nsn Bf => ?_⟩
  have s03 : Same H H3 := s1.trans (s2.trans s3)
  have hl3 := Bf.ls
  have ha3 : RowAt H3 p (rowOf d) := s3 _ _ (s2 _ _ hr1)
  refine ⟨fun m σ H' => m = 0 ∧ σ = [some (.ref LA.lg), some (.ref fa), some (.ref l), some (.ref sn), some (.int 0), none, none, none] ∧ H' = H3, ⟨0, rfl, rfl, rfl⟩, ?_⟩
  rintro m σ H4 ⟨rfl, rfl, rfl⟩
  have er : rv (rowOf d) = ((rowOf d).map fun n : Nat => (n : Int)).map V.int := rv_ints _
  have htop := ho.top
  have hlr := ho.len
  refine ⟨_, rfl, _, rfl, l, _, rfl, .inl (SqL.of hl3), _, _, rfl, rfl, _, rfl, ?_⟩
  refine if1 (decide_eq_true (show (0 : Int) < ((1 : Nat) : Int) by decide)) ⟨_, fun σ' H' z => z, ?_⟩
  refine ⟨_, rfl, _, rfl, l, _, _, _, rfl, rfl, SqL.of hl3, atI_nat (j := 0) rfl, ?_⟩
  refine ⟨_, rfl, _, _, rfl, rfl, ?_⟩
  refine ⟨_, rfl, p, _, rfl, er ▸ SqT.of ha3, _, _, rfl, ⟨by decide, by decide, by rw [sum_ints]; omega, by rw [sum_ints]; omega⟩, ?_⟩
  rw [sum_ints]
  refine for_range (lo := 1) (n := (((rowOf d).sum : Nat) - 1 : Int).toNat) (fun j σ H' => j = 0 ∧ σ = [some (.ref LA.lg), some (.ref fa), some (.ref l), some (.ref sn), some (.int ((0 : Int) + 1)), some (.ref p), none, none] ∧ H' = H4) ⟨rfl, rfl, rfl⟩ ?_ ?_
  · rintro j σ H5 hj ⟨rfl, rfl, rfl⟩
    exact ⟨_, rfl, _, rfl, _, rfl, _, rfl, _, rfl, _, rfl, fa, p, rowOf d, rfl, hfa.to s03, ha3, q.to (ext_same s03)⟩
  · rintro σ H5 ⟨hj, _, _⟩
    omega
end
end Wp
set_option Elab.async false
set_option linter.all false
set_option maxRecDepth 100000
set_option maxHeartbeats 2000000
set_option pp.maxSteps 400
/-! WpD24: cost_table, check_plan, check_foe, play_foe: they raise. -/
namespace Wp
open PySem PySem.Spec PyProof.Rows L2 WP
def spCTx (c : Cs) (mg : Str → Option Value) : Sp := fun vs H _ E => ∃ (A : LogA) (d : LogD) (pp pd g : Addr), vs = [.ref A.lg, .ref pp, .ref pd, .ref g] ∧ mg "greatest_of" = some (.ref g) ∧ LogOk c H A d ∧ RowD H pd [] ∧ 1 < (rowOf d).sum ∧ RaiseP c H (rowOf d) E
def spCHPx (c : Cs) : Sp := fun vs H _ E => ∃ (A : LogA) (d : LogD) (pp pd : Addr), vs = [.ref A.lg, .ref pp, .ref pd] ∧ LogOk c H A d ∧ RowD H pd [] ∧ 1 < (rowOf d).sum ∧ RaiseP c H (rowOf d) E
def spCHFx (c : Cs) (P : Program) (w : World) : Sp := fun vs H _ E => ∃ (A : LogA) (d : LogD) (pp fa : Addr), vs = [.ref A.lg, .ref pp, .ref fa] ∧ LogOk c H A d ∧ FoeAt P w H fa [] ∧ 1 < (rowOf d).sum ∧ RaiseF c H (rowOf d) E
def spPFx (c : Cs) : Sp := fun vs H _ E => ∃ (A : LogA) (d : LogD) (pp pd fa : Addr), vs = [.ref A.lg, .ref pp, .ref pd, .ref fa] ∧ LogOk c H A d ∧ RowD H pd [] ∧ 1 < (rowOf d).sum ∧ RaiseP c H (rowOf d) E
def spPFy (c : Cs) (P : Program) (w : World) (Ts : List (Addr × Str)) : Sp := fun vs H _ E => ∃ (A : LogA) (d : LogD) (pp dp pa ps : Nat) (pd fa : Addr) (es : RE) (S : List Nat → Prop) (pl : List Nat → Nat), vs = [.ref A.lg, .ref pp, .ref pd, .ref fa] ∧ LogOk c H A d ∧ PriceAt c H pp dp pa ps ∧ RowD H pd es ∧
  Covers d.q (d.L + 1) S pl es (rowOf d) ∧ Good pl ∧ FoeAt P w H fa [] ∧ LamX.Tabs Ts H ∧ 1 < (rowOf d).sum ∧ RaiseF c H (rowOf d) E
section
variable {P : Program} {w : World} {K : PySem.W.Frag} {mg : Str → Option Value} {base : Heap} {c : Cs} {Ts : List (Addr × Str)}
theorem cal_ctx (T : Txt K mg c) (R : ByR K mg base Ts) (B : Txe P K mg c) : CalX P w K mg base 7 "cost_table" (spCTx c mg) := by
  obtain ⟨g, gfd, gps, gds, FG, MG, KG, BG, hgd⟩ := (cal_go (P := P) (w := w) (base := base) T).ex
  cases hgd
  refine calx_mk T.cost_table scCT (fun _ _ _ _ _ _ us hl => match us, hl with | [_, _, _, _], _ => rfl) (fun vs H Q E h => ?_) (fun f cdv A outer s H vs Q E hr h => ?_)
  · obtain ⟨A, d, pp, pd, g', rfl, _⟩ := h
    rfl
  obtain ⟨LA, d, pp, pd, g', rfl, hg', hL, hpd, h1, q⟩ := h
  refine ⟨_, (pss_cons (ps_set (i := 4) scCT.nd rfl (.inl rfl) (pe_dnewT))
    (pss_cons (ps_for (passes_of rfl) rfl (pi_list (C8.pe_c (cal_br T R) hr (by decide) rfl (pa_cons (pe_cX (cal_rrx T B) hr (by decide) rfl (fun σ => passAt (takes_of (E := E) rfl rfl rfl rfl) σ) (pa_cons (pv 0) (pa_cons (pv 2) pa_nil))) pa_nil))) (pg_name (i := 5) scCT.nd rfl (.inl rfl))
    (pss_cons (ps_dput (hu_of hr) (pv 4) (pv 5) pe_int rfl)
    (pss_one (ps_if (pt_cmpR op_gt (pe_callB (cr_sumT rfl) (by rfl) T.bSum (by decide +kernel) (pa_cons (pv 5) pa_nil)) pe_int (nomark _)) (pss_cons (ps_asg (C8.pe_c (cal_bo T) hr (by decide) rfl (pa_cons (pv 0) (pa_cons (pv 5) (pa_cons (pe_dget (hu_of hr) (pv 2) (pv 5) (fun _ _ => rfl)) pa_nil)))) (pg_tup rfl (pgs_cons (pg_name (i := 6) scCT.nd rfl (.inl rfl)) (pgs_cons (pg_name (i := 7) scCT.nd rfl (.inl rfl)) pgs_nil))))
    (pss_one (ps_dput (hu_of hr) (pv 4) (pv 5) (pe_callL (i := 3) (E := C8.E0) FG (hr.mono (by decide)) rfl (.inl rfl) KG BG .nil C8.pass0 (pa_cons (pe_lst (pa_cons (pe_op op_add (pe_fld (pv 1) rfl) (pe_dget (hu_of hr) (pv 4) (pv 6) (fun _ _ => rfl))) (pa_cons (pe_op op_add (pe_fld (pv 1) rfl) (pe_dget (hu_of hr) (pv 4) (pv 7) (fun _ _ => rfl))) pa_nil))) pa_nil)) rfl))) pss_nil))))
    (pss_one (ps_ret (pv 4))))), ?_⟩
  intro td ntd
  have s1 : Same H (upd H td (.dT [])) := same_new ntd
  exact ⟨_, rfl, _, rfl, LA, d, pd, rfl, hL.to (Same.x s1), s1 _ _ hpd, h1, q.to s1⟩
theorem cal_chpx (T : Txt K mg c) (R : ByR K mg base Ts) (B : Txe P K mg c) : CalX P w K mg base 8 "check_plan" (spCHPx c) := by
  obtain ⟨g, gfd, gps, gds, FG, MG, KG, BG, hgd⟩ := (cal_go (P := P) (w := w) (base := base) T).ex
  refine calx_mk T.check_plan scCHP (fun _ _ _ _ _ _ us hl => match us, hl with | [_, _, _], _ => rfl) (fun vs H Q E h => ?_) (fun f cdv A outer s H vs Q E hr h => ?_)
  · obtain ⟨A, d, pp, pd, rfl, _⟩ := h
    rfl
  obtain ⟨LA, d, pp, pd, rfl, hL, hpd, h1, q⟩ := h
  refine ⟨_, (pss_one (ps_ret (pe_dget (hu_of hr) (pe_cX (cal_ctx T R B) hr (by decide) rfl (fun σ => passAt (takes_of (E := E) rfl rfl rfl rfl) σ) (pa_cons (pv 0) (pa_cons (pv 1) (pa_cons (pv 2) (pa_cons (pe_glob (v := .ref g) rfl MG rfl) pa_nil))))) (C8.pe_mt0 (met_ro T) hr (by decide) (pv 0)) (fun _ _ => rfl)))), ?_⟩
  exact ⟨_, rfl, _, rfl, _, rfl, LA, d, pp, pd, g, rfl, MG, hL, hpd, h1, q⟩
theorem cal_chfx (T : Txt K mg c) (R : ByR K mg base Ts) (B : Txe P K mg c) : CalX P w K mg base 7 "check_foe" (spCHFx c P w) := by
  refine calx_mk T.check_foe scCHF (fun _ _ _ _ _ _ us hl => match us, hl with | [_, _, _], _ => rfl) (fun vs H Q E h => ?_) (fun f cdv A outer s H vs Q E hr h => ?_)
  · obtain ⟨A, d, pp, fa, rfl, _⟩ := h
    rfl
  obtain ⟨LA, d, pp, fa, rfl, hL, hfa, h1, q⟩ := h
  refine ⟨_, (pss_cons (ps_set (i := 3) scCHF.nd rfl (.inl rfl) (pe_dnewT))
    (pss_cons (ps_for (passes_of rfl) rfl (pi_list (C8.pe_c (cal_br T R) hr (by decide) rfl (pa_cons (pe_cX (cal_mrx T B) hr (by decide) rfl (fun σ => passAt (takes_of (E := E) rfl rfl rfl rfl) σ) (pa_cons (pv 0) (pa_cons (pv 2) pa_nil))) pa_nil))) (pg_name (i := 4) scCHF.nd rfl (.inl rfl))
    (pss_cons (ps_set (i := 5) scCHF.nd rfl (.inl rfl) pe_non)
    (pss_cons (ps_for (passes_of rfl) rfl (pi_range2 rfl T.bRange (pa_cons pe_int (pa_cons (pe_callB (cr_sumT rfl) (by rfl) T.bSum (by decide +kernel) (pa_cons (pv 4) pa_nil)) pa_nil))) (pg_name (i := 6) scCHF.nd rfl (.inl rfl))
    (pss_cons (ps_set (i := 7) scCHF.nd rfl (.inl rfl) (pe_fget (hu100 hr) (pv 2) (pe_tup (pa_cons (pv 4) (pa_cons (pv 6) pa_nil))) (fun _ _ => rfl)))
    (pss_cons (ps_set (i := 8) scCHF.nd rfl (.inl rfl) (pe_op op_add (C8.pe_c (cal_po T) hr (by decide) rfl (pa_cons (pv 1) (pa_cons (pv 7) pa_nil))) (pe_dget (hu_of hr) (pv 3) (C8.pe_c (cal_lr T) hr (by decide) rfl (pa_cons (pv 0) (pa_cons (pv 4) (pa_cons (pv 6) (pa_cons (pv 7) pa_nil))))) (fun _ _ => rfl))))
    (pss_one (ps_if (PW.pt (pw_or (pt_cmpR op_isN (pv 5) pe_non (nomark _)) (pw_or1 (pt_cmpR op_lt (pv 8) (pv 5) (nomark _))))) (pss_one (ps_set (i := 5) scCHF.nd rfl (.inl rfl) (pv 8))) pss_nil)))))
    (pss_one (ps_dput (hu_of hr) (pv 3) (pv 4) (pe_ifExp (pt_cmpR op_isN (pv 5) pe_non (nomark _)) pe_int (pv 5)) rfl)))))
    (pss_one (ps_ret (pe_dget (hu_of hr) (pv 3) (C8.pe_mt0 (met_ro T) hr (by decide) (pv 0)) (fun _ _ => rfl)))))), ?_⟩
  intro td ntd
  have s1 : Same H (upd H td (.dT [])) := same_new ntd
  exact ⟨_, rfl, _, rfl, LA, d, fa, rfl, hL.to (Same.x s1), hfa.to s1, h1, q.to (ext_same s1)⟩
theorem cal_pfx (T : Txt K mg c) (R : ByR K mg base Ts) (B : Txe P K mg c) : CalX P w K mg base 9 "play_foe" (spPFx c) := by
  refine calx_mk T.play_foe scPF (fun _ _ _ _ _ _ us hl => match us, hl with | [_, _, _, _], _ => rfl) (fun vs H Q E h => ?_) (fun f cdv A outer s H vs Q E hr h => ?_)
  · obtain ⟨A, d, pp, pd, fa, rfl, _⟩ := h
    rfl
  obtain ⟨LA, d, pp, pd, fa, rfl, hL, hpd, h1, q⟩ := h
  refine ⟨_, (pss_cons (ps_expr (pe_cX (cal_chpx T R B) hr (by decide) rfl (fun σ => passAt (takes_of (E := E) rfl rfl rfl rfl) σ) (pa_cons (pv 0) (pa_cons (pv 1) (pa_cons (pv 2) pa_nil)))))
    (pss_cons (ps_expr (C8.pe_c (cal_chf T R) hr (by decide) rfl (pa_cons (pv 0) (pa_cons (pv 1) (pa_cons (pv 3) pa_nil)))))
    (pss_cons (ps_set (i := 4) scPF.nd rfl (.inl rfl) (C8.pe_mt0 (met_cb T) hr (by decide) (pv 0)))
    (pss_cons (ps_set (i := 5) scPF.nd rfl (.inl rfl) (C8.pe_mt0 (met_ro T) hr (by decide) (pv 0)))
    (pss_cons (ps_set (i := 6) scPF.nd rfl (.inl rfl) pe_int)
    (pss_cons (ps_set (i := 7) scPF.nd rfl (.inl rfl) (pe_lst pa_nil))
    (pss_cons (ps_while (passes_of rfl) (pt_cmpR op_gt (pe_callB (cr_sumT rfl) (by rfl) T.bSum (by decide +kernel) (pa_cons (pv 5) pa_nil)) pe_int (nomark _))
    (pss_cons (ps_set (i := 8) scPF.nd rfl (.inl rfl) (pe_dget (hu_of hr) (pv 2) (pv 5) (fun _ _ => rfl)))
    (pss_cons (ps_set (i := 9) scPF.nd rfl (.inl rfl) (pe_fget (hu100 hr) (pv 3) (pe_tup (pa_cons (pv 5) (pa_cons (pv 8) pa_nil))) (fun _ _ => rfl)))
    (pss_cons (ps_expr (pe_bm PySem.F.plainAttrs_list PySem.F.slot_list_append PySem.F.type_list_append mt_append (pv 7) (pa_cons (pe_tup (pa_cons (pe_ix ix_list (pv 4) (pv 8) (fun _ _ => rfl)) (pa_cons (pv 9) pa_nil))) pa_nil)))
    (pss_cons (ps_aug (i := 6) scPF.nd rfl (.inl rfl) (C8.pe_c (cal_po T) hr (by decide) rfl (pa_cons (pv 1) (pa_cons (pv 9) pa_nil))) ip_add)
    (pss_cons (ps_set (i := 5) scPF.nd rfl (.inl rfl) (C8.pe_c (cal_lr T) hr (by decide) rfl (pa_cons (pv 0) (pa_cons (pv 5) (pa_cons (pv 8) (pa_cons (pv 9) pa_nil))))))
    (pss_one (ps_set (i := 4) scPF.nd rfl (.inl rfl) (pe_ifExp (pt_val (pv 9)) (pe_slice sl_list (pv 4) (po_some (pv 8)) po_none) (pe_slice sl_list (pv 4) po_none (po_some (pe_callB (cr_sumT rfl) (by rfl) T.bSum (by decide +kernel) (pa_cons (pv 5) pa_nil)))))))))))))
    (pss_one (ps_ret (pe_tup (pa_cons (pv 6) (pa_cons (pv 7) pa_nil)))))))))))), ?_⟩
  exact ⟨_, rfl, _, rfl, _, rfl, LA, d, pp, pd, rfl, hL, hpd, h1, q⟩
theorem cal_pfy (T : Txt K mg c) (R : ByR K mg base Ts) (B : Txe P K mg c) : CalX P w K mg base 9 "play_foe" (spPFy c P w Ts) := by
  refine calx_mk T.play_foe scPF (fun _ _ _ _ _ _ us hl => match us, hl with | [_, _, _, _], _ => rfl) (fun vs H Q E h => ?_) (fun f cdv A outer s H vs Q E hr h => ?_)
  · obtain ⟨A, d, pp, dp, pa, ps, pd, fa, es, S, pl, rfl, _⟩ := h
    rfl
  obtain ⟨LA, d, pp, dp, pa, ps, pd, fa, es, S, pl, rfl, hL, hp, hpd, hcv, hgood, hfa, hT, h1, q⟩ := h
  refine ⟨_, (pss_cons (ps_expr (C8.pe_c (cal_chp T R) hr (by decide) rfl (pa_cons (pv 0) (pa_cons (pv 1) (pa_cons (pv 2) pa_nil)))))
    (pss_cons (ps_expr (pe_cX (cal_chfx T R B) hr (by decide) rfl (fun σ => passAt (takes_of (E := E) rfl rfl rfl rfl) σ) (pa_cons (pv 0) (pa_cons (pv 1) (pa_cons (pv 3) pa_nil)))))
    (pss_cons (ps_set (i := 4) scPF.nd rfl (.inl rfl) (C8.pe_mt0 (met_cb T) hr (by decide) (pv 0)))
    (pss_cons (ps_set (i := 5) scPF.nd rfl (.inl rfl) (C8.pe_mt0 (met_ro T) hr (by decide) (pv 0)))
    (pss_cons (ps_set (i := 6) scPF.nd rfl (.inl rfl) pe_int)
    (pss_cons (ps_set (i := 7) scPF.nd rfl (.inl rfl) (pe_lst pa_nil))
    (pss_cons (ps_while (passes_of rfl) (pt_cmpR op_gt (pe_callB (cr_sumT rfl) (by rfl) T.bSum (by decide +kernel) (pa_cons (pv 5) pa_nil)) pe_int (nomark _))
    (pss_cons (ps_set (i := 8) scPF.nd rfl (.inl rfl) (pe_dget (hu_of hr) (pv 2) (pv 5) (fun _ _ => rfl)))
    (pss_cons (ps_set (i := 9) scPF.nd rfl (.inl rfl) (pe_fget (hu100 hr) (pv 3) (pe_tup (pa_cons (pv 5) (pa_cons (pv 8) pa_nil))) (fun _ _ => rfl)))
    (pss_cons (ps_expr (pe_bm PySem.F.plainAttrs_list PySem.F.slot_list_append PySem.F.type_list_append mt_append (pv 7) (pa_cons (pe_tup (pa_cons (pe_ix ix_list (pv 4) (pv 8) (fun _ _ => rfl)) (pa_cons (pv 9) pa_nil))) pa_nil)))
    (pss_cons (ps_aug (i := 6) scPF.nd rfl (.inl rfl) (C8.pe_c (cal_po T) hr (by decide) rfl (pa_cons (pv 1) (pa_cons (pv 9) pa_nil))) ip_add)
    (pss_cons (ps_set (i := 5) scPF.nd rfl (.inl rfl) (C8.pe_c (cal_lr T) hr (by decide) rfl (pa_cons (pv 0) (pa_cons (pv 5) (pa_cons (pv 8) (pa_cons (pv 9) pa_nil))))))
    (pss_one (ps_set (i := 4) scPF.nd rfl (.inl rfl) (pe_ifExp (pt_val (pv 9)) (pe_slice sl_list (pv 4) (po_some (pv 8)) po_none) (pe_slice sl_list (pv 4) po_none (po_some (pe_callB (cr_sumT rfl) (by rfl) T.bSum (by decide +kernel) (pa_cons (pv 5) pa_nil)))))))))))))
    (pss_one (ps_ret (pe_tup (pa_cons (pv 6) (pa_cons (pv 7) pa_nil)))))))))))), ?_⟩
  refine ⟨_, rfl, _, rfl, _, rfl, LA, d, pp, dp, pa, ps, pd, es, S, pl, rfl, hL, hp, hpd, hcv, hgood, hT, fun H1 e1 T1 => ?_⟩
  exact ⟨_, rfl, _, rfl, _, rfl, LA, d, pp, fa, rfl, hL.to (Keep.ext e1), hfa.x e1, h1, q.to e1⟩
end
end Wp
set_option Elab.async false
set_option linter.all false
set_option maxRecDepth 100000
set_option maxHeartbeats 2000000
set_option pp.maxSteps 400
/-! WpD25: _law_errors. -/
namespace Wp
open PySem PySem.Spec PyProof.Rows L2 WP
section
variable {P : Program} {w : World} {K : PySem.W.Frag} {mg : Str → Option Value} {base : Heap} {c : Cs} {Ts : List (Addr × Str)}
theorem scE : FnScope ["_law_log_here", "_law_priced", "_law_start_here", "_law_found", "e"] ["_law_log_here", "_law_priced", "_law_start_here"] (defScope (topS 84)) := ⟨rfl, rfl, rfl, by decide +kernel, rfl, by decide +kernel, by decide +kernel⟩
/-- what _law_errors finds -/
def errD (r : List Nat) : PyData := .list [.tuple [.str "plan", rowDt r, .str "lacks"], .tuple [.str "foe", rowDt r, .int 1, .str "lacks"]]
theorem shaped_E (r : List Nat) : SeqAt.shaped (errD r) = true ∧ PyData.eqv (errD r) (errD r) = true := by
  have hl : PyData.canLay0 (errD r) = true := by
    show ((PyData.canLay0 (.str "plan") && (PyData.canLay0 (rowDt r) && (PyData.canLay0 (.str "lacks") && true))) && ((PyData.canLay0 (.str "foe") && (PyData.canLay0 (rowDt r) && (PyData.canLay0 (.int 1) && (PyData.canLay0 (.str "lacks") && true)))) && true)) = true
    rw [lay_row]
    decide +kernel
  refine ⟨?_, SeqAt.eqv_refl _ hl⟩
  unfold SeqAt.shaped
  rw [hl]
  have h1 := dep_row r
  have h : PyData.depth (errD r) ≤ 64 := by
    show max (max 0 (max (rowDt r).depth (max 0 0)) + 1) (max (max 0 (max (rowDt r).depth (max 0 (max 0 0))) + 1) 0) + 1 ≤ 64
    omega
  rw [decide_eq_true h]
  rfl
theorem cal_er (T : Txt K mg c) (R : ByR K mg base Ts) (B : Txe P K mg c) : C8.Cal P w K mg base 10 "_law_errors" (spE c Ts) [] := by
  refine cal_mk T.l_errors scE (fun _ _ _ _ _ _ us hl => match us, hl with | [_, _, _], _ => rfl) (fun vs H Q E h => ?_) (fun f cdv A outer s H vs Q E hr h => ?_)
  · obtain ⟨A, d, pp, dp, pa, ps, a, rfl, _⟩ := h
    rfl
  obtain ⟨LA, d, pp, dp, pa, ps, a, rfl, hL, hp, ha, hT, q⟩ := h
  refine ⟨_, (pss_cons (ps_if (pt_cmpR op_eq (pe_callB (cr_sumT rfl) (by rfl) T.bSum (by decide +kernel) (pa_cons (pv 2) pa_nil)) pe_int (nomark _)) (pss_one (ps_ret (pe_cmpR (op_eqD (Nat.lt_of_succ_lt (hu65 hr))) (C8.pe_c (cal_pf T R) hr (by decide) rfl (pa_cons (pv 0) (pa_cons (pv 1) (pa_cons pe_dnewT (pa_cons pe_dnewF pa_nil))))) (pe_tup (pa_cons pe_int (pa_cons (pe_lst pa_nil) pa_nil))) (nomark _)))) pss_nil)
    (pss_cons (ps_set (i := 3) scE.nd rfl (.inl rfl) (pe_lst pa_nil))
    (pss_cons (ps_try_as (i := 4) (tb := fun W => tDrop (tCallS (spPFx c) (WE W) (tCons (tVar 0) (tCons (tVar 1) (tCons tDNewT (tCons (tDNewF P w) tNil)))))) (ts := fun a cls d => tDrop (tBM K "list" rAppend (tVar 3) (tCons (tTup (tCons (tC (.str "plan")) (tCons (tXf a cls d c.badPlan "state" (tVar 4)) (tCons (tXf a cls d c.badPlan "reason" (tVar 4)) tNil)))) tNil))) (Wout := fun _ _ _ _ => False) (x := "BadPlan") rfl rfl scE.nd rfl rfl ⟨rfl, by decide, .inl B.bp.g⟩ takes0 (fun W pn xe tk _ => pss_one (ps_expr (by exact (pe_cX (cal_pfx (P := P) (w := w) (base := base) T R B) hr (by decide) rfl (fun σ => passAt tk σ) (pa_cons (pv 0) (pa_cons (pv 1) (pa_cons pe_dnewT (pa_cons pe_dnewF pa_nil)))))))) (fun a oe cls d pn hz hf => pss_one (ps_expr (by exact (pe_bm PySem.F.plainAttrs_list PySem.F.slot_list_append PySem.F.type_list_append mt_append (pv 3) (pa_cons (pe_tup (pa_cons pe_str (pa_cons (pe_xf B.bp.xf (B.bp.noF "state" (by decide)) hz hf (pv 4)) (pa_cons (pe_xf B.bp.xf (B.bp.noF "reason" (by decide)) hz hf (pv 4)) pa_nil)))) pa_nil))))))
    (pss_cons (ps_try_as (i := 4) (tb := fun W => tDrop (tCallS (spPFy c P w Ts) (WE W) (tCons (tVar 0) (tCons (tVar 1) (tCons (tCall (spTP c) [] C8.E0 (tCons (tVar 0) (tCons (tVar 1) tNil))) (tCons (tDNewF P w) tNil)))))) (ts := fun a cls d => tDrop (tBM K "list" rAppend (tVar 3) (tCons (tTup (tCons (tC (.str "foe")) (tCons (tXf a cls d c.badFoe "state" (tVar 4)) (tCons (tXf a cls d c.badFoe "number" (tVar 4)) (tCons (tXf a cls d c.badFoe "reason" (tVar 4)) tNil))))) tNil))) (Wout := fun _ _ _ _ => False) (x := "BadFoe") rfl rfl scE.nd rfl rfl ⟨rfl, by decide, .inl B.bf.g⟩ takes0 (fun W pn xe tk _ => pss_one (ps_expr (by exact (pe_cX (cal_pfy (P := P) (w := w) (base := base) T R B) hr (by decide) rfl (fun σ => passAt tk σ) (pa_cons (pv 0) (pa_cons (pv 1) (pa_cons (C8.pe_c (cal_tp T) hr (by decide) rfl (pa_cons (pv 0) (pa_cons (pv 1) pa_nil))) (pa_cons pe_dnewF pa_nil)))))))) (fun a oe cls d pn hz hf => pss_one (ps_expr (by exact (pe_bm PySem.F.plainAttrs_list PySem.F.slot_list_append PySem.F.type_list_append mt_append (pv 3) (pa_cons (pe_tup (pa_cons pe_str (pa_cons (pe_xf B.bf.xf (B.bf.noF "state" (by decide)) hz hf (pv 4)) (pa_cons (pe_xf B.bf.xf (B.bf.noF "number" (by decide)) hz hf (pv 4)) (pa_cons (pe_xf B.bf.xf (B.bf.noF "reason" (by decide)) hz hf (pv 4)) pa_nil))))) pa_nil))))))
    (pss_one (ps_ret (pe_cmpR (op_eqD (Nat.lt_of_succ_lt (hu65 hr))) (pv 3) (pe_lst (pa_cons (pe_tup (pa_cons pe_str (pa_cons (pv 2) (pa_cons pe_str pa_nil)))) (pa_cons (pe_tup (pa_cons pe_str (pa_cons (pv 2) (pa_cons pe_int (pa_cons pe_str pa_nil))))) pa_nil))) (nomark _)))))))), ?_⟩
  have er : rv (rowOf d) = ((rowOf d).map fun n : Nat => (n : Int)).map V.int := rv_ints _
  have ho := hL.ok
  have htop := ho.top
  have hlr := ho.len
  refine ⟨_, rfl, a, _, rfl, er ▸ SqT.of ha, rfl, _, rfl, ?_⟩
  rw [sum_ints]
  by_cases h1 : (rowOf d).sum = 1
  · refine if1 (decide_eq_true (by rw [h1]; rfl)) ?_
    have hv : ∀ b, 1 ≤ b → b < (rowOf d).sum → False := fun b h2 h3 => by omega
    refine ⟨_, rfl, _, rfl, fun pd npd => ?_⟩
    have s1 : Same H (upd H pd (.dT [])) := same_new npd
    have hpd : RowD (upd H pd (.dT [])) pd [] := upd_same
    generalize upd H pd (.dT []) = H1 at s1 hpd
    intro fa nfa H2 hoth hfa
    have s2 : Same H1 H2 := fun b o e => (hoth b (ne_of_none e nfa)).trans e
    have s12 := s1.trans s2
    have k2 := Keep.ext (ext_same s12)
    refine ⟨LA, d, pp, dp, pa, ps, pd, fa, [], (fun r => r = rowOf d), toldPl (parOf d pa ps), [], (fun r => r = rowOf d), (fun _ _ => true), rfl, hL.to k2, hp.to k2, s2 _ _ hpd, ⟨rfl, fun r e => by rw [e]; exact ho, fun r e h2 => ?_, fun r e h2 => ?_⟩, fun r => told_good _ r, hfa, ⟨rfl, fun r e => by rw [e]; exact ho, fun r e b h2 h3 => ?_, fun r e b h2 h3 => ?_⟩, Tabs.same hT s12, fun t l as H3 e3 T3 ht hl hps => ?_⟩
    · rw [e] at h2
      omega
    · rw [e] at h2
      omega
    · rw [e] at h3
      omega
    · rw [e] at h3
      omega
    have e0 : playC (parOf d pa ps) (toldPl (parOf d pa ps)) (fun _ _ => true) (rowOf d) = 0 := by
      rw [playC_eq (L := d.L + 1) (by have := hL.hL; omega) (fun r => told_good _ r) ho, if_pos (by omega)]
    have e1 : course d.q (toldPl (parOf d pa ps)) (fun _ _ => true) (rowOf d) (can d) = [] := by
      rw [course_eq (L := d.L + 1) (by have := hL.hL; omega) (fun r => told_good _ r) ho, if_pos (by omega)]
    rw [e0] at ht
    rw [e1] at hps
    refine ⟨Nat.zero_le _, fun l2 nl2 => ?_⟩
    have s4 : Same H3 (upd H3 l2 (.lst [])) := same_new nl2
    have hl4 : upd H3 l2 (.lst []) l2 = some (.lst []) := upd_same
    generalize upd H3 l2 (.lst []) = H4 at s4 hl4
    refine ⟨by show 2 ≤ sizeLine; decide, fun t2 nt2 => ?_⟩
    have s5 : Same H4 (upd H4 t2 (.tup [.int 0, .ref l2])) := same_new nt2
    have ht5 : upd H4 t2 (.tup [.int 0, .ref l2]) t2 = some (.tup [.int ((0 : Nat) : Int), .ref l2]) := upd_same
    generalize upd H4 t2 (.tup [.int 0, .ref l2]) = H5 at s5 ht5
    have s35 := s4.trans s5
    have sc := shaped_C 0 []
    refine ⟨_, _, dp_C (s35 _ _ ht) (s35 _ _ hl) (hps.to (Same.x s35)), dp_C (as := []) (ps := []) ht5 (s5 _ _ hl4) ⟨rfl, fun i a p h2 _ => by simp at h2⟩, sc.1, sc.1, ?_⟩
    rw [sc.2]
    exact q _
  refine if0 (decide_eq_false (fun z => h1 (by injection z with z; omega))) ?_
  have hne : 1 < (rowOf d).sum := by
    have := ho.pos
    omega
  refine ⟨Nat.zero_le _, fun fl nfl => ?_⟩
  have s1 : Same H (upd H fl (.lst [])) := same_new nfl
  have hfl1 : upd H fl (.lst []) fl = some (.lst []) := upd_same
  generalize upd H fl (.lst []) = H1 at s1 hfl1
  refine ⟨_, rfl, _, rfl, fun pd npd => ?_⟩
  have s2 : Same H1 (upd H1 pd (.dT [])) := same_new npd
  have hpd2 : RowD (upd H1 pd (.dT [])) pd [] := upd_same
  generalize upd H1 pd (.dT []) = H2 at s2 hpd2
  intro fa nfa H3 hoth hfa
  have s3 : Same H2 H3 := fun b o e => (hoth b (ne_of_none e nfa)).trans e
  have s03 := s1.trans (s2.trans s3)
  refine ⟨LA, d, pp, pd, fa, rfl, hL.to (Same.x s03), s3 _ _ hpd2, hne, fun a1 d1 H4 s4 ha1 hd1 => ?_⟩
  refine ⟨true, B.bp.exm, fun _ x nx => ?_, fun z => by cases z⟩
  have hfl4 : H4 fl = some (.lst []) := s4 _ _ (s3 _ _ (s2 _ _ hfl1))
  have s04 := s03.trans s4
  refine ⟨_, rfl, .inl ⟨rfl, _, SqL.of hfl4⟩, _, rfl, rfl, rfl, d1, _, _, rfl, hd1, rfl, _, rfl, rfl, rfl, d1, _, _, rfl, hd1, rfl, by show 3 ≤ sizeLine; decide, fun t nt => ⟨fl, [], _, rfl, rfl, ?_⟩⟩
  have s5 : Same H4 (upd H4 t (.tup [.str "plan", .ref a1, .str "lacks"])) := same_new nt
  have ht5 : upd H4 t (.tup [.str "plan", .ref a1, .str "lacks"]) t = some (.tup [.str "plan", .ref a1, .str "lacks"]) := upd_same
  have nfl0 : H fl = none := nfl
  refine ⟨s5 _ _ hfl4, by show 0 < sizeLine; decide, ?_⟩
  generalize upd H4 t (.tup [.str "plan", .ref a1, .str "lacks"]) = H5 at s5 ht5
  have hfl5 : H5 fl = some (.lst []) := s5 _ _ hfl4
  have s05 := s04.trans s5
  have s6 : Same H (upd H5 fl (.lst ([] ++ [.ref t]))) := fun b o e => by
    rw [upd_ne (ne_of_none e nfl0)]
    exact s05 b o e
  have k6 : Keep H5 (upd H5 fl (.lst ([] ++ [.ref t]))) := Keep.upd hfl5 not_lst
  have hfl6 : upd H5 fl (.lst ([] ++ [.ref t])) fl = some (.lst [.ref t]) := upd_same
  have ht6 : upd H5 fl (.lst ([] ++ [.ref t])) t = some (.tup [.str "plan", .ref a1, .str "lacks"]) := k6 _ _ ht5 (.tup _)
  have ha16 : RowAt (upd H5 fl (.lst ([] ++ [.ref t]))) a1 (rowOf d) := RowAt.to (s5 _ _ ha1) k6
  generalize upd H5 fl (.lst ([] ++ [.ref t])) = H6 at s6 hfl6 ht6 ha16
  -- the second try
  refine ⟨_, rfl, _, rfl, _, rfl, _, rfl, LA, d, pp, dp, pa, ps, rfl, hL.to (Same.x s6), hp.to (Same.x s6), fun pd2 es S H7 s7 hpd7 _ _ hcv => ?_⟩
  intro fa2 nfa2 H8 hoth8 hfa8
  have s8 : Same H7 H8 := fun b o e => (hoth8 b (ne_of_none e nfa2)).trans e
  have s08 := s6.trans (s7.trans s8)
  refine ⟨LA, d, pp, dp, pa, ps, pd2, fa2, es, S, toldPl (parOf d pa ps), rfl, hL.to (Same.x s08), hp.to (Same.x s08), s8 _ _ hpd7, hcv, fun r => told_good _ r, hfa8, Tabs.same hT s08, hne, fun a2 d2 H9 e9 ha2 hd2 => ?_⟩
  refine ⟨true, B.bf.exm, fun _ x nx => ?_, fun z => by cases z⟩
  have x9 : ∀ b o, H6 b = some o → (∀ ps, o ≠ .tbl ps) → H9 b = some o := fun b o e n => e9 b o (s8 _ _ (s7 _ _ e)) n
  have hfl9 : H9 fl = some (.lst [.ref t]) := x9 _ _ hfl6 (fun ps z => by cases z)
  have ht9 := x9 _ _ ht6 (fun ps z => by cases z)
  have ha19 : RowAt H9 a1 (rowOf d) := x9 _ _ ha16 (fun ps z => by cases z)
  have ha9 : RowAt H9 a (rowOf d) := x9 _ _ (s6 _ _ ha) (fun ps z => by cases z)
  refine ⟨_, rfl, .inl ⟨rfl, _, SqL.of hfl9⟩, _, rfl, rfl, rfl, d2, _, _, rfl, hd2, rfl, _, rfl, rfl, rfl, d2, _, _, rfl, hd2, rfl, _, rfl, rfl, rfl, d2, _, _, rfl, hd2, rfl, by show 4 ≤ sizeLine; decide, fun t2 nt2 => ⟨fl, [.ref t], _, rfl, rfl, ?_⟩⟩
  have s10 : Same H9 (upd H9 t2 (.tup [.str "foe", .ref a2, .int 1, .str "lacks"])) := same_new nt2
  have ht10 : upd H9 t2 (.tup [.str "foe", .ref a2, .int 1, .str "lacks"]) t2 = some (.tup [.str "foe", .ref a2, .int 1, .str "lacks"]) := upd_same
  refine ⟨s10 _ _ hfl9, by show 1 < sizeLine; decide, ?_⟩
  generalize upd H9 t2 (.tup [.str "foe", .ref a2, .int 1, .str "lacks"]) = H10 at s10 ht10
  have k11 : Keep H10 (upd H10 fl (.lst ([.ref t] ++ [.ref t2]))) := Keep.upd (s10 _ _ hfl9) not_lst
  have hfl11 : upd H10 fl (.lst ([.ref t] ++ [.ref t2])) fl = some (.lst [.ref t, .ref t2]) := upd_same
  have ht11 : upd H10 fl (.lst ([.ref t] ++ [.ref t2])) t = some (.tup [.str "plan", .ref a1, .str "lacks"]) := k11 _ _ (s10 _ _ ht9) (.tup _)
  have ht211 : upd H10 fl (.lst ([.ref t] ++ [.ref t2])) t2 = some (.tup [.str "foe", .ref a2, .int 1, .str "lacks"]) := k11 _ _ ht10 (.tup _)
  have ha111 : RowAt (upd H10 fl (.lst ([.ref t] ++ [.ref t2]))) a1 (rowOf d) := RowAt.to (s10 _ _ ha19) k11
  have ha211 : RowAt (upd H10 fl (.lst ([.ref t] ++ [.ref t2]))) a2 (rowOf d) := RowAt.to (s10 _ _ ha2) k11
  have ha011 : RowAt (upd H10 fl (.lst ([.ref t] ++ [.ref t2]))) a (rowOf d) := RowAt.to (s10 _ _ ha9) k11
  generalize upd H10 fl (.lst ([.ref t] ++ [.ref t2])) = H11 at hfl11 ht11 ht211 ha111 ha211 ha011
  refine ⟨_, rfl, _, rfl, by show 3 ≤ sizeLine; decide, fun u1 nu1 => ?_⟩
  have s12 : Same H11 (upd H11 u1 (.tup [.str "plan", .ref a, .str "lacks"])) := same_new nu1
  have hu12 : upd H11 u1 (.tup [.str "plan", .ref a, .str "lacks"]) u1 = some (.tup [.str "plan", .ref a, .str "lacks"]) := upd_same
  generalize upd H11 u1 (.tup [.str "plan", .ref a, .str "lacks"]) = H12 at s12 hu12
  refine ⟨_, rfl, by show 4 ≤ sizeLine; decide, fun u2 nu2 => ?_⟩
  have s13 : Same H12 (upd H12 u2 (.tup [.str "foe", .ref a, .int 1, .str "lacks"])) := same_new nu2
  have hu13 : upd H12 u2 (.tup [.str "foe", .ref a, .int 1, .str "lacks"]) u2 = some (.tup [.str "foe", .ref a, .int 1, .str "lacks"]) := upd_same
  generalize upd H12 u2 (.tup [.str "foe", .ref a, .int 1, .str "lacks"]) = H13 at s13 hu13
  refine ⟨by show 2 ≤ sizeLine; decide, fun u3 nu3 => ?_⟩
  have s14 : Same H13 (upd H13 u3 (.lst [.ref u1, .ref u2])) := same_new nu3
  have hu14 : upd H13 u3 (.lst [.ref u1, .ref u2]) u3 = some (.lst [.ref u1, .ref u2]) := upd_same
  generalize upd H13 u3 (.lst [.ref u1, .ref u2]) = H14 at s14 hu14
  have sA := s12.trans (s13.trans s14)
  have sB := s13.trans s14
  have sc := shaped_E (rowOf d)
  have h14 : RowAt H14 a (rowOf d) := sA _ _ ha011
  have h114 : RowAt H14 a1 (rowOf d) := sA _ _ ha111
  have h214 : RowAt H14 a2 (rowOf d) := sA _ _ ha211
  have D1 : Dp K H14 (.ref fl) (errD (rowOf d)) := .lst (SqL.of (sA _ _ hfl11)) (.cons (.tup (SqT.of (sA _ _ ht11)) (.cons (.str _) (.cons (dp_row h114) (.cons (.str _) .nil)))) (.cons (.tup (SqT.of (sA _ _ ht211)) (.cons (.str _) (.cons (dp_row h214) (.cons (.int _) (.cons (.str _) .nil))))) .nil))
  have D2 : Dp K H14 (.ref u3) (errD (rowOf d)) := .lst (SqL.of hu14) (.cons (.tup (SqT.of (sB _ _ hu12)) (.cons (.str _) (.cons (dp_row h14) (.cons (.str _) .nil)))) (.cons (.tup (SqT.of (s14 _ _ hu13)) (.cons (.str _) (.cons (dp_row h14) (.cons (.int _) (.cons (.str _) .nil))))) .nil))
  refine ⟨_, _, D1, D2, sc.1, sc.1, ?_⟩
  rw [sc.2]
  exact q _
end
end Wp
set_option Elab.async false
set_option linter.all false
set_option maxRecDepth 100000
set_option maxHeartbeats 2000000
/-! WpH3: Txt, ByR, Txe from what the head tells. -/
namespace Wp
open PySem PySem.Spec PyProof.Rows L2 WP He
theorem errAt_of {P : Program} {K : PySem.W.Frag} {mg : Str → Option Value} {x q : Str} {i : Nat} {fl : List Str} (hg : mg x = some (.ref (ga K x))) (h : errB P K x q = true) (v : fnC K (x, some "__init__") = errV q i)
    (hs : mg "super" = none) (ht : (P.main.scope.names.lookup ("super" : Str)).isSome = false) (hn : ∀ n ∈ fl, PySem.W.findIn K (.ref (ga K x)) n = some none) (he : PySem.W.exmOne K (.ref (ga K x)) (.ref (ga K x)) = some true) : ErrAt P K mg x q (ga K x) i fl := by
  obtain ⟨a1, h⟩ := ba h
  obtain ⟨a2, h⟩ := ba h
  obtain ⟨a3, h⟩ := ba h
  obtain ⟨a4, h⟩ := ba h
  obtain ⟨a5, h⟩ := ba h
  obtain ⟨a6, h⟩ := ba h
  obtain ⟨a7, h⟩ := ba h
  obtain ⟨a8, h⟩ := ba h
  obtain ⟨a9, h⟩ := ba h
  obtain ⟨a10, h⟩ := ba h
  obtain ⟨a11, a12⟩ := ba h
  refine ⟨hg, ?_, hn, xfB_ok a2, he⟩
  have e0 : fAd K (x, some "__init__") = ma K (ga K x) "__init__" := rfl
  unfold fnC at v
  rw [e0] at v
  cases hk : K.lookup (ma K (ga K x) "__init__") with
  | none =>
    rw [hk] at a12
    cases a12
  | some o =>
    obtain ⟨oc, od, dt, osl⟩ := o
    rw [hk] at a12 v
    cases dt with
    | func fd =>
      have a13 : (PySem.W.codeIn K fd.code q && (fileB P K fd.code && cellB K (ga K x) fd.closure)) = true := a12
      obtain ⟨b1, b2⟩ := ba a13
      obtain ⟨b3, b4⟩ := ba b2
      obtain ⟨n1, n2, n3, n4, n5, n6, n7, n8, n9, n10, n11, n12, n13, n14, n15⟩ := fd
      have e2 : (some (n1, n2, n3, n4, n5, n6, n7.map (·.1), n8, n15) : FnC) = some (("__init__" : Str), q, defArgs (metS i 0), FuncBody.stmts (defBody (metS i 0)), defScope (metS i 0), mainGlobals, (["__class__"] : List Str), Value.none, builtinsNs) := v
      simp only [Option.some.injEq, Prod.mk.injEq] at e2
      obtain ⟨h1, h2, h3, h4, h5, h6, h7, h8, h9⟩ := e2
      subst h1 h2 h3 h4 h5 h6 h8 h9
      obtain ⟨cda, hc⟩ := codeIn_ref (show PySem.W.codeIn K n13 _ = true from b1)
      have hc' : n13 = Value.ref cda := hc
      subst hc'
      obtain ⟨cc, hcl⟩ : ∃ cc, n7 = [(("__class__" : Str), cc)] := by
        cases n7 with
        | nil => cases h7
        | cons a l =>
          obtain ⟨y, cc⟩ := a
          rw [List.map_cons] at h7
          injection h7 with h71 h72
          cases l with
          | nil =>
            have h73 : y = ("__class__" : Str) := h71
            exact ⟨cc, by rw [h73]⟩
          | cons b l => cases h72
      subst hcl
      exact ⟨ma K (ga K x) "__init__", cda, cc, oc, od, n9, n10, n11, n12, n14, osl, hk, ⟨⟨oexB_ok a1, eqO_ok a3, of_decide_eq_true a4, of_decide_eq_true a5, a6⟩, b1, fileB_ok b3, cellB_ok b4, hs, ht, eqO_ok a9, eqO_ok a10, of_decide_eq_true a11⟩, eqO_ok a7, of_decide_eq_true a8⟩
    | _ => cases a12
section
variable {w : World} {h base : Heap} {K : PySem.W.Frag} {mg : Str → Option Value}
def csOf (K : PySem.W.Frag) : Cs := ⟨ga K "Prices", ga K "Costs", ga K "Log", ga K "Road", ga K "Widths", ga K "BadPlan", ga K "BadFoe"⟩
theorem fa_of (Z : SaysZ w h K) {f : Fa} (hf : f ∈ faL) : f.ok K = true := SaysD.facts Z.x.t.d hf
theorem in_app {α : Type} {a : α} {l r : List α} (h : a ∈ l ∨ a ∈ r) : a ∈ l ++ r := List.mem_append.mpr h
theorem f_def {p : Str × Nat} (hp : p ∈ defsL) : Fa.glo p.1 ∈ faL := in_app (.inl (List.mem_map.mpr ⟨p, hp, rfl⟩))
theorem f_clsg {x : Str} (hp : x ∈ clsL) : Fa.glo x ∈ faL := in_app (.inr (in_app (.inl (List.mem_map.mpr ⟨x, hp, rfl⟩))))
theorem f_errg {p : Str × Str × Nat} (hp : p ∈ errL) : Fa.glo p.1 ∈ faL := in_app (.inr (in_app (.inr (in_app (.inl (List.mem_map.mpr ⟨p, hp, rfl⟩))))))
theorem f_free {x : Str} (hp : x ∈ freeL) : Fa.free x ∈ faL := in_app (.inr (in_app (.inr (in_app (.inr (in_app (.inl (List.mem_map.mpr ⟨x, hp, rfl⟩))))))))
theorem f_int {p : Str × Int} (hp : p ∈ intL) : Fa.int p.1 p.2 ∈ faL := in_app (.inr (in_app (.inr (in_app (.inr (in_app (.inr (in_app (.inl (List.mem_map.mpr ⟨p, hp, rfl⟩))))))))))
theorem f_cls {x : Str} (hp : x ∈ clsL) : Fa.cls x ∈ faL := in_app (.inr (in_app (.inr (in_app (.inr (in_app (.inr (in_app (.inr (in_app (.inl (List.mem_map.mpr ⟨x, hp, rfl⟩))))))))))))
theorem f_mkr {x : Str} (hp : x ∈ clsL) : Fa.mkr x ∈ faL := in_app (.inr (in_app (.inr (in_app (.inr (in_app (.inr (in_app (.inr (in_app (.inr (in_app (.inl (List.mem_map.mpr ⟨x, hp, rfl⟩))))))))))))))
theorem f_noat {p : Str × Str} (hp : p ∈ noL) : Fa.noat p.1 p.2 ∈ faL := in_app (.inr (in_app (.inr (in_app (.inr (in_app (.inr (in_app (.inr (in_app (.inr (in_app (.inr (in_app (.inl (List.mem_map.mpr ⟨p, hp, rfl⟩))))))))))))))))
theorem f_meth {p : Str × Str × Str × Nat × Nat} (hp : p ∈ metsL) : Fa.meth p.1 p.2.1 ∈ faL := in_app (.inr (in_app (.inr (in_app (.inr (in_app (.inr (in_app (.inr (in_app (.inr (in_app (.inr (in_app (.inr (in_app (.inl (List.mem_map.mpr ⟨p, hp, rfl⟩))))))))))))))))))
theorem f_kw {p : Str × Str × Str × Nat × Nat} (hp : p ∈ kwL) : Fa.meth p.1 p.2.1 ∈ faL := in_app (.inr (in_app (.inr (in_app (.inr (in_app (.inr (in_app (.inr (in_app (.inr (in_app (.inr (in_app (.inr (in_app (.inr (in_app (.inl (List.mem_map.mpr ⟨p, hp, rfl⟩))))))))))))))))))))
theorem f_exm {p : Str × Str × Nat} (hp : p ∈ errL) : Fa.exm p.1 p.1 true ∈ faL := in_app (.inr (in_app (.inr (in_app (.inr (in_app (.inr (in_app (.inr (in_app (.inr (in_app (.inr (in_app (.inr (in_app (.inr (in_app (.inr (List.mem_map.mpr ⟨p, hp, rfl⟩))))))))))))))))))))
theorem fun_def (Z : SaysZ w h K) {x : Str} {i : Nat} (hp : (x, i) ∈ defsL) : ∃ fd, FunD K x x (defArgs (topS i)) (defBody (topS i)) (defScope (topS i)) [] [] (ga K x) fd := SaysD.defs Z.x.t.d (d := dOf (x, i)) (in_app (.inl (List.mem_map.mpr ⟨_, hp, rfl⟩)))
theorem def_at (X : K.In h) (G : h.Ns mainGlobals mg) (Z : SaysZ w h K) {x : Str} {i : Nat} (hp : (x, i) ∈ defsL) : DefAt K mg x i := by
  obtain ⟨fd, F⟩ := fun_def Z hp
  exact ⟨_, fd, F, glo_ok X G (fa_of Z (f_def hp))⟩
theorem fun_met (Z : SaysZ w h K) {C m q : Str} {i j : Nat} (hp : (C, m, q, i, j) ∈ metsL) : ∃ fd, FunD K m q (defArgs (metS i j)) (defBody (metS i j)) (defScope (metS i j)) [] [] (ma K (ga K C) m) fd := SaysD.defs Z.x.t.d (d := mOf (C, m, q, i, j)) (in_app (.inr (in_app (.inl (List.mem_map.mpr ⟨_, hp, rfl⟩)))))
theorem met_at (Z : SaysZ w h K) {C m q : Str} {i j : Nat} (hp : (C, m, q, i, j) ∈ metsL) : MetAt K (ga K C) m q i j := by
  obtain ⟨fd, F⟩ := fun_met Z hp
  exact ⟨_, fd, F, meth_ok (fa_of Z (f_meth hp))⟩
theorem kw_at (Z : SaysZ w h K) {C m q : Str} {i j : Nat} (hp : (C, m, q, i, j) ∈ kwL) : MetAtK K (ga K C) m q i j [("in_a_row", .bl false)] := by
  obtain ⟨fd, F⟩ := SaysD.defs Z.x.t.d (d := kOf (C, m, q, i, j)) (in_app (.inr (in_app (.inr (List.mem_map.mpr ⟨_, hp, rfl⟩)))))
  exact ⟨_, fd, F, meth_ok (fa_of Z (f_kw hp))⟩
theorem cls_at (X : K.In h) (G : h.Ns mainGlobals mg) (Z : SaysZ w h K) {x : Str} (hp : x ∈ clsL) : ClsT K mg x (ga K x) :=
  ⟨glo_ok X G (fa_of Z (f_clsg hp)), cls_ok (fa_of Z (f_cls hp)), (mkr_ok (fa_of Z (f_mkr hp))).makes, (mkr_ok (fa_of Z (f_mkr hp))).kp⟩
theorem no_at (Z : SaysZ w h K) {x f : Str} (hp : (x, f) ∈ noL) : NoAttr K (ga K x) f := noat_ok (fa_of Z (f_noat hp))
theorem free_at (X : K.In h) (G : h.Ns mainGlobals mg) (Z : SaysZ w h K) {x : Str} (hp : x ∈ freeL) : mg x = none := free_ok X G (fa_of Z (f_free hp))
theorem int_at (X : K.In h) (G : h.Ns mainGlobals mg) (Z : SaysZ w h K) {x : Str} {i : Int} (hp : (x, i) ∈ intL) : ∃ t, mg x = some (.int i t) := int_ok X G (fa_of Z (f_int hp))
/-- Txt -/
theorem txt_of (X : K.In h) (G : h.Ns mainGlobals mg) (Z : SaysZ w h K) : Txt K mg (csOf K) where
  bLen := free_at X G Z (by decide +kernel)
  bSum := free_at X G Z (by decide +kernel)
  bMin := free_at X G Z (by decide +kernel)
  bMax := free_at X G Z (by decide +kernel)
  bInt := free_at X G Z (by decide +kernel)
  bStr := free_at X G Z (by decide +kernel)
  bBool := free_at X G Z (by decide +kernel)
  bAbs := free_at X G Z (by decide +kernel)
  bIsi := free_at X G Z (by decide +kernel)
  bTuple := free_at X G Z (by decide +kernel)
  bList := free_at X G Z (by decide +kernel)
  bRange := free_at X G Z (by decide +kernel)
  bZip := free_at X G Z (by decide +kernel)
  bEnum := free_at X G Z (by decide +kernel)
  bSorted := free_at X G Z (by decide +kernel)
  bSuper := free_at X G Z (by decide +kernel)
  is_integer := def_at X G Z (by decide +kernel)
  check_number := def_at X G Z (by decide +kernel)
  is_row := def_at X G Z (by decide +kernel)
  check_row := def_at X G Z (by decide +kernel)
  without_least := def_at X G Z (by decide +kernel)
  after_answer := def_at X G Z (by decide +kernel)
  after_silence := def_at X G Z (by decide +kernel)
  costs_of := def_at X G Z (by decide +kernel)
  least_cost := def_at X G Z (by decide +kernel)
  branches_of := def_at X G Z (by decide +kernel)
  number_for := def_at X G Z (by decide +kernel)
  reached_rows := def_at X G Z (by decide +kernel)
  rank_of := def_at X G Z (by decide +kernel)
  cost_table := def_at X G Z (by decide +kernel)
  check_plan := def_at X G Z (by decide +kernel)
  greatest_of := def_at X G Z (by decide +kernel)
  told_plan := def_at X G Z (by decide +kernel)
  answer_at := def_at X G Z (by decide +kernel)
  led_row := def_at X G Z (by decide +kernel)
  met_rows := def_at X G Z (by decide +kernel)
  price_of := def_at X G Z (by decide +kernel)
  check_foe := def_at X G Z (by decide +kernel)
  told_foe := def_at X G Z (by decide +kernel)
  play_foe := def_at X G Z (by decide +kernel)
  check_pairs := def_at X G Z (by decide +kernel)
  need_of := def_at X G Z (by decide +kernel)
  widths_left := def_at X G Z (by decide +kernel)
  l_start := def_at X G Z (by decide +kernel)
  l_draw := def_at X G Z (by decide +kernel)
  l_numbers := def_at X G Z (by decide +kernel)
  l_widths := def_at X G Z (by decide +kernel)
  l_need := def_at X G Z (by decide +kernel)
  l_can := def_at X G Z (by decide +kernel)
  l_road := def_at X G Z (by decide +kernel)
  l_made := def_at X G Z (by decide +kernel)
  l_true_pairs := def_at X G Z (by decide +kernel)
  l_log := def_at X G Z (by decide +kernel)
  l_prices := def_at X G Z (by decide +kernel)
  l_needs_of := def_at X G Z (by decide +kernel)
  l_counts := def_at X G Z (by decide +kernel)
  l_led := def_at X G Z (by decide +kernel)
  l_row := def_at X G Z (by decide +kernel)
  l_field := def_at X G Z (by decide +kernel)
  l_drawn_foe := def_at X G Z (by decide +kernel)
  l_price := def_at X G Z (by decide +kernel)
  l_drawn_plan := def_at X G Z (by decide +kernel)
  l_course := def_at X G Z (by decide +kernel)
  l_errors := def_at X G Z (by decide +kernel)
  law_ := def_at X G Z (by decide +kernel)
  gLen := int_at X G Z (by decide +kernel)
  gSum := int_at X G Z (by decide +kernel)
  gPrice := int_at X G Z (by decide +kernel)
  gLossC := int_at X G Z (by decide +kernel)
  gPairs := int_at X G Z (by decide +kernel)
  gLossR := int_at X G Z (by decide +kernel)
  gWidths := int_at X G Z (by decide +kernel)
  gWidth := int_at X G Z (by decide +kernel)
  prices := cls_at X G Z (by decide +kernel)
  costs := cls_at X G Z (by decide +kernel)
  log := cls_at X G Z (by decide +kernel)
  road := cls_at X G Z (by decide +kernel)
  widths := cls_at X G Z (by decide +kernel)
  pInit := met_at Z (by decide +kernel)
  cCheck := met_at Z (by decide +kernel)
  cBranches := met_at Z (by decide +kernel)
  cGreater := met_at Z (by decide +kernel)
  cMissing := met_at Z (by decide +kernel)
  cFill := met_at Z (by decide +kernel)
  cBest := met_at Z (by decide +kernel)
  gInit := met_at Z (by decide +kernel)
  gTold := met_at Z (by decide +kernel)
  gCan := met_at Z (by decide +kernel)
  gPoss := met_at Z (by decide +kernel)
  gRow := met_at Z (by decide +kernel)
  wInit := met_at Z (by decide +kernel)
  wCont := met_at Z (by decide +kernel)
  cInit := kw_at Z (by decide +kernel)
  rInit := kw_at Z (by decide +kernel)
  pN_answer := no_at Z (by decide +kernel)
  pN_silence := no_at Z (by decide +kernel)
  cN_losses := no_at Z (by decide +kernel)
  cN_prices := no_at Z (by decide +kernel)
  cN_in_a_row := no_at Z (by decide +kernel)
  cN_found := no_at Z (by decide +kernel)
  gN_road := no_at Z (by decide +kernel)
  gN_pairs := no_at Z (by decide +kernel)
  rN_widths := no_at Z (by decide +kernel)
  rN_losses := no_at Z (by decide +kernel)
  rN_in_a_row := no_at Z (by decide +kernel)
  wN_numbers := no_at Z (by decide +kernel)
  cCall := by
    obtain ⟨fd, F⟩ := fun_met (C := "Costs") (m := "__call__") (q := "Costs.__call__") (i := 27) (j := 6) Z (by decide +kernel)
    exact ⟨_, fd, F, meth_ok (fa_of Z (f_meth (p := ("Costs", "__call__", "Costs.__call__", 27, 6)) (by decide +kernel))), (ba Z.x.more).1⟩
/-- by_rank's code and its table -/
def tabL (K : PySem.W.Frag) : List (Addr × Addr) := [He.cT K ("by_rank", none)]
def tsL (K : PySem.W.Frag) : List (Addr × Str) := [((He.cT K ("by_rank", none)).2, lamQ)]
theorem byr_of (X : K.In h) (G : h.Ns mainGlobals mg) (Z : SaysZ w h K) (TB : ∀ p ∈ tabL K, LamX.TabB base mg p.1 p.2) : ByR K mg base (tsL K) := by
  obtain ⟨fd, F⟩ := fun_def (x := "by_rank") (i := 36) Z (by decide +kernel)
  obtain ⟨oc, od, dV, kV, doc, pm, an, cdv, ct, osl, rfl, lk, hcd, hD, hK⟩ := F.ex
  obtain ⟨cc, hc⟩ := He.codeIn_ref hcd
  subst hc
  have hdV : dV = .none := by
    rcases hD with ⟨_, e⟩ | ⟨e, _⟩
    · exact e
    · exact absurd rfl e
  have ec : He.codeOf K ("by_rank", none) = cc := He.codeOf_eq (p := ("by_rank", none)) lk rfl
  have tb := TB _ (List.mem_cons_self ..)
  have e1 : (He.cT K ("by_rank", none)).1 = cc := ec
  rw [e1] at tb
  exact ⟨_, cc, _, oc, od, dV, kV, doc, pm, an, ct, osl, lk, hcd, hdV, glo_ok X G (fa_of Z (f_def (p := ("by_rank", 36)) (by decide +kernel))), F.kp, tb, rfl⟩
theorem txe_of (X : K.In h) (G : h.Ns mainGlobals mg) (Z : SaysZ w h K) : Txe Pg K mg (csOf K) := by
  have h1 := List.all_eq_true.mp (ba Z.x.more).2
  have h2 := Z.c
  have hs : mg "super" = none := free_at X G Z (by decide +kernel)
  have ht : (Pg.main.scope.names.lookup ("super" : Str)).isSome = false := by decide +kernel
  injection h2 with e1 h3
  injection h3 with e2 h4
  refine ⟨errAt_of (glo_ok X G (fa_of Z (f_errg (p := ("BadPlan", "BadPlan.__init__", 7)) (by decide +kernel)))) (h1 ("BadPlan", "BadPlan.__init__", 7) (by decide +kernel)) e1 hs ht (fun n hn => ?_) (exm_ok (fa_of Z (f_exm (p := ("BadPlan", "BadPlan.__init__", 7)) (by decide +kernel)))),
    errAt_of (glo_ok X G (fa_of Z (f_errg (p := ("BadFoe", "BadFoe.__init__", 8)) (by decide +kernel)))) (h1 ("BadFoe", "BadFoe.__init__", 8) (by decide +kernel)) e2 hs ht (fun n hn => ?_) (exm_ok (fa_of Z (f_exm (p := ("BadFoe", "BadFoe.__init__", 8)) (by decide +kernel))))⟩
  · rcases List.mem_cons.mp hn with rfl | hn
    · exact no_at Z (by decide +kernel)
    · rw [List.mem_singleton.mp hn]
      exact no_at Z (by decide +kernel)
  · rcases List.mem_cons.mp hn with rfl | hn
    · exact no_at Z (by decide +kernel)
    · rcases List.mem_cons.mp hn with rfl | hn
      · exact no_at Z (by decide +kernel)
      · rw [List.mem_singleton.mp hn]
        exact no_at Z (by decide +kernel)
end
end Wp
set_option Elab.async false
set_option linter.all false
set_option maxRecDepth 100000
set_option maxHeartbeats 4000000
/-! WpH4: the runs joined; the end. -/
namespace Wp
open PySem PySem.Spec PyProof.Rows L2 WP He
theorem glue {α A B C D : Type} {o : Option α} {f : α → A} {g : α → B} {k : α → C} {t : α → D} {a : A} {b : B} {c : C} {d : D} (h1 : o.map f = some a) (h2 : o.map g = some b) (h3 : o.map k = some c) (h : ∀ s, f s = a → g s = b → k s = c → t s = d) : o.map t = some d := by
  cases o with
  | none => cases h1
  | some s => exact congrArg some (h s (Option.some.inj h1) (Option.some.inj h2) (Option.some.inj h3))
theorem obs_of {g : Addr → Option Obj} (w : World) (h2 : boolsZ g (part g) = true) (h3 : textsZ (part g) = (fnL.map He.DefD.val, errL.map fun p => errV p.2.1 p.2.2)) : obsZ g = valZ w := by
  obtain ⟨b1, b2⟩ := ba h2
  have t1 : (fnL.map fun d => He.fnW (part g) d.at_) = fnL.map He.DefD.val := congrArg (fun z : List He.FnW × List FnC => z.1) h3
  have t2 : (errL.map fun p => fnC (part g) (p.1, some "__init__")) = errL.map fun p => errV p.2.1 p.2.2 := congrArg (fun z : List He.FnW × List FnC => z.2) h3
  have d1 : He.obsD faL fnL (part g) = He.valD fnL := by
    unfold He.obsD He.valD
    rw [b1, t1]
  unfold obsZ valZ He.obsT He.valT
  rw [d1, b2, t2]
  rfl
theorem run (w : World) : HandSHeadRun.RunEq RW qv hookZ obT 9000 names w := by
  intro os
  refine glue (run1 w os) (run2 w os) (run3 w os) fun s h1 h2 h3 => ?_
  exact Prod.ext (congrArg (fun z => z.1) h1) (Prod.ext (congrArg (fun z => z.2.1) h1) (obs_of w h2 h3))
theorem tabs_of {K : PySem.W.Frag} {H : Hp} (h : ∀ p ∈ tabL K, H p.2 = some (.tbl #[])) : LamX.Tabs (tsL K) H := fun p hp => by
  rw [List.mem_singleton.mp hp]
  refine ⟨#[], h _ (List.mem_cons_self ..), ?_, fun pos cv hc => ?_⟩
  · exact True.intro
  · cases hc
theorem law_at {w : World} {h : Heap} {K : PySem.W.Frag} {mg : Str → Option Value} {fa : Addr} (X : K.In h) (G : h.Ns mainGlobals mg) (Z : SaysZ w h K) (hm : mg (HandSHeadRun.topDef RW.prog 85).name = some (.ref fa)) :
    LamX.LawAtS PySem.Challenge.rw_widestparcels_k65_whole_plans_against_fo w K CX0 11 63 "_law_script" mg fa h := by
  have hmg : mg ("law" : Str) = some (.ref fa) := by
    have e : (HandSHeadRun.topDef RW.prog 85).name = ("law" : Str) := by kernel_rfl
    rw [← e]
    exact hm
  obtain ⟨fd, F⟩ := fun_def (x := "law") (i := 85) Z (by decide +kernel)
  have e := hmg.symm.trans (glo_ok X G (fa_of Z (f_def (p := ("law", 85)) (by decide +kernel))))
  have e2 : fa = ga K "law" := by
    injection e with e
    injection e
  subst e2
  have hb := FunD.bindsA (ps := ["_law_script"]) F fun _ _ _ _ _ _ us hl => match us, hl with | [_], _ => rfl
  have m1 : (((("by_rank" : Str), none) : He.Defn)) ∈ tfL := List.mem_cons_self ..
  refine ⟨fd, tabL K, spLaw K (tsL K), fun p hp => ?_, fun p hp => ?_, fun p hp => ?_, fun s u => hb s [u] rfl, fun H a ns hl _ hH hS => ⟨a, ns, rfl, hS, hl, tabs_of hH, fun _ => rfl⟩, fun base _ _ TB => ?_⟩
  · rw [List.mem_singleton.mp hp]
    exact Z.x.empty _ m1
  · rw [List.mem_singleton.mp hp]
    exact Z.x.out _ m1
  · rw [List.mem_singleton.mp hp]
    exact PySem.W.codeHd_of_K X (Z.x.hd _ m1)
  · have T := txt_of X G Z
    have R := byr_of (base := base) X G Z TB
    exact fn_law T R F (cal_er T R (txe_of X G Z))
end Wp
open PySem PySem.W PySem.Calls PyProof.Rows
theorem PySem.Challenge.cw_widestparcels_k65_whole_plans_against_fo_holds : PySem.Challenge.rw_widestparcels_k65_whole_plans_against_fo.Holds := by
  w_on; o_law
  refine HandSHeadRun.head_any (r := Wp.RW) (q := Wp.qv) (H := Wp.hookZ) (ob := Wp.obT) (M := 9000) (loose := Wp.names) (d := HandSHeadRun.topDef Wp.RW.prog 85) (kwd := []) Wp.obT_eq
    (by kernel_rfl) (fun s => by kernel_rfl) Wp.run (by kernel_rfl) (by kernel_rfl) (by kernel_rfl) (by rfl) (by first | assumption | decide +kernel) (by decide +kernel) ⟨rfl, rfl, rfl, rfl, rfl, by decide +kernel⟩ ?hw ?hc
  case hw => w_witness2
  case hc =>
    refine LamX.walk_ofTsE (l := PySem.Challenge.rw_widestparcels_k65_whole_plans_against_fo) (n := 63) (k := 11) (x := "_law_script") (CX := fun _ => L2.CX0) rfl (by decide) (by kernel_rfl) ⟨rfl, by decide, by decide⟩ ?F (fun _ _ _ _ _ z => z)
    intro w mg fa h Y G hmg0
    obtain ⟨K, KX, Z⟩ := Y
    exact ⟨K, KX, Wp.law_at KX G Z hmg0⟩
