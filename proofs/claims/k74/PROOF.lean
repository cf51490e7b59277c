import PyProof.Rows.All
import Wide.All
import OpenK.AllK
import Wide.FinOn
import KE.KStateDown
import Lean
import PyProof.EqAt
import PyProof.EqKinds
import PyProof.TupleCall
import PyProof.SeqIndex
import PyProof.StrOps2
import KE.KIndexOf
import KE.DataMinMax
import KE.SortData
import HandS.ForMost
import HandS.Star
import HandS.SlotsOwn
import HandS.Strs
import HandS.SetBool
import HandS.CallLocal
import HandS.Iter
import KE.GoesEnum
import HandS.Evl
import HandS.IsInst
import HandS.Codes
import HandS.Style
import HandS.Conv
import HandS.Replace
import HandS.RaiseMore
import HandS.DictComp
import HandS.Property
import HandS.ClsMeth
import PySem.Challenge.RW_leastlooks_k74_whole_full_primes
import HandS.Walk
import HandS.HeadHook1
import HandS.HeadHook2
import HandS.HeadEnd
import HandS.Head0
import HandS.Head1
import HandS.Head2
set_option maxRecDepth 100000
set_option maxHeartbeats 4000000
namespace LX
/-! The plain law: texts are lists of codes (48 '0', 49 '1', 45 '-'). -/
def strL (signs : List Nat) : Nat → List (List Nat)
  | 0 => [[]]
  | n + 1 => (strL signs n).flatMap fun t => signs.map fun s => t ++ [s]
def ins (n : Nat) : List (List Nat) := strL [48, 49] n
def pats (n : Nat) : List (List Nat) := strL [45, 48, 49] n
def permsL (items : List Nat) : Nat → List (List Nat)
  | 0 => [[]]
  | k + 1 => (permsL items k).flatMap fun o => (items.filter fun i => !o.contains i).map fun i => o ++ [i]
def perms (n : Nat) : List (List Nat) := permsL (List.range n) n
/-- the input whose bit at position σ[k] is the bit of t at k -/
def act (n : Nat) (σ t : List Nat) : List Nat := (List.range n).map fun a => t.getD (σ.idxOf a) 0
def keeps (n : Nat) (f : List Nat → Int) (σ : List Nat) : Bool := (ins n).all fun t => decide (f (act n σ t) = f t)
def fstep (n : Nat) (f : List Nat → Int) (acc : List Nat) (σ : List Nat) : List Nat :=
  if acc.contains (σ.headD 0) then acc else if keeps n f σ then acc ++ [σ.headD 0] else acc
def firsts (n : Nat) (f : List Nat → Int) : List Nat := (perms n).foldl (fstep n f) []
def wt (t : List Nat) : Nat := t.count 49
def sgn (k : Nat) : Int := if k % 2 = 0 then 1 else -1
def signed (n : Nat) (f : List Nat → Int) : Int := ((ins n).map fun t => f t * sgn (wt t)).sum
def prm (n : Nat) : Int := if n = 3 then 3 else if n = 5 then 5 else 2

/-! ### sums -/
theorem sum_congr {α : Type} {l : List α} {g h : α → Int} (e : ∀ t ∈ l, g t = h t) : (l.map g).sum = (l.map h).sum := by
  rw [List.map_congr_left e]
theorem sum_add {α : Type} (l : List α) (g h : α → Int) : (l.map fun t => g t + h t).sum = (l.map g).sum + (l.map h).sum := by
  induction l with
  | nil => rfl
  | cons a r ih => simp only [List.map_cons, List.sum_cons, ih]; omega
theorem sum_mul {α : Type} (l : List α) (c : Int) (g : α → Int) : (l.map fun t => c * g t).sum = c * (l.map g).sum := by
  induction l with
  | nil => simp
  | cons a r ih => simp only [List.map_cons, List.sum_cons, ih, Int.mul_add]
theorem sum_zero {α : Type} (l : List α) : (l.map fun _ => (0 : Int)).sum = 0 := by
  induction l with
  | nil => rfl
  | cons a r ih => simp only [List.map_cons, List.sum_cons, ih]; rfl
theorem sum_const {α : Type} (l : List α) (c : Int) : (l.map fun _ => c).sum = l.length * c := by
  induction l with
  | nil => simp
  | cons a r ih =>
    simp only [List.map_cons, List.sum_cons, ih, List.length_cons]
    rw [Int.natCast_add, Int.add_mul]; omega
theorem sum_swap {α β : Type} (l : List α) (m : List β) (g : α → β → Int) : (l.map fun a => (m.map fun b => g a b).sum).sum = (m.map fun b => (l.map fun a => g a b).sum).sum := by
  induction l with
  | nil => simp only [List.map_nil, List.sum_nil]; exact (sum_zero m).symm
  | cons a r ih => simp only [List.map_cons, List.sum_cons, ih]; rw [sum_add]
theorem perm_sum : ∀ {l m : List Int}, l.Perm m → l.sum = m.sum := by
  intro l m h
  induction h with
  | nil => rfl
  | cons x _ ih => simp only [List.sum_cons, ih]
  | swap x y l => simp only [List.sum_cons]; omega
  | trans _ _ h1 h2 => exact h1.trans h2

/-! ### what is found by looking at all inputs of at most five places -/
def okAct (n : Nat) : Bool := (perms n).all fun σ => ((ins n).map (act n σ)).isPerm (ins n) && (ins n).all fun t => decide (wt (act n σ t) = wt t) && decide ((act n σ t).getD (σ.headD 0) 0 = t.getD 0 0)
theorem okAct2 : okAct 2 = true := by decide +kernel
theorem okAct3 : okAct 3 = true := by decide +kernel
theorem okAct4 : okAct 4 = true := by decide +kernel
theorem okAct5 : okAct 5 = true := by decide +kernel
theorem okAct_of {n : Nat} (h2 : 2 ≤ n) (h5 : n ≤ 5) : okAct n = true := by
  match n, h2, h5 with
  | 2, _, _ => exact okAct2
  | 3, _, _ => exact okAct3
  | 4, _, _ => exact okAct4
  | 5, _, _ => exact okAct5
  | n + 6, _, h => omega
theorem act_perm {n : Nat} (h2 : 2 ≤ n) (h5 : n ≤ 5) {σ : List Nat} (hs : σ ∈ perms n) : ((ins n).map (act n σ)).Perm (ins n) := by
  have h := List.all_eq_true.mp (okAct_of h2 h5) σ hs
  simp only [Bool.and_eq_true] at h
  exact List.isPerm_iff.mp h.1
theorem act_wt {n : Nat} (h2 : 2 ≤ n) (h5 : n ≤ 5) {σ t : List Nat} (hs : σ ∈ perms n) (ht : t ∈ ins n) : wt (act n σ t) = wt t ∧ (act n σ t).getD (σ.headD 0) 0 = t.getD 0 0 := by
  have h := List.all_eq_true.mp (okAct_of h2 h5) σ hs
  simp only [Bool.and_eq_true] at h
  have h := List.all_eq_true.mp h.2 t ht
  simp only [Bool.and_eq_true, decide_eq_true_eq] at h
  exact h
def okWt (n : Nat) : Bool := (ins n).all fun t => decide (((List.range n).map fun i => if t.getD i 0 = 49 then (1 : Int) else 0).sum = wt t) && decide (wt t ≤ n)
theorem okWt_of {n : Nat} (h5 : n ≤ 5) : okWt n = true := by
  match n, h5 with
  | 0, _ => decide +kernel
  | 1, _ => decide +kernel
  | 2, _ => decide +kernel
  | 3, _ => decide +kernel
  | 4, _ => decide +kernel
  | 5, _ => decide +kernel
  | n + 6, h => omega

/-! ### the sums by weight -/
def wk (n : Nat) (f : List Nat → Int) (k : Nat) : Int := ((ins n).map fun t => if wt t = k then f t else 0).sum
def wki (n : Nat) (f : List Nat → Int) (k i : Nat) : Int := ((ins n).map fun t => if wt t = k ∧ t.getD i 0 = 49 then f t else 0).sum
theorem keeps_at {n : Nat} {f : List Nat → Int} {σ t : List Nat} (h : keeps n f σ = true) (ht : t ∈ ins n) : f (act n σ t) = f t :=
  of_decide_eq_true (List.all_eq_true.mp h t ht)
theorem wki_eq {n : Nat} (h2 : 2 ≤ n) (h5 : n ≤ 5) {f : List Nat → Int} {σ : List Nat} (hs : σ ∈ perms n) (hk : keeps n f σ = true) (k : Nat) : wki n f k (σ.headD 0) = wki n f k 0 := by
  unfold wki
  rw [← perm_sum ((act_perm h2 h5 hs).map _), List.map_map]
  refine sum_congr fun t ht => ?_
  obtain ⟨a, b⟩ := act_wt h2 h5 hs ht
  show (if wt (act n σ t) = k ∧ (act n σ t).getD (σ.headD 0) 0 = 49 then f (act n σ t) else 0) = _
  rw [a, b, keeps_at hk ht]
theorem wk_all {n : Nat} (h5 : n ≤ 5) (f : List Nat → Int) (k : Nat) : ((List.range n).map fun i => wki n f k i).sum = k * wk n f k := by
  unfold wki wk
  rw [sum_swap, ← sum_mul]
  refine sum_congr fun t ht => ?_
  have h := List.all_eq_true.mp (okWt_of h5) t ht
  simp only [Bool.and_eq_true, decide_eq_true_eq] at h
  by_cases hw : wt t = k
  · rw [if_pos hw]
    have e : ((List.range n).map fun i => if wt t = k ∧ t.getD i 0 = 49 then f t else 0) = (List.range n).map fun i => f t * (if t.getD i 0 = 49 then (1 : Int) else 0) :=
      List.map_congr_left fun i _ => by
        by_cases hi : t.getD i 0 = 49
        · rw [if_pos ⟨hw, hi⟩, if_pos hi, Int.mul_one]
        · rw [if_neg fun z => hi z.2, if_neg hi, Int.mul_zero]
    rw [e, sum_mul, h.1, hw, Int.mul_comm]
  · rw [if_neg hw, Int.mul_zero]
    have e : ((List.range n).map fun i => if wt t = k ∧ t.getD i 0 = 49 then f t else 0) = (List.range n).map fun _ => (0 : Int) :=
      List.map_congr_left fun i _ => if_neg fun z => hw z.1
    rw [e]
    exact sum_zero _

/-! ### the firsts -/
theorem foldl_inv {α β : Type} (P : β → Prop) (g : β → α → β) : ∀ (l : List α) (b : β), P b → (∀ b a, a ∈ l → P b → P (g b a)) → P (l.foldl g b)
  | [], _, h, _ => h
  | a :: r, b, h, st => foldl_inv P g r (g b a) (st b a List.mem_cons_self h) fun b c hc => st b c (List.mem_cons_of_mem _ hc)
theorem firsts_inv (n : Nat) (f : List Nat → Int) : (firsts n f).Nodup ∧ ∀ i ∈ firsts n f, ∃ σ ∈ perms n, keeps n f σ = true ∧ σ.headD 0 = i := by
  unfold firsts
  refine foldl_inv (fun acc : List Nat => acc.Nodup ∧ ∀ i ∈ acc, ∃ σ ∈ perms n, keeps n f σ = true ∧ σ.headD 0 = i) _ _ _ ⟨List.nodup_nil, fun i h => absurd h (by simp)⟩ fun acc σ hs h => ?_
  unfold fstep
  by_cases hc : acc.contains (σ.headD 0) = true
  · rw [if_pos hc]; exact h
  · rw [if_neg hc]
    by_cases hk : keeps n f σ = true
    · rw [if_pos hk]
      have hn : σ.headD 0 ∉ acc := fun m => hc (List.contains_iff_mem.mpr m)
      refine ⟨List.nodup_append.mpr ⟨h.1, by simp, fun a ha b hb => ?_⟩, fun i hi => ?_⟩
      · rw [List.mem_singleton.mp hb]
        exact fun e => hn (e ▸ ha)
      · rcases List.mem_append.mp hi with m | m
        · exact h.2 i m
        · exact ⟨σ, hs, hk, (List.mem_singleton.mp m).symm⟩
    · rw [if_neg hk]; exact h
theorem nodup_sub_len : ∀ (l m : List Nat), l.Nodup → (∀ x ∈ l, x ∈ m) → l.length ≤ m.length
  | [], m, _, _ => Nat.zero_le _
  | a :: r, m, hn, hs => by
    obtain ⟨h1, h2⟩ := List.nodup_cons.mp hn
    have ha : a ∈ m := hs a List.mem_cons_self
    have h := nodup_sub_len r (m.erase a) h2 fun x hx => by
      have hne : x ≠ a := fun e => h1 (e ▸ hx)
      exact (List.mem_erase_of_ne hne).mpr (hs x (List.mem_cons_of_mem _ hx))
    rw [List.length_erase_of_mem ha] at h
    have : 0 < m.length := List.length_pos_of_mem ha
    rw [List.length_cons]; omega
def okHd (n : Nat) : Bool := (perms n).all fun σ => decide (σ.headD 0 < n)
theorem okHd_of {n : Nat} (h2 : 2 ≤ n) (h5 : n ≤ 5) : okHd n = true := by
  match n, h2, h5 with
  | 2, _, _ => decide +kernel
  | 3, _, _ => decide +kernel
  | 4, _, _ => decide +kernel
  | 5, _, _ => decide +kernel
  | n + 6, _, h => omega
theorem firsts_all {n : Nat} (h2 : 2 ≤ n) (h5 : n ≤ 5) {f : List Nat → Int} (hl : (firsts n f).length = n) {i : Nat} (hi : i < n) : i ∈ firsts n f := by
  obtain ⟨nd, hm⟩ := firsts_inv n f
  by_cases h : i ∈ firsts n f
  · exact h
  · have k := nodup_sub_len (i :: firsts n f) (List.range n) (List.nodup_cons.mpr ⟨h, nd⟩) fun x hx => by
      rcases List.mem_cons.mp hx with e | hx
      · rw [e]; exact List.mem_range.mpr hi
      · obtain ⟨σ, hs, _, e⟩ := hm x hx
        rw [← e]
        exact List.mem_range.mpr (of_decide_eq_true (List.all_eq_true.mp (okHd_of h2 h5) σ hs))
    rw [List.length_cons, List.length_range, hl] at k
    omega
theorem wk_div {n : Nat} (h2 : 2 ≤ n) (h5 : n ≤ 5) {f : List Nat → Int} (hl : (firsts n f).length = n) (k : Nat) : (k : Int) * wk n f k = n * wki n f k 0 := by
  rw [← wk_all h5]
  have e : ((List.range n).map fun i => wki n f k i) = (List.range n).map fun _ => wki n f k 0 := List.map_congr_left fun i hi => by
    obtain ⟨σ, hs, hk, e⟩ := (firsts_inv n f).2 i (firsts_all h2 h5 hl (List.mem_range.mp hi))
    rw [← e]
    exact wki_eq h2 h5 hs hk k
  rw [e, sum_const, List.length_range]

/-! ### the signed sum -/
theorem signed_wk {n : Nat} (h5 : n ≤ 5) (f : List Nat → Int) : signed n f = ((List.range (n + 1)).map fun k => sgn k * wk n f k).sum := by
  unfold signed wk
  have e : ((List.range (n + 1)).map fun k => sgn k * ((ins n).map fun t => if wt t = k then f t else 0).sum) = (List.range (n + 1)).map fun k => ((ins n).map fun t => sgn k * (if wt t = k then f t else 0)).sum :=
    List.map_congr_left fun k _ => (sum_mul _ _ _).symm
  rw [e, sum_swap]
  refine sum_congr fun t ht => ?_
  have h := List.all_eq_true.mp (okWt_of h5) t ht
  simp only [Bool.and_eq_true, decide_eq_true_eq] at h
  have one : ∀ (m w : Nat) (c : Nat → Int) , ((List.range m).map fun k => c k * (if w = k then f t else 0)).sum = if w < m then f t * c w else 0 := by
    intro m w c
    induction m with
    | zero => rfl
    | succ m ih =>
      rw [List.range_succ, List.map_append, List.sum_append, ih]
      simp only [List.map_cons, List.map_nil, List.sum_cons, List.sum_nil]
      by_cases h1 : w < m
      · have a1 : ¬ w = m := by omega
        have a2 : w < m + 1 := by omega
        simp only [if_pos h1, if_neg a1, if_pos a2]; simp
      · by_cases h2 : w = m
        · subst h2
          have a2 : w < w + 1 := by omega
          simp only [if_neg h1, if_pos a2, if_true]
          rw [Int.mul_comm]; omega
        · have a2 : ¬ w < m + 1 := by omega
          simp only [if_neg h1, if_neg h2, if_neg a2]; simp
  rw [one, if_pos (by omega)]
def zs (n : Nat) : List Nat := List.replicate n 48
def os (n : Nat) : List Nat := List.replicate n 49
theorem wk_zero {n : Nat} (h5 : n ≤ 5) (f : List Nat → Int) : wk n f 0 = f (zs n) := by
  match n, h5 with
  | 0, _ => simp [wk, ins, strL, wt, zs]
  | 1, _ => simp [wk, ins, strL, wt, zs]
  | 2, _ => simp [wk, ins, strL, wt, zs]
  | 3, _ => simp [wk, ins, strL, wt, zs]
  | 4, _ => simp [wk, ins, strL, wt, zs]
  | 5, _ => simp [wk, ins, strL, wt, zs]
  | n + 6, h => omega
theorem wk_full {n : Nat} (h5 : n ≤ 5) (f : List Nat → Int) : wk n f n = f (os n) := by
  match n, h5 with
  | 0, _ => simp [wk, ins, strL, wt, os]
  | 1, _ => simp [wk, ins, strL, wt, os]
  | 2, _ => simp [wk, ins, strL, wt, os]
  | 3, _ => simp [wk, ins, strL, wt, os]
  | 4, _ => simp [wk, ins, strL, wt, os]
  | 5, _ => simp [wk, ins, strL, wt, os]
  | n + 6, h => omega
theorem alt2 (W : Nat → Int) : ((List.range 3).map fun k => sgn k * W k).sum = W 0 - W 1 + W 2 := by
  show sgn 0 * W 0 + (sgn 1 * W 1 + (sgn 2 * W 2 + 0)) = _
  show 1 * W 0 + (-1 * W 1 + (1 * W 2 + 0)) = _
  omega
theorem alt3 (W : Nat → Int) : ((List.range 4).map fun k => sgn k * W k).sum = W 0 - W 1 + W 2 - W 3 := by
  show sgn 0 * W 0 + (sgn 1 * W 1 + (sgn 2 * W 2 + (sgn 3 * W 3 + 0))) = _
  show 1 * W 0 + (-1 * W 1 + (1 * W 2 + (-1 * W 3 + 0))) = _
  omega
theorem alt4 (W : Nat → Int) : ((List.range 5).map fun k => sgn k * W k).sum = W 0 - W 1 + W 2 - W 3 + W 4 := by
  show sgn 0 * W 0 + (sgn 1 * W 1 + (sgn 2 * W 2 + (sgn 3 * W 3 + (sgn 4 * W 4 + 0)))) = _
  show 1 * W 0 + (-1 * W 1 + (1 * W 2 + (-1 * W 3 + (1 * W 4 + 0)))) = _
  omega
theorem alt5 (W : Nat → Int) : ((List.range 6).map fun k => sgn k * W k).sum = W 0 - W 1 + W 2 - W 3 + W 4 - W 5 := by
  show sgn 0 * W 0 + (sgn 1 * W 1 + (sgn 2 * W 2 + (sgn 3 * W 3 + (sgn 4 * W 4 + (sgn 5 * W 5 + 0))))) = _
  show 1 * W 0 + (-1 * W 1 + (1 * W 2 + (-1 * W 3 + (1 * W 4 + (-1 * W 5 + 0))))) = _
  omega
theorem fin2 {W V : Nat → Int} {a b : Int} (e0 : W 0 = a) (e1 : W 2 = b) (h0 : a = 0 ∨ a = 1) (h1 : b = 0 ∨ b = 1) (hne : a ≠ b) (d : ∀ k : Nat, (k : Int) * W k = ((2 : Nat) : Int) * V k) : (W 0 - W 1 + W 2) % prm 2 ≠ 0 := by
  have d1 := d 1
  show (W 0 - W 1 + W 2) % 2 ≠ 0
  omega
theorem fin3 {W V : Nat → Int} {a b : Int} (e0 : W 0 = a) (e1 : W 3 = b) (h0 : a = 0 ∨ a = 1) (h1 : b = 0 ∨ b = 1) (hne : a ≠ b) (d : ∀ k : Nat, (k : Int) * W k = ((3 : Nat) : Int) * V k) : (W 0 - W 1 + W 2 - W 3) % prm 3 ≠ 0 := by
  have d1 := d 1
  have d2 := d 2
  show (W 0 - W 1 + W 2 - W 3) % 3 ≠ 0
  omega
theorem fin4 {W V : Nat → Int} {a b : Int} (e0 : W 0 = a) (e1 : W 4 = b) (h0 : a = 0 ∨ a = 1) (h1 : b = 0 ∨ b = 1) (hne : a ≠ b) (d : ∀ k : Nat, (k : Int) * W k = ((4 : Nat) : Int) * V k) : (W 0 - W 1 + W 2 - W 3 + W 4) % prm 4 ≠ 0 := by
  have d1 := d 1
  have d2 := d 2
  have d3 := d 3
  show (W 0 - W 1 + W 2 - W 3 + W 4) % 2 ≠ 0
  omega
theorem fin5 {W V : Nat → Int} {a b : Int} (e0 : W 0 = a) (e1 : W 5 = b) (h0 : a = 0 ∨ a = 1) (h1 : b = 0 ∨ b = 1) (hne : a ≠ b) (d : ∀ k : Nat, (k : Int) * W k = ((5 : Nat) : Int) * V k) : (W 0 - W 1 + W 2 - W 3 + W 4 - W 5) % prm 5 ≠ 0 := by
  have d1 := d 1
  have d2 := d 2
  have d3 := d 3
  have d4 := d 4
  show (W 0 - W 1 + W 2 - W 3 + W 4 - W 5) % 5 ≠ 0
  omega
theorem main_sum {n : Nat} (h2 : 2 ≤ n) (h5 : n ≤ 5) {f : List Nat → Int} (h0 : f (zs n) = 0 ∨ f (zs n) = 1) (h1 : f (os n) = 0 ∨ f (os n) = 1) (hne : f (zs n) ≠ f (os n)) (hl : (firsts n f).length = n) : signed n f % prm n ≠ 0 := by
  have hd : ∀ k : Nat, (k : Int) * wk n f k = (n : Int) * (fun k => wki n f k 0) k := fun k => wk_div h2 h5 hl k
  have e0 := wk_zero h5 f
  have e1 := wk_full h5 f
  rw [signed_wk h5]
  generalize wk n f = W at hd e0 e1 ⊢
  generalize (fun k => wki n f k 0) = V at hd
  generalize f (zs n) = a at *
  generalize f (os n) = b at *
  clear hl
  match n, h2, h5 with
  | 2, _, _ => rw [alt2]; exact fin2 e0 e1 h0 h1 hne hd
  | 3, _, _ => rw [alt3]; exact fin3 e0 e1 h0 h1 hne hd
  | 4, _, _ => rw [alt4]; exact fin4 e0 e1 h0 h1 hne hd
  | 5, _, _ => rw [alt5]; exact fin5 e0 e1 h0 h1 hne hd
  | n + 6, _, h => omega
theorem main_ne {n : Nat} {f : List Nat → Int} (h : signed n f % prm n ≠ 0) : signed n f ≠ 0 := fun e => h (by rw [e]; exact Int.zero_emod _)
end LX


set_option maxRecDepth 100000
set_option maxHeartbeats 4000000
namespace LX
/-! ### the product of all positions -/
def onesOf (n : Nat) (t : List Nat) : List Nat := (List.range n).filter fun k => t.getD k 0 = 49
/-- what is added for one input -/
def tterm (f : List Nat → Int) (n : Nat) (b : List Nat) (t : List Nat) : Int :=
  if ((onesOf n t).filter fun k => !b.contains k) = [] then f t * (if ((b.length : Int) - ((onesOf n t).length : Int)) % 2 = 0 then 1 else -1) else 0
def total (n : Nat) (f : List Nat → Int) (b : List Nat) : Int := ((ins n).map fun t => tterm f n b t).sum
def okOnes (n : Nat) : Bool := (ins n).all fun t => decide ((onesOf n t).length = wt t) && decide (((onesOf n t).filter fun k => !(List.range n).contains k) = []) && decide (wt t ≤ n)
theorem okOnes_of {n : Nat} (h5 : n ≤ 5) : okOnes n = true := by
  match n, h5 with
  | 0, _ => decide +kernel
  | 1, _ => decide +kernel
  | 2, _ => decide +kernel
  | 3, _ => decide +kernel
  | 4, _ => decide +kernel
  | 5, _ => decide +kernel
  | n + 6, h => omega
theorem total_full {n : Nat} (h5 : n ≤ 5) (f : List Nat → Int) : total n f (List.range n) = sgn n * signed n f := by
  unfold total signed
  rw [← sum_mul]
  refine sum_congr fun t ht => ?_
  have h := List.all_eq_true.mp (okOnes_of h5) t ht
  simp only [Bool.and_eq_true, decide_eq_true_eq] at h
  obtain ⟨⟨h1, h2⟩, h3⟩ := h
  unfold tterm
  rw [if_pos h2, h1, List.length_range]
  unfold sgn
  by_cases a : n % 2 = 0
  · by_cases b : wt t % 2 = 0
    · have c : ((n : Int) - (wt t : Int)) % 2 = 0 := by omega
      rw [if_pos a, if_pos b, if_pos c]; omega
    · have c : ¬ ((n : Int) - (wt t : Int)) % 2 = 0 := by omega
      rw [if_pos a, if_neg b, if_neg c]; omega
  · by_cases b : wt t % 2 = 0
    · have c : ¬ ((n : Int) - (wt t : Int)) % 2 = 0 := by omega
      rw [if_neg a, if_pos b, if_neg c]; omega
    · have c : ((n : Int) - (wt t : Int)) % 2 = 0 := by omega
      rw [if_neg a, if_neg b, if_pos c]; omega
theorem total_ne {n : Nat} (h5 : n ≤ 5) {f : List Nat → Int} (h : signed n f ≠ 0) : total n f (List.range n) ≠ 0 := by
  rw [total_full h5]
  unfold sgn
  split <;> omega
/-- the blocks: the ones of each input -/
theorem blk_len (n : Nat) (t : List Nat) : (onesOf n t).length ≤ n := by
  have h := List.length_filter_le (fun k => decide (t.getD k 0 = 49)) (List.range n)
  rw [List.length_range] at h
  exact h
theorem blk_full {n : Nat} (h5 : n ≤ 5) : os n ∈ ins n ∧ onesOf n (os n) = List.range n := by
  match n, h5 with
  | 0, _ => decide +kernel
  | 1, _ => decide +kernel
  | 2, _ => decide +kernel
  | 3, _ => decide +kernel
  | 4, _ => decide +kernel
  | 5, _ => decide +kernel
  | n + 6, h => omega

/-! ### patterns: what holds of all inputs that fit; the signed sum over them -/
def AllP (P : List Nat → Prop) : List Nat → Prop
  | [] => P []
  | c :: p => if c = 45 then AllP (fun t => P (48 :: t)) p ∧ AllP (fun t => P (49 :: t)) p else AllP (fun t => P (c :: t)) p
def sgP (f : List Nat → Int) : List Nat → Int
  | [] => f []
  | c :: p => if c = 45 then sgP (fun t => f (48 :: t)) p - sgP (fun t => f (49 :: t)) p else if c = 49 then - sgP (fun t => f (c :: t)) p else sgP (fun t => f (c :: t)) p
/-- the unknown positions -/
def unk (p : List Nat) : Nat := p.count 45
theorem allP_none : ∀ (p : List Nat) (P : List Nat → Prop), 45 ∉ p → P p → AllP P p
  | [], _, _, h => h
  | c :: p, P, hn, h => by
    have hc : ¬ c = 45 := fun e => hn (by rw [e]; exact List.mem_cons_self)
    unfold AllP
    rw [if_neg hc]
    exact allP_none p _ (fun m => hn (List.mem_cons_of_mem _ m)) h
theorem allP_set : ∀ (p : List Nat) (P : List Nat → Prop) (i : Nat), p[i]? = some 45 → AllP P (p.set i 48) → AllP P (p.set i 49) → AllP P p
  | [], _, _, h, _, _ => by simp at h
  | c :: p, P, 0, h, h0, h1 => by
    have hc : c = 45 := by simpa using h
    subst hc
    unfold AllP
    rw [if_pos rfl]
    simp only [List.set_cons_zero] at h0 h1
    unfold AllP at h0 h1
    rw [if_neg (by decide)] at h0 h1
    exact ⟨h0, h1⟩
  | c :: p, P, i + 1, h, h0, h1 => by
    have h : p[i]? = some 45 := by simpa using h
    simp only [List.set_cons_succ] at h0 h1
    unfold AllP at h0 h1 ⊢
    by_cases hc : c = 45
    · rw [if_pos hc] at h0 h1 ⊢
      exact ⟨allP_set p _ i h h0.1 h1.1, allP_set p _ i h h0.2 h1.2⟩
    · rw [if_neg hc] at h0 h1 ⊢
      exact allP_set p _ i h h0 h1
theorem sgP_set : ∀ (p : List Nat) (f : List Nat → Int) (i : Nat), p[i]? = some 45 → sgP f p = sgP f (p.set i 48) + sgP f (p.set i 49)
  | [], _, _, h => by simp at h
  | c :: p, f, 0, h => by
    have hc : c = 45 := by simpa using h
    subst hc
    simp only [List.set_cons_zero, sgP]
    simp; omega
  | c :: p, f, i + 1, h => by
    have h : p[i]? = some 45 := by simpa using h
    simp only [List.set_cons_succ, sgP]
    by_cases hc : c = 45
    · simp only [if_pos hc]
      rw [sgP_set p (fun t => f (48 :: t)) i h, sgP_set p (fun t => f (49 :: t)) i h]; omega
    · simp only [if_neg hc]
      rw [sgP_set p (fun t => f (c :: t)) i h]
      split <;> omega
theorem sgP_const : ∀ (p : List Nat) (f : List Nat → Int) (b : Int), AllP (fun t => f t = b) p → sgP f p = if 45 ∈ p then 0 else sgP (fun _ => b) p
  | [], f, b, h => by
    simp only [AllP] at h
    simp [sgP, h]
  | c :: p, f, b, h => by
    unfold AllP at h
    simp only [sgP]
    by_cases hc : c = 45
    · rw [if_pos hc] at h
      have i0 := sgP_const p _ b h.1
      have i1 := sgP_const p _ b h.2
      have hm : 45 ∈ c :: p := by rw [hc]; exact List.mem_cons_self
      rw [if_pos hm, if_pos hc, i0, i1]
      omega
    · rw [if_neg hc] at h
      have i0 := sgP_const p _ b h
      by_cases hm : 45 ∈ p
      · rw [if_pos hm] at i0
        rw [if_neg hc, i0, if_pos (List.mem_cons_of_mem _ hm)]
        simp
      · rw [if_neg hm] at i0
        have hm' : ¬ 45 ∈ c :: p := fun m => by
          rcases List.mem_cons.mp m with e | m
          · exact hc e.symm
          · exact hm m
        rw [if_neg hc, i0, if_neg hm', if_neg hc]
theorem unk_set : ∀ (p : List Nat) (i c : Nat), p[i]? = some 45 → c ≠ 45 → unk (p.set i c) + 1 = unk p
  | [], _, _, h, _ => by simp at h
  | a :: p, 0, c, h, hc => by
    have ha : a = 45 := by simpa using h
    subst ha
    simp [unk, List.count_cons, hc]
  | a :: p, i + 1, c, h, hc => by
    have h : p[i]? = some 45 := by simpa using h
    have ih := unk_set p i c h hc
    unfold unk at ih ⊢
    simp only [List.set_cons_succ, List.count_cons]
    omega
theorem unk_zero {p : List Nat} (h : 45 ∉ p) : unk p = 0 := List.count_eq_zero.mpr h
theorem unk_mem {p : List Nat} {i : Nat} (h : p[i]? = some 45) : 45 ∈ p := List.mem_of_getElem? h

/-! ### settled | needed -/
def SetOk (f : List Nat → Int) (p : List Nat) : Option Int → Prop
  | some b => AllP (fun t => f t = b) p
  | none => 45 ∈ p
theorem setOk_leaf {f : List Nat → Int} {p : List Nat} (h : 45 ∉ p) : SetOk f p (some (f p)) := allP_none p _ h rfl
theorem setOk_node {f : List Nat → Int} {p : List Nat} {i : Nat} {lo hi : Option Int} (h : p[i]? = some 45) (h0 : SetOk f (p.set i 48) lo) (h1 : SetOk f (p.set i 49) hi) : SetOk f p (if lo = hi then lo else none) := by
  by_cases e : lo = hi
  · rw [if_pos e]
    subst e
    cases lo with
    | none => exact unk_mem h
    | some b => exact allP_set p _ i h h0 h1
  · rw [if_neg e]
    exact unk_mem h
def NeedOk (f : List Nat → Int) (p : List Nat) (v : Int) : Prop := 0 ≤ v ∧ v ≤ unk p ∧ (v < unk p → sgP f p = 0)
theorem needOk_set {f : List Nat → Int} {p : List Nat} {b : Int} (h : SetOk f p (some b)) : NeedOk f p 0 := by
  refine ⟨by omega, by omega, fun hu => ?_⟩
  have hm : 45 ∈ p := by
    by_cases h : 45 ∈ p
    · exact h
    · rw [unk_zero h] at hu; omega
  rw [sgP_const p f b h, if_pos hm]
theorem needOk_node {f : List Nat → Int} {p : List Nat} {i : Nat} {a b : Int} (h : p[i]? = some 45) (h0 : NeedOk f (p.set i 48) a) (h1 : NeedOk f (p.set i 49) b) : NeedOk f p (1 + (if b > a then b else a)) := by
  have u0 := unk_set p i 48 h (by decide)
  have u1 := unk_set p i 49 h (by decide)
  obtain ⟨a1, a2, a3⟩ := h0
  obtain ⟨b1, b2, b3⟩ := h1
  have sp := sgP_set p f i h
  by_cases e : b > a
  · rw [if_pos e]
    refine ⟨by omega, by omega, fun hu => ?_⟩
    have := a3 (by omega)
    have := b3 (by omega)
    omega
  · rw [if_neg e]
    refine ⟨by omega, by omega, fun hu => ?_⟩
    have := a3 (by omega)
    have := b3 (by omega)
    omega
/-- the same inputs, built from the front -/
def insH : Nat → List (List Nat)
  | 0 => [[]]
  | n + 1 => (insH n).map (48 :: ·) ++ (insH n).map (49 :: ·)
theorem insH_eq {n : Nat} (h5 : n ≤ 5) : ins n = insH n := by
  match n, h5 with
  | 0, _ => decide +kernel
  | 1, _ => decide +kernel
  | 2, _ => decide +kernel
  | 3, _ => decide +kernel
  | 4, _ => decide +kernel
  | 5, _ => decide +kernel
  | n + 6, h => omega
theorem sgn_succ (k : Nat) : sgn (k + 1) = - sgn k := by
  unfold sgn
  by_cases h : k % 2 = 0
  · rw [if_pos h, if_neg (by omega)]
  · rw [if_neg h, if_pos (by omega)]; rfl
theorem sgP_all : ∀ (n : Nat) (f : List Nat → Int), sgP f (List.replicate n 45) = ((insH n).map fun t => f t * sgn (wt t)).sum
  | 0, f => by simp [sgP, insH, wt, sgn]
  | n + 1, f => by
    rw [List.replicate_succ]
    simp only [sgP, insH, if_true, List.map_append, List.sum_append, List.map_map]
    rw [sgP_all n, sgP_all n]
    have e0 : ((insH n).map ((fun t => f t * sgn (wt t)) ∘ fun x => 48 :: x)).sum = ((insH n).map fun t => f (48 :: t) * sgn (wt t)).sum := sum_congr fun t _ => by
      show f (48 :: t) * sgn (wt (48 :: t)) = _
      have : wt (48 :: t) = wt t := by simp [wt, List.count_cons]
      rw [this]
    have e1 : ((insH n).map ((fun t => f t * sgn (wt t)) ∘ fun x => 49 :: x)).sum = ((insH n).map fun t => -1 * (f (49 :: t) * sgn (wt t))).sum := sum_congr fun t _ => by
      show f (49 :: t) * sgn (wt (49 :: t)) = _
      have : wt (49 :: t) = wt t + 1 := by simp [wt, List.count_cons]
      rw [this, sgn_succ, Int.mul_neg]; omega
    rw [e0, e1, sum_mul]; omega
theorem need_full {n : Nat} (h5 : n ≤ 5) {f : List Nat → Int} {v : Int} (h : NeedOk f (List.replicate n 45) v) (hs : signed n f ≠ 0) : v = n := by
  obtain ⟨_, a, b⟩ := h
  have u : unk (List.replicate n 45) = n := by simp [unk, List.count_replicate]
  rw [u] at a b
  by_cases e : v < n
  · have z := b e
    rw [sgP_all, ← insH_eq h5] at z
    exact absurd z hs
  · omega

/-! ### the order of the patterns -/
theorem mem_strL {signs : List Nat} : ∀ {n : Nat} {p : List Nat}, p ∈ strL signs n ↔ p.length = n ∧ ∀ c ∈ p, c ∈ signs
  | 0, p => by
    simp only [strL, List.mem_singleton]
    constructor
    · rintro rfl; exact ⟨rfl, fun c h => absurd h (by simp)⟩
    · rintro ⟨h, _⟩; exact List.eq_nil_of_length_eq_zero h
  | n + 1, p => by
    simp only [strL, List.mem_flatMap, List.mem_map]
    constructor
    · rintro ⟨t, ht, s, hs, rfl⟩
      obtain ⟨a, b⟩ := mem_strL.mp ht
      refine ⟨by simp [a], fun c hc => ?_⟩
      rcases List.mem_append.mp hc with m | m
      · exact b c m
      · rw [List.mem_singleton.mp m]; exact hs
    · rintro ⟨h1, h2⟩
      have hne : p ≠ [] := fun e => by rw [e] at h1; simp at h1
      refine ⟨p.dropLast, mem_strL.mpr ⟨by rw [List.length_dropLast, h1]; rfl, fun c hc => h2 c (List.dropLast_subset p hc)⟩, p.getLast hne, h2 _ (List.getLast_mem hne), List.dropLast_concat_getLast hne⟩
def rk (p : List Nat) : Nat := p.foldl (fun a c => a * 3 + (if c = 45 then 0 else if c = 48 then 1 else 2)) 0
def okPat (n : Nat) : Bool := decide ((pats n).map rk = List.range ((pats n).length)) && (pats n).all fun p => (List.range n).all fun i => if p.getD i 0 = 45 then decide (rk p < rk (p.set i 48)) && decide (rk p < rk (p.set i 49)) else true
theorem okPat_of {n : Nat} (h5 : n ≤ 5) : okPat n = true := by
  match n, h5 with
  | 0, _ => decide +kernel
  | 1, _ => decide +kernel
  | 2, _ => decide +kernel
  | 3, _ => decide +kernel
  | 4, _ => decide +kernel
  | 5, _ => decide +kernel
  | n + 6, h => omega
theorem rk_at {n : Nat} (h5 : n ≤ 5) {p : List Nat} {i : Nat} (h : (pats n)[i]? = some p) : rk p = i := by
  have k := okPat_of h5
  unfold okPat at k
  simp only [Bool.and_eq_true, decide_eq_true_eq] at k
  have e : ((pats n).map rk)[i]? = some (rk p) := by rw [List.getElem?_map, h]; rfl
  rw [k.1, List.getElem?_range (by have := (List.getElem?_eq_some_iff.mp h).1; exact this)] at e
  exact (Option.some.inj e).symm
/-- the pattern with a bit put at an unknown place came earlier, from the back -/
theorem pat_before {n : Nat} (h5 : n ≤ 5) {p : List Nat} {i j b : Nat} (h : (pats n).reverse[i]? = some p) (hp : p[j]? = some 45) (hb : b = 48 ∨ b = 49) : p.set j b ∈ (pats n).reverse.take i := by
  have hi : i < (pats n).length := by
    have := (List.getElem?_eq_some_iff.mp h).1
    rwa [List.length_reverse] at this
  rw [List.getElem?_reverse hi] at h
  have hr := rk_at h5 h
  have hm : p ∈ pats n := List.mem_of_getElem? h
  obtain ⟨l1, l2⟩ := mem_strL.mp hm
  have hj : j < n := by
    have := (List.getElem?_eq_some_iff.mp hp).1
    rwa [l1] at this
  have hset : p.set j b ∈ pats n := mem_strL.mpr ⟨by rw [List.length_set, l1], fun c hc => by
    rcases List.mem_or_eq_of_mem_set hc with m | m
    · exact l2 c m
    · rw [m]
      rcases hb with e | e <;> rw [e] <;> decide⟩
  have k := okPat_of h5
  unfold okPat at k
  simp only [Bool.and_eq_true] at k
  have k := List.all_eq_true.mp (List.all_eq_true.mp k.2 p hm) j (List.mem_range.mpr hj)
  have hg : p.getD j 0 = 45 := by
    rw [List.getD_eq_getElem?_getD, hp]; rfl
  rw [if_pos hg] at k
  simp only [Bool.and_eq_true, decide_eq_true_eq] at k
  have hlt : rk p < rk (p.set j b) := by
    rcases hb with e | e <;> rw [e]
    · exact k.1
    · exact k.2
  obtain ⟨m, hmm⟩ := List.getElem?_of_mem hset
  have hmr := rk_at h5 hmm
  have hml := (List.getElem?_eq_some_iff.mp hmm).1
  refine List.mem_of_getElem? (i := (pats n).length - 1 - m) ?_
  rw [List.getElem?_take_of_lt (by omega), List.getElem?_reverse (by omega)]
  have : (pats n).length - 1 - ((pats n).length - 1 - m) = m := by omega
  rw [this]
  exact hmm
theorem pat_last {n : Nat} (h5 : n ≤ 5) : List.replicate n 45 ∈ pats n := mem_strL.mpr ⟨List.length_replicate, fun c hc => by rw [(List.mem_replicate.mp hc).2]; decide⟩
theorem pats_len {n : Nat} (h5 : n ≤ 5) : (pats n).length ≤ 243 := by
  match n, h5 with
  | 0, _ => decide +kernel
  | 1, _ => decide +kernel
  | 2, _ => decide +kernel
  | 3, _ => decide +kernel
  | 4, _ => decide +kernel
  | 5, _ => decide +kernel
  | n + 6, h => omega
end LX


set_option maxRecDepth 100000
set_option maxHeartbeats 4000000
namespace LX
/-! ### the program's reordering -/
def putN (t o : List Nat) : Nat → List Nat
  | 0 => t
  | k + 1 => (putN t o k).set (o.getD k 0) (t.getD k 0)
theorem putN_len (t o : List Nat) : ∀ k, (putN t o k).length = t.length
  | 0 => rfl
  | k + 1 => by
    show ((putN t o k).set _ _).length = _
    rw [List.length_set, putN_len t o k]
def okReo (n : Nat) : Bool := (perms n).all fun o => decide (o.length = n) && decide o.Nodup && (o.all fun i => decide (i < n)) && (ins n).all fun t => decide (putN t o n = act n o t) && decide ((act n o t).length = n) && (act n o t).all fun c => decide (c = 48) || decide (c = 49)
theorem okReo_of {n : Nat} (h2 : 2 ≤ n) (h5 : n ≤ 5) : okReo n = true := by
  match n, h2, h5 with
  | 2, _, _ => decide +kernel
  | 3, _, _ => decide +kernel
  | 4, _, _ => decide +kernel
  | 5, _, _ => decide +kernel
  | n + 6, _, h => omega
theorem perm_fact {n : Nat} (h2 : 2 ≤ n) (h5 : n ≤ 5) {o : List Nat} (ho : o ∈ perms n) : o.length = n ∧ o.Nodup ∧ (∀ i ∈ o, i < n) ∧ ∀ t ∈ ins n, putN t o n = act n o t ∧ act n o t ∈ ins n := by
  have h := List.all_eq_true.mp (okReo_of h2 h5) o ho
  simp only [Bool.and_eq_true, decide_eq_true_eq] at h
  obtain ⟨⟨⟨h1, h2⟩, h3⟩, h4⟩ := h
  refine ⟨h1, h2, fun i hi => of_decide_eq_true (List.all_eq_true.mp h3 i hi), fun t ht => ?_⟩
  have k := List.all_eq_true.mp h4 t ht
  simp only [Bool.and_eq_true, decide_eq_true_eq] at k
  obtain ⟨⟨k1, k2⟩, k3⟩ := k
  refine ⟨k1, mem_strL.mpr ⟨k2, fun c hc => ?_⟩⟩
  have := List.all_eq_true.mp k3 c hc
  simp only [Bool.or_eq_true, decide_eq_true_eq] at this
  simp only [List.mem_cons, List.not_mem_nil, or_false]
  exact this
/-- the answers after reordering -/
def reoL (n : Nat) (f : List Nat → Int) (o : List Nat) : List Nat := (ins n).map fun t => 48 + (f (act n o t)).toNat
theorem keeps_iff {n : Nat} {f : List Nat → Int} (h2 : 2 ≤ n) (h5 : n ≤ 5) (hf : ∀ t ∈ ins n, f t = 0 ∨ f t = 1) {z : List Nat} (hz : z = (ins n).map fun t => 48 + (f t).toNat) {o : List Nat} (ho : o ∈ perms n) : decide (reoL n f o = z) = keeps n f o := by
  unfold keeps reoL
  obtain ⟨_, _, _, h4⟩ := perm_fact h2 h5 ho
  rw [Bool.eq_iff_iff, decide_eq_true_eq, List.all_eq_true, hz]
  constructor
  · intro e t ht
    have k := List.map_inj_left.mp e t ht
    have a := hf _ (h4 t ht).2
    have b := hf t ht
    refine decide_eq_true ?_
    omega
  · intro e
    refine List.map_congr_left fun t ht => ?_
    rw [of_decide_eq_true (e t ht)]
/-- the firsts as the program gathers them -/
def gath (acc : List Nat) (o : List Nat) : List Nat := if acc.contains (o.headD 0) then acc else acc ++ [o.headD 0]
theorem gath_filter (n : Nat) (f : List Nat → Int) : ∀ (l : List (List Nat)) (acc : List Nat), (l.filter (keeps n f)).foldl gath acc = l.foldl (fstep n f) acc
  | [], _ => rfl
  | o :: l, acc => by
    rw [List.foldl_cons]
    cases h : keeps n f o with
    | true =>
      rw [List.filter_cons_of_pos h, List.foldl_cons, gath_filter n f l]
      congr 1
      unfold gath fstep
      by_cases hc : acc.contains (o.headD 0) = true
      · rw [if_pos hc, if_pos hc]
      · rw [if_neg hc, if_neg hc, if_pos h]
    | false =>
      rw [List.filter_cons_of_neg (by rw [h]; decide), gath_filter n f l]
      congr 1
      unfold fstep
      by_cases hc : acc.contains (o.headD 0) = true
      · rw [if_pos hc]
      · rw [if_neg hc, if_neg (by rw [h]; decide)]
end LX


set_option Elab.async false
set_option linter.all false
set_option maxRecDepth 100000
set_option maxHeartbeats 4000000
/-! Rules that the layer lacks. -/
namespace LX
open PySem PySem.Spec PyProof.Rows L2 TL

section
variable {X : Cx}
/-- repr(None) -/
theorem call_repr_none : CallR X (.builtin "repr") (fun xs H Q => xs = [.non] ∧ Q (.str "None") H) := by
  intro pins s σ H xs us Q I r h
  obtain ⟨rfl, q⟩ := h
  obtain ⟨u, rfl, ru⟩ := vals1 r
  cases ru
  exact PySem.P.repr_of_none ⟨.str "None", H, I.tok _, ⟨_, rfl⟩, q⟩
/-- 'x' * n -/
def repS (x : Str) (n : Nat) : Str := ⟨(List.replicate n x.cps).foldl (· ++ ·) #[]⟩
theorem rep_fold (c : Nat) : ∀ (n : Nat) (a : Array Nat), ((List.replicate n #[c]).foldl (· ++ ·) a).toList = a.toList ++ List.replicate n c
  | 0, a => by simp
  | n + 1, a => by
    rw [List.replicate_succ, List.foldl_cons, rep_fold c n, Array.toList_append, List.replicate_succ, List.append_assoc]
    rfl
theorem repS_tl (c n : Nat) : tl (repS ⟨#[c]⟩ n) = List.replicate n c := by
  unfold repS tl
  rw [rep_fold]
  simp
theorem len_one {z : Str} (h : z.length = 1) : ∃ c, z = ⟨#[c]⟩ := by
  rw [len_tl] at h
  obtain ⟨c, e⟩ := List.length_eq_one_iff.mp h
  exact ⟨c, ext_tl e⟩
theorem op_mul_str : OpR X (binaryOp .Mult) (fun x y H Q => ∃ (z : Str) (n : Nat), x = .str z ∧ y = .int n ∧ z.length = 1 ∧ n ≤ 1000 ∧ Q (.str (repS z n)) H) := by
  intro pins s σ H x y v u Q I rx ry h
  obtain ⟨z, n, rfl, rfl, hz, hn, q⟩ := h
  obtain ⟨t, rfl⟩ := rx
  obtain ⟨t', rfl⟩ := ry
  have h1 : ¬ (n : Int) < -(2 ^ 63 : Int) := by omega
  have h2 : ¬ (n : Int) ≥ 2 ^ 63 := by omega
  have en : ((n : Int).toNat) = n := by omega
  refine PySem.P.mul_str (by rw [decide_eq_false h1, decide_eq_false h2]; rfl) (fun a b => ?_) (fun a b => ?_) ?_
  · rw [hz]
    have : (1 : Int) ≤ (2 ^ 63 - 1) / (n : Int) := Int.le_ediv_of_mul_le (by omega) (by omega)
    have e1 : ((1 : Nat) : Int) = 1 := rfl
    rw [e1]
    omega
  · rw [hz, en]
    show decide (1 * n > sizeLine) = false
    have : (sizeLine : Nat) = 16777216 := sizeLine_eq
    exact decide_eq_false (by omega)
  · by_cases a : (n : Int) < 1
    · rw [if_pos a]
      have : n = 0 := by omega
      subst this
      exact ⟨by decide, .str (repS z 0), H, I.tok _, ⟨_, rfl⟩, q⟩
    · rw [if_neg a]
      by_cases b : ((n : Int) == 1 || z.length == 0) = true
      · rw [if_pos b]
        rw [hz] at b
        have : n = 1 := by
          simp at b
          omega
        subst this
        refine ⟨.str z, H, I, ⟨_, rfl⟩, ?_⟩
        have e : repS z 1 = z := by
          unfold repS
          simp
        rw [e] at q
        exact q
      · rw [if_neg b, en]
        obtain ⟨c, ec⟩ := len_one hz
        have hl : (repS z n).length ≤ sizeLine := by
          rw [len_tl, ec, repS_tl, List.length_replicate]
          have : (sizeLine : Nat) = 16777216 := sizeLine_eq
          omega
        exact ⟨hl, .str (repS z n), H, I.tok _, ⟨_, rfl⟩, q⟩

/-! ### min of texts -/
theorem readsS (h : Heap) : ∀ {ys : List Str} {us : List Value}, Vals (ys.map V.str) us → ReadsAll h us (ys.map PyData.str) []
  | [], _, r => by cases r; exact .nil
  | y :: ys, _, r => by
    cases r with
    | cons r1 r2 =>
      obtain ⟨t, rfl⟩ := r1
      exact .cons (as := []) (.str y t) (readsS h r2)
theorem depthS : ∀ ys : List Str, PyData.depthAll (ys.map PyData.str) = 0
  | [] => rfl
  | y :: ys => by
    show Nat.max (PyData.depth (.str y)) (PyData.depthAll (ys.map PyData.str)) = 0
    rw [depthS ys]
    rfl
theorem alikeS (ys : List Str) : PySem.W.AlikeAll (ys.map PyData.str) := by
  refine ⟨fun x hx y hy => ?_, fun x hx => ?_⟩
  · obtain ⟨a, _, rfl⟩ := List.mem_map.mp hx
    obtain ⟨b, _, rfl⟩ := List.mem_map.mp hy
    rfl
  · obtain ⟨a, _, rfl⟩ := List.mem_map.mp hx
    exact fun z => nomatch z
/-- the least text of a list that is not empty -/
def MinS (x : Str) (xs : List Str) (z : Str) : Prop := PySem.W.minD (.str x) (xs.map PyData.str) = .str z
theorem MinS.one {x : Str} {xs : List Str} {z z' : Str} (h : MinS x xs z) (h' : MinS x xs z') : z = z' := PyData.str.inj (h.symm.trans h')
def rMinS (K : PySem.W.Frag) : List V → Hp → VK → Prop := fun vs H Q => ∃ (a : Addr) (x : Str) (xs : List Str), vs = [V.ref a] ∧ SqL K H a ((x :: xs).map V.str) ∧ ∀ z, z ∈ x :: xs → MinS x xs z → Q (.str z) H
theorem cr_minS (hc : X.calm = true) (hu : X.A.units + 1 < cLine) : CallR X (.builtin "min") (rMinS X.K) := by
  intro pins s σ H vs us Q I r h
  obtain ⟨a, x, xs, rfl, hs, q⟩ := h
  obtain ⟨its, rv, hl, hz⟩ := I.list hs
  rw [Vals.ref1 r]
  have hrd := readsS s.heap rv
  refine PySem.W.min_list_data (x := .str x) (xs := xs.map PyData.str) (as := []) (I.ok.hd hc) hl.isList (by simpa using hrd) (alikeS (x :: xs)) (by
    have e := depthS (x :: xs)
    rw [List.map_cons] at e
    rw [e]
    omega) fun i v h' tk bs hv hr hk => ?_
  have hmem : ∃ z, z ∈ x :: xs ∧ RelV (.str z) v := by
    have hv' : its[i]? = some v := by simpa using hv
    have hi : i < its.length := (List.getElem?_eq_some_iff.mp hv').1
    have hlen := rv.length
    rw [List.length_map] at hlen
    obtain ⟨u, hu1, hu2⟩ := rv.get (i := i) (x := V.str ((x :: xs)[i]'(by omega))) (by rw [List.getElem?_map, List.getElem?_eq_getElem (by omega)]; rfl)
    rw [hv'] at hu1
    cases hu1
    exact ⟨_, List.getElem_mem _, hu2⟩
  obtain ⟨z, hz1, t, ez⟩ := hmem
  subst ez
  have hm : MinS x xs z := by
    unfold MinS
    generalize PySem.W.minD (.str x) (xs.map PyData.str) = d at hr ⊢
    cases hr
    rfl
  exact ⟨.str z, H, I.kept hk, ⟨t, rfl⟩, q z hz1 hm⟩

/-! ### sorted of tuples of ints that are not empty -/
theorem readsI (h : Heap) : ∀ {ns : List Int} {us : List Value}, Vals (ns.map V.int) us → ReadsAll h us (ns.map PyData.int) []
  | [], _, r => by cases r; exact .nil
  | y :: ys, _, r => by
    cases r with
    | cons r1 r2 =>
      obtain ⟨t, rfl⟩ := r1
      exact .cons (as := []) (.int y t) (readsI h r2)
theorem depthI : ∀ ns : List Int, PyData.depthAll (ns.map PyData.int) = 0
  | [] => rfl
  | y :: ys => by
    show Nat.max (PyData.depth (.int y)) (PyData.depthAll (ys.map PyData.int)) = 0
    rw [depthI ys]
    rfl
theorem alikeI : ∀ ns ms : List Int, PySem.W.alikeAll (ns.map PyData.int) (ms.map PyData.int) = true
  | [], _ => by simp [PySem.W.alikeAll]
  | n :: ns, [] => rfl
  | n :: ns, m :: ms => by
    show (PySem.W.alike (.int n) (.int m) && PySem.W.alikeAll (ns.map PyData.int) (ms.map PyData.int)) = true
    rw [alikeI ns ms]
    rfl
def encT (p : Addr × List Int) : PyData := .tuple (p.2.map PyData.int)
def rSortM (K : PySem.W.Frag) : List V → Hp → VK → Prop := fun vs H Q => ∃ (a : Addr) (bs : List (Addr × List Int)), vs = [V.ref a] ∧ SqL K H a (bs.map fun p => V.ref p.1) ∧ bs.length ≤ 1000 ∧ (∀ p ∈ bs, SqT K H p.1 (p.2.map V.int) ∧ p.2 ≠ []) ∧
  ∀ (cs : List (Addr × List Int)) (p : Addr), cs.Perm bs → H p = none → Q (.ref p) (upd H p (.lst (cs.map fun p => V.ref p.1)))
theorem vals_refs : ∀ {bs : List (Addr × List Int)} {us : List Value}, Vals (bs.map fun p => V.ref p.1) us → us = bs.map fun p => Value.ref p.1
  | [], _, r => by cases r; rfl
  | b :: bs, _, r => by
    cases r with
    | cons r1 r2 =>
      cases r1
      rw [vals_refs r2]
      rfl
theorem refs_vals : ∀ (bs : List (Addr × List Int)), Vals (bs.map fun p => V.ref p.1) (bs.map fun p => Value.ref p.1)
  | [] => .nil
  | b :: bs => .cons rfl (refs_vals bs)
theorem each_refs {R : Value → Addr × List Int → Prop} : ∀ (bs : List (Addr × List Int)), (∀ b ∈ bs, R (.ref b.1) b) → PySem.W.EachIs R (bs.map fun p => Value.ref p.1) bs
  | [], _ => .nil
  | b :: bs, h => .cons (h b List.mem_cons_self) (each_refs bs fun c hc => h c (List.mem_cons_of_mem _ hc))
theorem each_refs_inv : ∀ {us : List Value} {bs : List (Addr × List Int)}, PySem.W.EachIs (fun v b => v = Value.ref b.1) us bs → us = bs.map fun p => Value.ref p.1
  | _, _, .nil => rfl
  | _, _, .cons h t => by
    rw [each_refs_inv t, h]
    rfl
theorem cr_sortM (hu : X.A.units + 64 < cLine) : CallR X (.builtin "sorted") (rSortM X.K) := by
  intro pins s σ H vs us Q I r h
  obtain ⟨a, bs, rfl, hs, hn, ht, q⟩ := h
  obtain ⟨its, rv, hl, hz⟩ := I.list hs
  rw [Vals.ref1 r]
  have ei := vals_refs rv
  subst ei
  refine PySem.W.sorted_data (vs := bs.map fun p => Value.ref p.1) (bs := bs) (enc := encT) (R := fun v b => v = Value.ref b.1) hl.isList (each_refs bs fun _ _ => rfl) (each_refs bs fun b hb => ?_) (fun d hd d' hd' => ?_) (.inl fun d hd => ?_) (by
      have : (sizeLine : Nat) = 16777216 := sizeLine_eq
      omega) (fun b hb => ?_) fun out hlen he => ?_
  · obtain ⟨its, rt, hT, _⟩ := I.tuple (ht b hb).1
    obtain ⟨o, e1, e2, n, e3⟩ := hT
    exact ⟨[], .tuple e1 e2 e3 (by simpa using readsI s.heap rt)⟩
  · obtain ⟨b, _, rfl⟩ := List.mem_map.mp hd
    obtain ⟨c, _, rfl⟩ := List.mem_map.mp hd'
    exact alikeI _ _
  · obtain ⟨b, hb, rfl⟩ := List.mem_map.mp hd
    have hne := (ht b hb).2
    unfold encT
    cases e : b.2 with
    | nil => exact absurd e hne
    | cons x r => exact ⟨.int x, r.map PyData.int, rfl⟩
  · have e : PyData.depth (encT b) = 1 + PyData.depthAll (b.2.map PyData.int) := by
      unfold encT
      exact Nat.add_comm _ _
    rw [e, depthI]
    omega
  · have e := each_refs_inv he
    subst e
    have hp : (bs.mergeSort (PySem.W.dataLe false encT)).Perm bs := List.mergeSort_perm bs _
    obtain ⟨ep, he'⟩ := PyProof.Rows.sortedAll_at s.heap (bs.map fun p => Value.ref p.1) (((bs.mergeSort (PySem.W.dataLe false encT)).map fun p => Value.ref p.1).toArray)
    refine ⟨.ref _, upd H (s.heap.objs.size + 1) (.lst ((bs.mergeSort (PySem.W.dataLe false encT)).map fun p => V.ref p.1)), I.laid (t' := s.toks) (fun _ _ => PyProof.Rows.sortedAll_old) (Nat.le_succ _) ⟨?_, _, ep, refs_vals _, he'⟩, rfl, q _ _ hp (I.hok.fresh (Nat.le_succ _))⟩
    rw [List.length_map, hp.length_eq]
    have : (sizeLine : Nat) = 16777216 := sizeLine_eq
    omega

/-! ### t.index(n) of a tuple of ints -/
theorem mt_tup_indexI : MtR X "tuple.index" (fun x xs H Q => ∃ p, ∃ ns : List Int, ∃ k, x = .ref p ∧ xs = [.int k] ∧ SqT X.K H p (ns.map V.int) ∧ k ∈ ns ∧ Q (.int (ns.idxOf k : Nat)) H) := by
  intro pins s σ H x xs v us Q I rx rxs h
  obtain ⟨p, ns, k, rfl, rfl, ht, hk, q⟩ := h
  cases rx
  obtain ⟨u, rfl, t, rfl⟩ := vals1 rxs
  obtain ⟨its, rt, hT, _⟩ := I.tuple ht
  exact PySem.SeqAt.tuple_index_ints (vs := its) hT rt.ints hk ⟨.int (ns.idxOf k : Nat), H, I.tok _, ⟨_, rfl⟩, q⟩

/-! ### == by an own def of a class whose instances have a dict -/
variable {CX : CXT} {C g : Addr} {n : Nat} {sp : Sp} {E : XK}
def rOwnD (C : Addr) (sp : Sp) (E : XK) : R2 := fun x y H Q => ∃ a dx fs b dy gs, x = .ref a ∧ y = .ref b ∧ H a = some (.ins C dx fs) ∧ H b = some (.ins C dy gs) ∧ sp [x, y] H Q E
theorem op_ownD (hn : PySem.W.notFirst X.K C (.ref C) = true) (hs : PySem.W.findIn X.K (.ref C) "__eq__" = some (some (.ref g))) (hf : PySem.W.isFn X.K (.ref g) = true) (F : FnR X.prog X.w X.K X.mg X.base CX n g sp)
    (hr : Room n X.A) (hx : Passes CX X E) : OpR X (compareOp .Eq) (rOwnD C sp E) := by
  intro pins s σ H x y v u Q I rx ry h
  obtain ⟨a, dx, fs, b, dy, gs, rfl, rfl, ha, hb, q⟩ := h
  cases (show v = Value.ref a from rx)
  cases (show u = Value.ref b from ry)
  obtain ⟨mA, O, _⟩ := ins_get I.hok ha
  obtain ⟨od, J, _⟩ := O.look
  obtain ⟨mB, O', _⟩ := ins_get I.hok hb
  obtain ⟨od', J', _⟩ := O'.look
  obtain ⟨m, hF⟩ := I.fr
  show wpAny (model X.prog X.w) X.A (richCompare .Eq (.ref a) (.ref b)) _ _ _
  refine PySem.W.cmp_K (op := .Eq) (tb := .ref C) hr.units0 hF I.ok.mod.kin J J'.type hn hs hf ?_
  refine wpAny_mono (wpAny_call (run_fnR (us := [.ref a, .ref b]) (vs := [.ref a, .ref b]) F hr hx I (.cons rfl (.cons rfl .nil)) q)) (fun w s' z => ?_) fun _ _ x => x
  obtain ⟨z', H', I', rz, qz⟩ := z
  exact SlX.cmpback rz ⟨z', H', I', rz, qz⟩
end
end LX


set_option Elab.async false
set_option linter.all false
set_option maxRecDepth 100000
set_option maxHeartbeats 4000000
namespace LX
open PySem PySem.Spec PyProof.Rows L2 TL

/-! ### a written dict from ints to ints -/
def wdB : List DictEntry → List (Int × Int) → Bool
  | [], [] => true
  | e :: es, (k, v) :: r => decide (e.hash = hashInt k) && (Value.isInt k e.key && (Value.isInt v e.val && wdB es r))
  | _, _ => false
def WDict (K : PySem.W.Frag) (a : Addr) (kvs : List (Int × Int)) : Prop := ∃ es n, K.lookup a = some ⟨.type "dict", none, .dict es n, #[]⟩ ∧ wdB es.toList kvs = true
theorem wd_keys : ∀ {es : List DictEntry} {kvs : List (Int × Int)}, wdB es kvs = true → ∀ e ∈ es, ∃ k, Value.isInt k e.key = true ∧ e.hash = hashInt k
  | [], _, _, e, he => absurd he (by simp)
  | e :: es, [], h, _, _ => by cases h
  | e :: es, (k, v) :: r, h, e', he => by
    simp only [wdB, Bool.and_eq_true, decide_eq_true_eq] at h
    rcases List.mem_cons.mp he with q | q
    · subst q
      exact ⟨k, h.2.1, h.1⟩
    · exact wd_keys h.2.2.2 e' q
theorem isInt_two {k j : Int} {v : Value} (h : Value.isInt k v = true) : Value.isInt j v = decide (k = j) := by
  obtain ⟨t, rfl⟩ := Value.isInt_shape h
  simp only [Value.isInt]
  first | rfl | (rw [Bool.eq_iff_iff]; simp)
theorem wd_find : ∀ {es : List DictEntry} {kvs : List (Int × Int)} (j : Int), wdB es kvs = true → RelO ((kvs.find? fun p => decide (p.1 = j)).map fun p => V.int p.2) ((es.find? fun e => Value.isInt j e.key).map (·.val))
  | [], [], _, _ => trivial
  | [], _ :: _, _, h => by cases h
  | e :: es, [], _, h => by cases h
  | e :: es, (k, v) :: r, j, h => by
    simp only [wdB, Bool.and_eq_true, decide_eq_true_eq] at h
    rw [List.find?_cons, List.find?_cons, isInt_two h.2.1]
    by_cases q : k = j
    · simp only [q, decide_true]
      exact Value.isInt_shape h.2.2.1
    · simp only [q, decide_false]
      exact wd_find j h.2.2.2
section
variable {X : Cx}
theorem wd_map {a : Addr} {es : Array DictEntry} {n : Nat} {kvs : List (Int × Int)} {h : Heap} (P : Program) (w : World) (KX : X.K.In h) (hl : X.K.lookup a = some ⟨.type "dict", none, .dict es n, #[]⟩) (hb : wdB es.toList kvs = true) :
    h.MapOf (intKind P w) a (fun j => (es.toList.find? fun e => Value.isInt j e.key).map (·.val)) :=
  ⟨_, es, n, KX _ _ hl, ⟨rfl, rfl, rfl⟩, rfl, fun e he => wd_keys hb e (Array.mem_toList_iff.mpr he), fun j => by
    unfold findBy
    rw [← Array.find?_toList]
    rfl⟩
def wdGet (kvs : List (Int × Int)) (j : Int) : Option Int := (kvs.find? fun p => decide (p.1 = j)).map (·.2)
theorem wdGet_rel {kvs : List (Int × Int)} {j : Int} : ((kvs.find? fun p => decide (p.1 = j)).map fun p => V.int p.2) = (wdGet kvs j).map V.int := by
  unfold wdGet
  rw [Option.map_map]
  rfl
/-- n not in d -/
theorem op_notIn_wd : OpR X (compareOp .NotIn) (fun x y H Q => ∃ a kvs j, x = .int j ∧ y = .ref a ∧ WDict X.K a kvs ∧ (a == sysModules) = false ∧ Q (.bl (!(wdGet kvs j).isSome)) H) := by
  intro pins s σ H x y v u Q I rx ry h
  obtain ⟨a, kvs, j, rfl, rfl, ⟨es, n, hl, hb⟩, hs, q⟩ := h
  obtain ⟨t, rfl⟩ := rx
  cases ry
  have r := wd_find j hb
  rw [wdGet_rel] at r
  refine wpAny_notIn_of (intKind_is X.prog X.w j t) hs (wd_map X.prog X.w I.kIn hl hb) ?_
  have e := r.isSome_eq
  rw [Option.isSome_map] at e
  rw [← e]
  exact ⟨.bl (!(wdGet kvs j).isSome), H, I.tok _, rfl, q⟩
/-- d[n], there -/
theorem ix_wd : IxR X (fun x y H Q => ∃ a kvs j v, x = .ref a ∧ y = .int j ∧ WDict X.K a kvs ∧ wdGet kvs j = some v ∧ Q (.int v) H) := by
  intro value slice pins s σ H x y v u Q I rx ry h hs
  obtain ⟨a, kvs, j, z, rfl, rfl, ⟨es, n, hl, hb⟩, e, q⟩ := h
  cases rx
  obtain ⟨t, rfl⟩ := ry
  have r := wd_find j hb
  rw [wdGet_rel, e, Option.map_some] at r
  have hm := wd_map X.prog X.w I.kIn hl hb
  obtain ⟨w', hw, rw'⟩ := RelO.some_of (v := V.int z) (o := (es.toList.find? fun e => Value.isInt j e.key).map (·.val)) r
  exact tail_any hm.typeIs slot_dict_getitem.lookup (wpAny_getItem_of (intKind_is X.prog X.w j t) hm hw ⟨.int z, H, I.tok _, rw', q⟩) hs

/-! ### len of a set of ints -/
theorem call_len_setO : CallR X (.builtin "len") (fun xs H Q => ∃ a S n, xs = [.ref a] ∧ H a = some (SetO X.w a S n) ∧ Q (.int (n : Nat)) H) := by
  intro pins s σ H xs us Q I r h
  obtain ⟨a, S, n, rfl, ha, q⟩ := h
  obtain ⟨u, rfl, ru⟩ := vals1 r
  cases ru
  obtain ⟨o, es, ep, t, ho, hex, hd, _, _, _, hb, hf, hn, _⟩ := setO_get I ha
  have hsc : scanBound ≤ 2 ^ 62 := by decide
  refine call_len_set ho hex hd hf (by omega) ⟨.int (n : Nat), H, I.tok _, ⟨_, by rw [hn]⟩, q⟩

/-! ### a class that a local name holds, called -/
variable {CX : CXT} {k i : Nat} {f C : Addr} {fd : FuncData} {ps : List Str} {sp : Sp} {dvs : List V} {ds : List Value} {E : XK} {x : Str} {p pos : Pos} {e : Expr} {es : List Expr} {t : TA}
def tMakeL (i : Nat) (C : Addr) (sp : Sp) (dvs : List V) (E : XK) (t : TA) : TE := fun σ H Q => σ[i]? = some (some (.ref C)) ∧ tMake C sp dvs E t σ H Q
theorem pe_makeL (M : Mk X.K C f) (F : FnOk X.prog X.w X.K X.mg X.base CX k f fd ps sp) (hr : Room (k + 1) X.A) (hN : X.N[i]? = some x) (hv : Vis X.env.scope x) (hb : Binds X.K fd ps ds) (hd : Vals dvs ds) (hx : Passes CX X E) (ha : PA X (e :: es) t)
    (hdb : (x == ("__debug__" : Str)) = false := by decide) (hcd : (x == ("__classdict__" : Str)) = false := by decide)
    (he : starEach (e :: es) X.env = (false, eval e X.env) :: starEach es X.env := by rfl) (hpl : (backTo pos (starEach es X.env)).any (·.1) = false := by rfl) : PE X (.Call (.Name x p) (e :: es) [] pos) (tMakeL i C sp dvs E t) := by
  refine ⟨fun pins s σ H Q I ⟨h1, h2⟩ => wpAny_Call_Name_kw (thn ((pe_var (pos := p) hN hv hdb hcd).run pins s σ H (fun v H1 => v = .ref C ∧ H1 = H) I ⟨.ref C, h1, rfl, rfl⟩) fun u s1 z => ?_)⟩
  obtain ⟨v, H1, I1, r1, ev, eH⟩ := z
  subst ev eH
  cases r1
  exact PySem.W.callWith_K (h₀ := X.base) I.ok.mod.kin M.kp (thn (ha.run pos pins s1 σ _ _ I1 h2) fun us s2 ⟨vs, H2, I2, r, q⟩ => ⟨I2.kIn, run_make M F hr hb hd hx I2 r q⟩) he hpl
end

/-! ### {e for x in ..}, e an int -/
section
variable {X : Cx}
def tScI (w : World) (wi : TI) (g : TG) (te : TE) (vs : List Nat) : TE := fun σ H Q => wi σ H fun J H1 => ∀ D, H1 D = none → ∃ W : Nat → Nat → Hp → Prop, (∃ m, W 0 m (upd H1 D (SetO w D (fun _ => false) 0))) ∧ ∀ i m H, W i m H →
  (J.stop i H ∧ Q (.ref D) H) ∨ (J.go i H ∧ ∃ Nx : Hp → Prop, (∀ H', Nx H' → ∃ m', m' < m ∧ W (i + 1) m' H') ∧ ∀ x H', J.yld i H x H' → g x (wipe σ vs) H' fun σ2 H2 => wipe σ2 vs = wipe σ vs ∧
    te σ2 H2 fun y H4 => ∃ (c : Int) (S : Int → Bool) (n : Nat), y = .int c ∧ H4 D = some (SetO w D S n) ∧ n + 1 < scanBound ∧ Nx (upd H4 D (SetO w D (fun j => S j || decide (j = c)) (if S c = true then n else n + 1))))
theorem addI_ok {pins : List (Addr × Obj)} {σ : L2.St} {H : Hp} {s : Shared} {E : Value → Shared → Prop} {D : Addr} {S : Int → Bool} {n : Nat} {c : Int} {u : Value} {Q : Value → Shared → Prop} (I : Inv X pins σ H s) (hD : H D = some (SetO X.w D S n)) (room : n + 1 < scanBound) (ru : RelV (.int c) u)
    (h : ∀ v s', Inv X pins σ (upd H D (SetO X.w D (fun j => S j || decide (j = c)) (if S c = true then n else n + 1))) s' → Q v s') : wpAny (model X.prog X.w) X.A (call (.builtin "set.add") [.ref D, u]) Q E s := by
  obtain ⟨t, rfl⟩ := ru
  refine setR_add (setO_get I hD) room fun h' sb new => h _ _ ?_
  have ⟨o, _, _, _, ho, _⟩ := new
  exact I.write (e := D) (t' := s.toks + 1) (by rw [hD]; trivial) (.inl rfl) (fun b u hb hu => (sb.2 b hb).trans hu) ⟨o, ho⟩ (setO_new new)
/-- what stands when a block's turn begins -/
structure BlkT (X : Cx) (B : Cx) (σ0 : L2.St) (fp : List Addr) (tn : Nat → Heap → Prop) (W : Nat → Nat → Hp → Prop) (n : Nat) (s : Shared) (i : Nat) (H : Hp) : Prop where
  inv : Inv B [] σ0 H s
  st : tn i s.heap
  none : ∀ b ∈ fp, H b = Option.none
  w : W i n H
theorem blk_fp {X : Cx} {s3 : Shared} {H3 : Hp} {scope : Scope} {ce : Env} {fp : List Addr} {σ' : L2.St} {H' : Hp} {s' : Shared} (I : Inv (X.blk s3 H3 scope ce fp) [] σ' H' s') (hn : ∀ b ∈ fp, H' b = Option.none) : ∀ b ∈ fp, FpOk (X.blk s3 H3 scope ce fp) [] H' b := by
  intro b hb
  refine ⟨hn b hb, (I.ok.exf b hb).1, I.ok.exfs b hb, Or.inl hb, fun x c e => (I.ok.exf b hb).2 x c e, fun p hp => ?_⟩
  have hp' : p ∈ ([] : List (Addr × Obj)) ++ [] := hp
  simp at hp'
theorem sc_core {pins : List (Addr × Obj)} {s : Shared} {σ : L2.St} {H : Hp} {Q : VK} {use : Option (Value → Sem Unit)} {Qf : Value → Shared → Prop} {elt tg iter : Expr} {scope : Scope} {own : List (PySem.Str × Nat)} {pos pos' : Pos} {wi : TI} {g : TG} {te : TE} (hc : X.calm = true) (hN : X.N.Nodup) (I : Inv X pins σ H s) (hi : PI X tg iter wi) (ok : BlkOk X.N X.env.scope scope own)
    (hg : ∀ (s : Shared) (H : Hp) (C : Addr) (cl : List (PySem.Str × Addr)) (fp : List Addr), PG (X.blk s H scope (compEnvC scope cl C X.env) fp) tg g)
    (he : ∀ (s : Shared) (H : Hp) (C : Addr) (cl : List (PySem.Str × Addr)) (fp : List Addr), PE (X.blk s H scope (compEnvC scope cl C X.env) fp) elt te) (hs : ∀ x, foldedSetIterable iter X.env x = pure x)
    (h : tScI X.w wi g te (own.map (·.2)) σ H Q)
    (fin : ∀ D C s' m H', Inv X pins σ H' s' → Q (.ref D) H' → s'.heap.Ns C m → FpOk X pins H' C → compPost (model X.prog X.w) X.A X.xe use Qf (.ref D) C (.ok .next) s') :
    wpAny (model X.prog X.w) X.A (comprehension (.SetComp elt [⟨tg, iter, [], 0⟩] scope pos) scope X.env pos' (newSet (.type "set")) false (eval iter X.env) use) Qf X.xe s := by
  have hcl : ∀ y ∈ scope.names, y.2 = .free → ∃ c, X.env.cells.lookup y.1 = some c := fun y hy e => I.ok.has _ ((ok.free y hy e).imp id id)
  refine wpAny_comprehension_free (use := use) rfl hs (closure_ok hcl) ok.kind (fun y hy e => (ok.uniq y hy).trans (congrArg some e)) (thn (hi.run pins s σ H _ I h) fun xv s1 hx => thn hx fun itv s2 h2 => ?_)
  obtain ⟨it, fp, tn, J, H2, rfl, I2, T, st2, f2, q⟩ := h2
  refine PpSet.newSet_ok (newEnv_comp ?_)
  obtain ⟨W, ⟨m0, w0⟩, turn⟩ := q s2.heap.objs.size (I2.hok.fresh (Nat.le_refl _))
  -- the heap with the new set
  have I3 := I2.laid (o := SetO X.w s2.heap.objs.size (fun _ => false) 0) (h' := s2.heap.push { cls := .type "set", dict := Option.none, data := .set #[] 0 (.fresh 0 0 (!X.w.params.followText "set-order")) }) (t' := s2.toks) (fun b o e => Heap.get?_push_of_some _ e) (Nat.le_refl _) (setO_new (setR_fresh X.w))
  have lt2 : ∀ b ∈ fp, b < s2.heap.objs.size := fun b hb => (T.obj _ _ st2 b hb).elim fun o e => Heap.lt_size e.1
  have st3 := T.keep _ _ (s2.heap.push { cls := .type "set", dict := Option.none, data := .set #[] 0 (.fresh 0 0 (!X.w.params.followText "set-order")) }) st2 fun b _ o e => Heap.get?_push_of_some _ e
  have hsz : (s2.heap.push { cls := .type "set", dict := Option.none, data := .set #[] 0 (.fresh 0 0 (!X.w.params.followText "set-order")) }).objs.size = s2.heap.objs.size + 1 := Heap.size_push _ _
  have f3 : ∀ b ∈ fp, FpOk X pins (upd H2 s2.heap.objs.size (SetO X.w s2.heap.objs.size (fun _ => false) 0)) b ∧ b < (s2.heap.push { cls := .type "set", dict := Option.none, data := .set #[] 0 (.fresh 0 0 (!X.w.params.followText "set-order")) }).objs.size := fun b hb =>
    ⟨⟨(upd_ne (Nat.ne_of_lt (lt2 b hb))).trans (f2 b hb).1, (f2 b hb).2⟩, hsz ▸ Nat.lt_succ_of_lt (lt2 b hb)⟩
  generalize upd H2 s2.heap.objs.size (SetO X.w s2.heap.objs.size (fun _ => false) 0) = H3 at w0 I3 f3
  generalize s2.heap.objs.size = D at turn w0 I3 hsz
  generalize s2.heap.push { cls := .type "set", dict := Option.none, data := .set #[] 0 (.fresh 0 0 (!X.w.params.followText "set-order")) } = h3 at I3 st3 f3 hsz ⊢
  -- the block begins
  have I4 := block_start I3 ok hN f3
  have st4 : tn 0 (pushCells (h3.push { cls := .type "dict", data := .dict #[] }) scope.names) := T.keep _ _ _ st3 fun b _ o e => pushCells_keeps _ _ _ _ (Heap.get?_push_of_some _ e)
  have pg := hg { s2 with heap := h3, toks := s2.toks } H3 h3.objs.size (cellsFrom (h3.objs.size + 1) scope.names (cloFrom X.env.cells scope.names [])) fp
  have pe := he { s2 with heap := h3, toks := s2.toks } H3 h3.objs.size (cellsFrom (h3.objs.size + 1) scope.names (cloFrom X.env.cells scope.names [])) fp
  have hC : (compEnvC scope (cellsFrom (h3.objs.size + 1) scope.names (cloFrom X.env.cells scope.names [])) h3.objs.size X.env).locals = h3.objs.size := rfl
  show codeAny _ _ (.compStart (.SetComp elt [⟨tg, iter, [], 0⟩] scope pos) 0 (.ref it) (.ref D) (compEnvC scope (cellsFrom (h3.objs.size + 1) scope.names (cloFrom X.env.cells scope.names [])) h3.objs.size X.env)) _ { s2 with heap := pushCells (h3.push { cls := .type "dict", data := .dict #[] }) scope.names }
  generalize compEnvC scope (cellsFrom (h3.objs.size + 1) scope.names (cloFrom X.env.cells scope.names [])) h3.objs.size X.env = ce at I4 pg pe hC ⊢
  refine PpSet.codeAny_compStart_set ?_ (T.self X.A 0 _ _ _ st4 ?_)
  all_goals
    refine PpSet.compLoopS_any (fun n t => ∃ i H', BlkT X (X.blk { s2 with heap := h3, toks := s2.toks } H3 scope ce fp) (wipe σ (own.map (·.2))) fp tn W n t i H') ?_ m0 ⟨0, H3, I4, st4, fun b hb => (f3 b hb).1.1, w0⟩
    rintro n t ⟨i, H5, I5, t5, n5, w5⟩
    rcases turn i n H5 w5 with ⟨stop, qq⟩ | ⟨go, Nx, hNx, step⟩
    · refine thnF (T.done (X.blk { s2 with heap := h3, toks := s2.toks } H3 scope ce fp) rfl rfl rfl hc i [] t _ H5 (fun _ _ => False) I5 (blk_fp I5 n5) t5 stop) fun r t6 z => ?_
      obtain ⟨er, I6⟩ := z
      subst er
      obtain ⟨m, hn, _⟩ := I6.loc
      have nC : H5 ce.locals = Option.none := I6.free
      rw [hC] at nC
      have hn : t6.heap.Ns ce.locals m := hn
      rw [hC] at hn
      have I7 : Inv X pins σ H5 t6 := I3.call' (ch := fp) I6.os I6.base I6.hok I6.bare fun b hb => ⟨(f3 b hb).1.2.2.2.1, (f3 b hb).1.2.1, (f3 b hb).1.2.2.2.2⟩
      exact fin D _ t6 m H5 I7 qq hn (I3.fpOk (Nat.le_refl _) nC)
    · refine thnF (T.item (X.blk { s2 with heap := h3, toks := s2.toks } H3 scope ce fp) rfl rfl rfl hc i [] t _ H5 (fun _ _ => False) I5 (blk_fp I5 n5) t5 go) fun r t6 z => ?_
      obtain ⟨u, er, h6⟩ := z
      subst er
      refine thnF h6 fun _ t7 z7 => ?_
      obtain ⟨x, H7, I7, r7, y7, st7, n7⟩ := z7
      refine thnF (pg.run _ t7 _ H7 x u _ (I7.pinned (blk_fp I7 n7) (T.obj _ _ st7)) r7 (step x H7 y7)) fun _ t8 z8 => ?_
      obtain ⟨σ8, H8, I8, hw8, q8⟩ := z8
      refine wpAny_tests_nil ?_
      show wpAny _ _ _ _ _ _
      refine thnF (pe.run _ t8 σ8 H8 _ I8 q8) fun v t9 z9 => ?_
      obtain ⟨yv, H9, I9, r9, c, S, k, ey, hD9, hk9, nx⟩ := z9
      subst ey
      refine addI_ok (X := X.blk { s2 with heap := h3, toks := s2.toks } H3 scope ce fp) I9 hD9 hk9 r9 fun _ t10 I10 => ?_
      obtain ⟨m', hm, w'⟩ := hNx _ nx
      have there : ∀ b ∈ fp, ∃ o, t7.heap.get? b = some o ∧ t10.heap.get? b = some o ∧ upd H9 D (SetO X.w D (fun j => S j || decide (j = c)) (if S c = true then k else k + 1)) b = Option.none := fun b hb => by
        obtain ⟨o, e, _⟩ := T.obj _ _ st7 b hb
        have z := I10.pin (b, o) (List.mem_append_right _ (List.mem_append_right _ (mem_pinsAt hb e)))
        exact ⟨o, e, z.1, z.2.1⟩
      have hl : (wipe σ (own.map (·.2))).length = σ8.length := by rw [← hw8, wipe_length]
      refine ⟨m', hm, i + 1, _, (I10.unpinned (pins := [])).weak hl fun j v e => ?_, T.keep _ _ _ st7 fun b hb o e => ?_, fun b hb => ?_, w'⟩
      · rw [← hw8] at e
        exact (wipe_some e).1
      · obtain ⟨o', e1, e2, _⟩ := there b hb
        rw [e] at e1
        cases e1
        exact e2
      · obtain ⟨_, _, _, e3⟩ := there b hb
        exact e3
theorem pe_scI {elt tg iter : Expr} {scope : Scope} {own : List (PySem.Str × Nat)} {pos : Pos} {wi : TI} {g : TG} {te : TE} (hc : X.calm = true) (hN : X.N.Nodup) (hi : PI X tg iter wi) (ok : BlkOk X.N X.env.scope scope own)
    (hg : ∀ (s : Shared) (H : Hp) (C : Addr) (cl : List (PySem.Str × Addr)) (fp : List Addr), PG (X.blk s H scope (compEnvC scope cl C X.env) fp) tg g)
    (he : ∀ (s : Shared) (H : Hp) (C : Addr) (cl : List (PySem.Str × Addr)) (fp : List Addr), PE (X.blk s H scope (compEnvC scope cl C X.env) fp) elt te) (hs : ∀ x, foldedSetIterable iter X.env x = pure x := by intro _; rfl) :
    PE X (.SetComp elt [⟨tg, iter, [], 0⟩] scope pos) (tScI X.w wi g te (own.map (·.2))) := by
  refine ⟨fun pins s σ H Q I h => ?_⟩
  rw [PpSet.eval_SetComp]
  refine sc_core hc hN I hi ok hg he hs h fun D C s' m H' I' q hn f => ⟨m, hn, fun h'' sb => ?_⟩
  obtain ⟨p0, p1, p2, p3, p4, p5⟩ := f
  exact ⟨.ref D, H', I'.turned (t' := s'.toks) (fun b o hb e => (sb.2 b hb).trans e) p0 p1 p3 p4 p5, rfl, q⟩
/-- name = {..} on one line -/
theorem ps_setScI {i : Nat} {y : PySem.Str} {py : Pos} {elt tg iter : Expr} {scope : Scope} {own : List (PySem.Str × Nat)} {pos spos : Pos} {wi : TI} {g : TG} {te : TE} (hc : X.calm = true) (hN : X.N.Nodup) (hy : X.N[i]? = some y) (hyl : X.env.scope.names.lookup y = some .local)
    (hsw : swapsWith (.SetComp elt [⟨tg, iter, [], 0⟩] scope pos) (some (.Name y py)) spos.line X.env = pure true) (hi : PI X tg iter wi) (ok : BlkOk X.N X.env.scope scope own)
    (hg : ∀ (s : Shared) (H : Hp) (C : Addr) (cl : List (PySem.Str × Addr)) (fp : List Addr), PG (X.blk s H scope (compEnvC scope cl C X.env) fp) tg g)
    (he : ∀ (s : Shared) (H : Hp) (C : Addr) (cl : List (PySem.Str × Addr)) (fp : List Addr), PE (X.blk s H scope (compEnvC scope cl C X.env) fp) elt te) (hs : ∀ x, foldedSetIterable iter X.env x = pure x := by intro _; rfl) :
    PS X (.Assign [.Name y py] (.SetComp elt [⟨tg, iter, [], 0⟩] scope pos) spos) (tAsg (tScI X.w wi g te (own.map (·.2))) (gName i)) := by
  refine ⟨fun pins s σ H D I h => ?_⟩
  rw [exec_Assign_Name_used _ _ _ _ hsw]
  refine wpAny_bind (wpAny_standAt (wpAny_bind ?_))
  have h : tScI X.w wi g te (own.map (·.2)) σ H (fun x H1 => gName i x σ H1 D.nx) := h
  refine wpAny_bind (thn (sc_core (Qf := fun _ s' => SP X pins D .next s') hc hN I hi ok hg he hs h fun L C s' m H' I' q hn f => ?_) fun _ s' hq => wpAny_pure (wpAny_pure hq))
  refine wpAny_assign_Name (store_ok2 (v := V.ref L) I' hN hy (.inl hyl) rfl (fun s2 I2 ⟨a, sb, ha⟩ => ?_) (.inr hyl))
  obtain ⟨p0, p1, p2, p3, p4, p5⟩ := f
  have far : C ≠ a := by
    rcases ha with z | z
    · rw [z]
      exact p1
    · exact fun e => p4 y a z e.symm
  exact ⟨m, hn.sameBut sb far, fun h3 sb3 => ⟨_, H', I2.turned (t' := s2.toks) (fun b o hb e => (sb3.2 b hb).trans e) p0 p1 p3 p4 p5, q⟩⟩
theorem sw_set {elt : Expr} {gs : List Comprehension} {scope : Scope} {pos py : Pos} {y : PySem.Str} {l : Nat} {env : Env} (hk : env.scope.kind = .function) (hy : env.scope.names.lookup y = some .local) (hl : (py.line == pos.line) = true)
    (ha : (scope.names.any fun (n, k) => n == y && (k == .local || k == .cell)) = false) : swapsWith (.SetComp elt gs scope pos) (some (.Name y py)) l env = pure true := by
  have z1 : env.kindOf y = some .local := hy
  have z2 : env.blockKind = .function := by
    unfold Env.blockKind
    rw [hk]
    rfl
  unfold swapsWith
  simp only [z2, z1, ha, Expr.pos, hl]
  rfl
end
end LX


set_option Elab.async false
set_option linter.all false
set_option maxRecDepth 100000
set_option maxHeartbeats 4000000
namespace LX
open PySem PySem.Spec PyProof.Rows L2 TL
/-! ### for x, c in zip(a list, a text) -/
/-- the list at a as it stands at each turn, the text z; each pair a new tuple -/
def ItLT (K : PySem.W.Frag) (a : Addr) (z : Str) : It :=
  ⟨fun i H => ∃ xs x, SqL K H a xs ∧ xs[i]? = some x ∧ i < z.cps.size,
    fun i H v H' => ∃ T x c, v = .ref T ∧ H T = none ∧ H' = upd H T (.tup [x, .str ⟨#[c]⟩]) ∧ (∀ xs, SqL K H a xs → xs[i]? = some x) ∧ z.cps[i]? = some c,
    fun i H => ∃ xs, SqL K H a xs ∧ xs.length = z.cps.size ∧ i = xs.length⟩
def tnLT (a : Addr) (z : Str) (t : Tok) (N : Addr) (i : Nat) (h : Heap) : Prop :=
  IsZip h (N + 4) (N + 2) (N + 3) .none ∧ IsTupOf2 h (N + 2) (.ref N) (.ref (N + 1)) ∧ (∃ x y, IsTupOf2 h (N + 3) x y) ∧ h.IsListIter N a i ∧ h.IsStrIter (N + 1) (strIterType z) z t i
abbrev fpLT (N : Addr) : List Addr := [N + 4, N + 2, N + 3, N, N + 1]
theorem fp_cases {N c : Addr} (h : c ∈ fpLT N) : c = N + 4 ∨ c = N + 2 ∨ c = N + 3 ∨ c = N ∨ c = N + 1 := by
  simpa using h
theorem sub_LT {N c : Addr} (h : c ∈ ([N + 4, N + 3, N, N + 1] : List Addr)) : c ∈ fpLT N := by
  have h' : c = N + 4 ∨ c = N + 3 ∨ c = N ∨ c = N + 1 := by simpa using h
  rcases h' with q | q | q | q <;> subst q <;> simp
theorem turn_LT {P : Program} {w : World} {K : PySem.W.Frag} {elts : List Expr} {kk : Nat} {tpos : Pos} {a N : Addr} {z : Str} {t : Tok} (hlt : a < N) : Turn P w K (.Tuple elts kk tpos) (ItLT K a z) (fpLT N) (N + 4) (tnLT a z t N) where
  mem := List.mem_cons_self
  obj := fun i h st c hc => by
    obtain ⟨hz, hTI, ⟨x, y, hTO⟩, ⟨o1, e1, _, d1⟩, ⟨o2, e2, _, d2⟩⟩ := st
    rcases fp_cases hc with q | q | q | q | q <;> subst q
    · exact ⟨_, hz, fun v q => nomatch q⟩
    · exact ⟨_, hTI, fun v q => nomatch q⟩
    · exact ⟨_, hTO, fun v q => nomatch q⟩
    · exact ⟨o1, e1, fun v q => nomatch (d1.symm.trans q)⟩
    · exact ⟨o2, e2, fun v q => nomatch (d2.symm.trans q)⟩
  keep := fun i h h' st k => by
    obtain ⟨hz, hTI, ⟨x, y, hTO⟩, h1, ⟨o2, e2, r2⟩⟩ := st
    exact ⟨k _ (by simp) _ hz, k _ (by simp) _ hTI, ⟨x, y, k _ (by simp) _ hTO⟩, h1.at fun o q => k _ (by simp) o q, ⟨o2, k _ (by simp) _ e2, r2⟩⟩
  item := by
    intro X hP hw hK hc i pins s σ H E I hf st hg
    subst hP hw hK
    obtain ⟨hz, hTI, hTO, h1, h2⟩ := st
    obtain ⟨xs, x, hq, hx, hi⟩ := hg
    obtain ⟨its, rv, p, _⟩ := I.list hq
    obtain ⟨u, hu, ru⟩ := rv.get hx
    have hul : i < its.toArray.size := by
      have := (List.getElem?_eq_some_iff.mp hu).1
      simpa using this
    have S := zip_sep2 (N := N) (fp1 := [a]) (fp2 := []) (by simpa using hlt) (by simp)
    have W := WalksT.zipD2 S (Draws.list (prog := X.prog) (w := X.w) (A := X.A.in1) (I.ok.hd hc) N a (Nat.ne_of_lt hlt) its.toArray) (Draws.text (prog := X.prog) (w := X.w) (A := X.A.in1) (I.ok.hd hc) (N + 1) z t)
    refine W.item i s _ E (by omega) ⟨hz, hTI, hTO, ⟨h1, p.isList⟩, h2⟩ fun T vals h' tk hP hT hTup hM hk => ?_
    obtain ⟨x1, x2, hx1, ⟨c, tc, hx2, ex2⟩, ev⟩ := hP
    refine ⟨_, rfl, W.go elts kk tpos i T { s with heap := h', toks := tk } _ E hM fun h'' hS hk' => ?_⟩
    have eu : x1 = u := by
      have e : some u = some x1 := by rw [← hx1]; simpa using hu.symm
      exact (Option.some.inj e).symm
    subst eu ex2 ev
    have hnw : T ∉ ([N + 4, N + 3, N, N + 1] : List Addr) := W.apart i T h' hM
    have hT2 : h''.IsTuple T #[x1, .str ⟨#[c]⟩ tc] := by
      obtain ⟨o, e1, e2⟩ := hTup
      exact ⟨o, hk' T o hnw e1, e2⟩
    have new : ObjOk X.prog X.w (upd H T (.tup [x, .str ⟨#[c]⟩])) h'' T (.tup [x, .str ⟨#[c]⟩]) := ⟨by show 2 ≤ sizeLine; decide, [x1, .str ⟨#[c]⟩ tc], .cons ru (.cons ⟨tc, rfl⟩ .nil), hT2⟩
    have sub4 : ∀ {c : Addr}, c ∉ fpLT N → c ∉ ([N + 4, N + 3, N, N + 1] : List Addr) := fun {c} hn hm => hn (sub_LT hm)
    have I1 : Inv X pins σ (upd H T (.tup [x, .str ⟨#[c]⟩])) { s with heap := h'', toks := tk } :=
      I.turnedNew (t' := tk) (ch := fpLT N) (fun b o hb q => hk' b o (sub4 hb) (hk b o (sub4 hb) q)) hf hT new
    refine ⟨.ref T, _, I1, rfl, ⟨T, x, c, rfl, I.hok.fresh hT, rfl, fun l hl => ?_, hx2⟩, ⟨hS.1, hS.2.1, hS.2.2.1, hS.2.2.2.1.1, hS.2.2.2.2⟩, fun b hb => ?_⟩
    · rw [I.list_inj hl hq]
      exact hx
    · have hlt2 : b < s.heap.objs.size := by
        obtain ⟨o1, e1, _⟩ := h1
        obtain ⟨o2, e2, _⟩ := h2
        obtain ⟨_, _, e3⟩ := hTO
        rcases fp_cases hb with q | q | q | q | q <;> subst q
        · exact Heap.lt_size hz
        · exact Heap.lt_size hTI
        · exact Heap.lt_size e3
        · exact Heap.lt_size e1
        · exact Heap.lt_size e2
      rw [upd_ne (Nat.ne_of_lt (Nat.lt_of_lt_of_le hlt2 hT))]
      exact (hf b hb).1
  done := by
    intro X hP hw hK hc i pins s σ H E I hf st hg
    subst hP hw hK
    obtain ⟨hz, hTI, hTO, h1, h2⟩ := st
    obtain ⟨xs, hq, hl, hi⟩ := hg
    obtain ⟨its, rv, p, _⟩ := I.list hq
    have hsz : its.toArray.size = i := by
      rw [List.size_toArray, ← rv.length, hi]
    have S := zip_sep2 (N := N) (fp1 := [a]) (fp2 := []) (by simpa using hlt) (by simp)
    have W := WalksT.zipD2 S (Draws.list (prog := X.prog) (w := X.w) (A := X.A.in1) (I.ok.hd hc) N a (Nat.ne_of_lt hlt) its.toArray) (Draws.text (prog := X.prog) (w := X.w) (A := X.A.in1) (I.ok.hd hc) (N + 1) z t)
    have hmin : min its.toArray.size z.cps.size = i := by omega
    rw [hmin] at W
    refine W.done s _ E ⟨hz, hTI, hTO, ⟨h1, p.isList⟩, h2⟩ fun h' tk hk => ⟨rfl, I.turnedL (t' := tk) (ch := fpLT N) (fun c o hb q => hk c o (fun hm => hb (sub_LT hm)) q) hf⟩
  self := fun A i s Q E st h => wpAny_pyIter_zip st.1 h
def iZipLT (K : PySem.W.Frag) (ta : TA) : TI := fun σ H R => ta σ H fun vs H1 => ∃ a xs z, vs = [.ref a, .str z] ∧ SqL K H1 a xs ∧ R (ItLT K a z) H1
theorem pi_zipLT {X : Cx} {e e2 : Expr} {ta : TA} {p pos tpos : Pos} {elts : List Expr} {kk : Nat} (hg : Gl X "zip") (hm : X.mg "zip" = none) (ha : PA X [e, e2] ta)
    (hs : starEach [e, e2] X.env = (false, eval e X.env) :: starEach [e2] X.env := by rfl) (hpl : (backTo pos (starEach [e2] X.env)).any (·.1) = false := by rfl) :
    PI X (.Tuple elts kk tpos) (.Call (.Name "zip" p) [e, e2] [] pos) (iZipLT X.K ta) := by
  refine ⟨fun pins s σ H R I h => Call_ (ld_blt I hg hm PyProof.Rows.boot_zip (PyProof.Rows.callWith_type1 (thn (ha.run pos pins s σ H _ I h) fun us s1 z => ?_) hs hpl))⟩
  obtain ⟨vs, H1, I1, r1, a, xs, z, rfl, hq, q⟩ := z
  cases r1 with
  | cons ra rr =>
    cases rr with
    | cons rz rr =>
      cases rr
      cases ra
      obtain ⟨t, rfl⟩ := rz
      obtain ⟨its, rv, pl, _⟩ := I1.list hq
      refine zip_begins2 (begins_list a its.toArray) (begins_text z t) pl.isList trivial fun h' hz hTI hTO h1 h2 hsz hk => wpAny_pyIter_zip hz ?_
      refine ⟨s1.heap.objs.size + 4, fpLT s1.heap.objs.size, tnLT a z t s1.heap.objs.size, ItLT X.K a z, H1, rfl, I1.kept (t' := s1.toks) hk, turn_LT pl.lt, ⟨hz, hTI, ⟨_, _, hTO⟩, ⟨_, h1, rfl, rfl⟩, ⟨_, h2, rfl, rfl⟩⟩, fun c hcm => ?_, q⟩
      have hle : s1.heap.objs.size ≤ c := by
        rcases fp_cases hcm with q | q | q | q | q <;> subst q
        · exact Nat.le_add_right _ _
        · exact Nat.le_add_right _ _
        · exact Nat.le_add_right _ _
        · exact Nat.le_refl _
        · exact Nat.le_add_right _ _
      exact I1.fpOk hle (I1.hok.fresh hle)
end LX


set_option Elab.async false
set_option linter.all false
set_option maxRecDepth 100000
set_option maxHeartbeats 4000000
/-! The program's text by places, what of it is known, promises. -/
namespace LX
open PySem PySem.Spec PyProof.Rows L2 TL Evl SX

abbrev L2St := L2.St
def topS (i : Nat) : Stmt := PySem.Challenge.pw_leastlooks_k74_whole_full_primes.main.body.getD i (.Pass ⟨0, 0, 0, 0⟩)
/-- where things stand -/
structure Ad where
  sizes : Addr
  primes : Addr
  cQ : Addr
  pMany : Addr
  gMany : Addr
  pAt : Addr
  gAt : Addr
  gInit : Addr
  gEq : Addr
  gCall : Addr
  gReo : Addr
structure Txt (K : PySem.W.Frag) (mg : Str → Option Value) (a : Ad) : Prop where
  len_ : mg "len" = none
  list_ : mg "list" = none
  range_ : mg "range" = none
  int_ : mg "int" = none
  abs_ : mg "abs" = none
  tuple_ : mg "tuple" = none
  sorted_ : mg "sorted" = none
  dict_ : mg "dict" = none
  str_ : mg "str" = none
  repr_ : mg "repr" = none
  sum_ : mg "sum" = none
  max_ : mg "max" = none
  min_ : mg "min" = none
  isinstance_ : mg "isinstance" = none
  all_ : mg "all" = none
  zip_ : mg "zip" = none
  enumerate_ : mg "enumerate" = none
  bool_ : mg "bool" = none
  g_MOST : ∃ u, mg "MOST" = some u ∧ RelV (.int 6) u
  g_BITS : ∃ u, mg "BITS" = some u ∧ RelV (.str (S [48, 49])) u
  g_SIZES : ∃ u, mg "SIZES" = some u ∧ RelV (.ref a.sizes) u
  g_PRIMES : ∃ u, mg "PRIMES" = some u ∧ RelV (.ref a.primes) u
  g_Question : ∃ u, mg "Question" = some u ∧ RelV (.ref a.cQ) u
  sz : ∀ H, SqT K H a.sizes (([1, 2, 4, 8, 16, 32, 64] : List Int).map V.int)
  szo : ∃ o, K.lookup a.sizes = some o ∧ o.cls = .type "tuple" ∧ o.dict = Option.none
  pr : WDict K a.primes [(2, 2), (3, 3), (4, 2), (5, 5)]
  prs : (a.primes == sysModules) = false
  clsQ : Cls K a.cQ
  propMany : PropOf K a.cQ "many" a.pMany a.gMany
  nfQ : PySem.W.notFirst K a.cQ (.ref a.cQ) = true
  eqQ : PySem.W.findIn K (.ref a.cQ) "__eq__" = some (some (.ref a.gEq))
  eqF : PySem.W.isFn K (.ref a.gEq) = true
  callQ : StX.CallO K a.cQ a.gCall
  crQ : ClX.CRead K a.cQ (.type "type")
  cmAtLeast : ClX.CMet K a.cQ (.type "type") "at_least" a.pAt a.gAt
  mkQ : Mk K a.cQ a.gInit
  isQ : C8.InsC K a.cQ
  reoQ : Meth K a.cQ "reordered" a.gReo
  naT : NoAttr K a.cQ "kept_table"
  naM : NoAttr K a.cQ "kept_many"
  naA : NoAttr K a.cQ "answer_of"
  naY : NoAttr K a.cQ "yes"
/-- a def of the module, by its name -/
def DF (K : PySem.W.Frag) (mg : Str → Option Value) (x : Str) (st : Stmt) : Prop := ∃ f fd, Fun K x x st f fd ∧ mg x = some (.ref f)
section
variable {P : Program} {w : World} {K : PySem.W.Frag} {mg : Str → Option Value} {base : Heap}
theorem mkCal {x : Str} {st : Stmt} {N ps : List Str} {k : Nat} {sp : Sp} (D : DF K mg x st) (S : FnScope N ps (defScope st))
    (hb : ∀ (kV doc pm : Value) (an : Option Addr) (cdv ct : Value) (us : List Value), us.length = ps.length → bindArgs (PySem.W.fnOf x x (defArgs st) (defBody st) (defScope st) .none kV doc pm an cdv ct) ⟨us, []⟩ = pure (ps.zip us))
    (len : ∀ vs H Q E, sp vs H Q E → vs.length = ps.length)
    (hbody : ∀ (f : Addr) (cdv : Value) (A : Around) (outer : List Env) (s : Shared) (H : Hp) (vs : List V) (Q : VK) (E : XK), Room k (A.deeper (envOfC x (defScope st) s.heap.objs.size f cdv)) → sp vs H Q E →
      ∃ t, PSs (cxOf CX0 P w K mg base N x (defScope st) f cdv A outer s H E).nox (defBody st) t ∧ t { nx := fun _ H' => Q .non H', rt := Q } (start N vs) H) : C8.Cal P w K mg base (k + 1) x sp [] := by
  obtain ⟨f, fd, F, hm⟩ := D
  exact ⟨f, fd, ps, [], F.ok S len (fun cdv A outer s H vs Q E hr h => hbody f cdv A outer s H vs Q E hr h), hm, F.kp, F.binds hb, .nil⟩
end
/-! ### rules with the written part said -/
section
variable {X : Cx} {K : PySem.W.Frag}
theorem ix_listK (h : X.K = K := by rfl) : IxR X (rIxL K) := h ▸ ix_list
theorem call_len_seqK (h : X.K = K := by rfl) : CallR X (.builtin "len") (fun xs H Q => ∃ p ys, xs = [.ref p] ∧ (SqL K H p ys ∨ SqT K H p ys) ∧ Q (.int ys.length) H) := h ▸ call_len_seq
theorem op_in_seqK (h : X.K = K := by rfl) : OpR X (compareOp .In) (rIn K false) := h ▸ op_in_seq
theorem op_notIn_seqK (h : X.K = K := by rfl) : OpR X (compareOp .NotIn) (rIn K true) := h ▸ op_notIn_seq
theorem pe_fldK {e : Expr} {f : Str} {pos : Pos} {ta : TE} (he : PE X e ta) (hb : attributeBase e f X.env (eval e X.env) = eval e X.env) (h : X.K = K := by rfl) : PE X (.Attribute e f pos) (tFld K ta f) := h ▸ pe_fld he hb
theorem pi_listK {tg e : Expr} {te : TE} (he : PE X e te) (h : X.K = K := by rfl) : PI X tg e (iList K te) := h ▸ pi_list he
theorem pa_starK {e : Expr} {p : Pos} {es : List Expr} {te : TE} {t : TA} (he : PE X e te) (ha : PA X es t) (h : X.K = K := by rfl) : PA X (.Starred e p :: es) (StX.tStar K te t) := h ▸ StX.pa_star he ha
end
/-! ### small things -/
theorem szl : (sizeLine : Nat) = 16777216 := sizeLine_eq
theorem szle {n : Nat} (h : n ≤ 100000) : n ≤ sizeLine := Nat.le_trans h (by decide)
theorem fresh_ne {H : Hp} {a p : Addr} {o : HO} (h : H a = some o) (hp : H p = none) : a ≠ p := ne_of_none h hp
theorem sl_of {K : PySem.W.Frag} {H : Hp} {a : Addr} {xs : List V} (h : H a = some (.lst xs)) : SqL K H a xs := sq_of h
end LX


set_option Elab.async false
set_option linter.all false
set_option maxRecDepth 100000
set_option maxHeartbeats 4000000
/-! What a walk gives, comprehensions over it; small evaluations. -/
namespace LX
open PySem PySem.Spec PyProof.Rows L2 TL Evl SX C8
section
variable {K : PySem.W.Frag} {σ : L2St} {H : Hp} {ta tb tc te : TE}
/-- the walked thing gives xs, the heap as it was -/
def EvS (wi : TI) (σ : L2St) (H : Hp) (xs : List V) : Prop := ∀ H1, Ex H H1 → ∀ R : It → Hp → Prop,
  (∀ (J : It) (G : Hp → Prop) (H2 : Hp), Ex H1 H2 → G H2 → (∀ Ha Hb, Ex Ha Hb → G Ha → G Hb) → Walk J xs.length G (YAt xs) → R J H2) → wi σ H1 R
theorem es_list {a : Addr} {xs : List V} {tl : TE} (h : Ev tl σ H (.ref a)) (hx : SqL K H a xs) : EvS (iList K tl) σ H xs := fun H1 e R k =>
  h H1 e _ fun H2 e2 => ⟨a, rfl, ⟨xs, ex_l (e.trans e2) hx⟩, k _ (fun H => SqL K H a xs) H2 e2 (ex_l (e.trans e2) hx) (fun _ _ e h => ex_l e h) walk_list⟩
theorem es_new {xs : List V} {tl : TE} (h : EvL tl σ H xs) : EvS (iList K tl) σ H xs := fun H1 e R k =>
  h H1 e _ fun p H2 _ e2 hp => ⟨p, rfl, ⟨xs, sq_of hp⟩, k _ (fun H => SqL K H p xs) H2 e2 (sq_of hp) (fun _ _ e h => ex_l e h) walk_list⟩
theorem es_str {z : List Nat} {tl : TE} (h : Ev tl σ H (.str (S z))) : EvS (iStr tl) σ H (z.map fun c => .str (S [c])) := fun H1 e R k =>
  h H1 e _ fun H2 e2 => ⟨S z, rfl, k _ (fun _ => True) H2 e2 trivial (fun _ _ _ h => h) (by
    have hl : (z.map fun c => V.str (S [c])).length = (S z).cps.size := by simp
    rw [hl]
    refine walk_str.mono (fun _ h => h) fun i H x H' hi _ y => ?_
    obtain ⟨e, c, hc, ev⟩ := y
    refine ⟨e, ?_⟩
    rw [List.getElem?_map]
    have : z[i]? = some c := by simpa using hc
    rw [this, ev]
    rfl)⟩
def upto (n : Nat) : List V := (List.range n).map fun i => V.int (i : Nat)
theorem es_range {ta : TA} {n : Nat} (h : EvA ta σ H [.int n]) (hn : n ≤ 100000) : EvS (iRng1 ta) σ H (upto n) := fun H1 e R k =>
  h H1 e _ fun H2 e2 => ⟨n, rfl, by omega, by omega, k _ (fun _ => True) H2 e2 trivial (fun _ _ _ h => h) (by
    have hl : (upto n).length = ((n : Int)).toNat := by simp [upto]
    rw [hl]
    refine (walk_range (lo := 0)).mono (fun _ h => h) fun i H x H' hi _ y => ?_
    obtain ⟨e, ev⟩ := y
    refine ⟨e, ?_⟩
    unfold upto
    rw [List.getElem?_map, List.getElem?_range (by omega), ev]
    show some (V.int (i : Nat)) = some (V.int ((0 : Int) + (i : Nat)))
    rw [Int.zero_add])⟩
/-- a value told by a word that stays -/
def EvR (te : TE) (σ : L2St) (H : Hp) (E : V → Hp → Prop) : Prop := ∀ H1, Ex H H1 → ∀ Q : VK, (∀ v H2, Ex H1 H2 → E v H2 → Q v H2) → te σ H1 Q
def EvLR (te : TE) (σ : L2St) (H : Hp) (E : List V → Hp → Prop) : Prop := ∀ H1, Ex H H1 → ∀ Q : VK, (∀ p vs H2, H1 p = none → Ex H1 H2 → H2 p = some (.lst vs) → E vs H2 → Q (.ref p) H2) → te σ H1 Q
theorem Ev.r {v : V} (h : Ev te σ H v) : EvR te σ H (fun u _ => u = v) := fun H1 e Q q => h H1 e Q fun H2 e2 => q v H2 e2 rfl
/-- each of l has its value among vs -/
def Each {α : Type} (E : α → V → Hp → Prop) (H : Hp) : List α → List V → Prop
  | [], [] => True
  | a :: l, v :: vs => E a v H ∧ Each E H l vs
  | _, _ => False
theorem Each.ex {α : Type} {E : α → V → Hp → Prop} (hE : ∀ a v Ha Hb, Ex Ha Hb → E a v Ha → E a v Hb) {Ha Hb : Hp} (e : Ex Ha Hb) : ∀ {l : List α} {vs : List V}, Each E Ha l vs → Each E Hb l vs
  | [], [], _ => trivial
  | a :: l, v :: vs, h => ⟨hE a v _ _ e h.1, Each.ex hE e h.2⟩
  | [], _ :: _, h => h.elim
  | _ :: _, [], h => h.elim
theorem Each.snoc {α : Type} {E : α → V → Hp → Prop} {a : α} {v : V} (h : E a v H) : ∀ {l : List α} {vs : List V}, Each E H l vs → Each E H (l ++ [a]) (vs ++ [v])
  | [], [], _ => ⟨h, trivial⟩
  | _ :: l, _ :: vs, k => ⟨k.1, Each.snoc h k.2⟩
  | [], _ :: _, k => k.elim
  | _ :: _, [], k => k.elim
theorem Each.len {α : Type} {E : α → V → Hp → Prop} : ∀ {l : List α} {vs : List V}, Each E H l vs → l.length = vs.length
  | [], [], _ => rfl
  | _ :: l, _ :: vs, k => congrArg (· + 1) (Each.len k.2)
  | [], _ :: _, k => k.elim
  | _ :: _, [], k => k.elim
theorem Each.eq {α : Type} {φ : α → V} : ∀ {l : List α} {vs : List V}, Each (fun a v _ => v = φ a) H l vs → vs = l.map φ
  | [], [], _ => rfl
  | a :: l, v :: vs, k => by rw [List.map_cons, ← k.1, ← Each.eq k.2]
  | [], _ :: _, k => k.elim
  | _ :: _, [], k => k.elim
theorem Each.get {α : Type} {E : α → V → Hp → Prop} : ∀ {l : List α} {vs : List V} {i : Nat} {v : V}, Each E H l vs → vs[i]? = some v → ∃ a, l[i]? = some a ∧ E a v H
  | [], [], _, _, _, h => by simp at h
  | a :: l, v :: vs, 0, _, k, h => by
    have e : v = _ := Option.some.inj h
    exact ⟨a, rfl, e ▸ k.1⟩
  | _ :: l, _ :: vs, i + 1, v, k, h => by
    obtain ⟨a, h1, h2⟩ := Each.get (i := i) (v := v) k.2 (by simpa using h)
    exact ⟨a, by simpa using h1, h2⟩
  | [], _ :: _, _, _, k, _ => k.elim
  | _ :: _, [], _, _, k, _ => k.elim
theorem take_next {α : Type} {l : List α} {i : Nat} (h : i < l.length) : l.take (i + 1) = l.take i ++ [l[i]] := by
  rw [List.take_succ, List.getElem?_eq_getElem h]
  rfl
theorem take_filter {α : Type} {l : List α} {i : Nat} {p : α → Bool} (h : i < l.length) : (l.take (i + 1)).filter p = (l.take i).filter p ++ (if p l[i] = true then [l[i]] else []) := by
  rw [take_next h, List.filter_append]
  cases hp : p l[i] <;> simp [hp]
theorem filter_le {α : Type} (l : List α) (p : α → Bool) (i : Nat) : ((l.take i).filter p).length ≤ l.length := by
  have h := List.length_filter_le p (l.take i)
  rw [List.length_take] at h
  omega
/-- a comprehension of one clause, its element a value that is known -/
theorem el_cmp {α : Type} {l : List α} {en : α → V} {wi : TI} {t : TT} {j : Nat} {vs : List Nat} {p : α → Bool} {φ : α → V} (h : EvS wi σ H (l.map en)) (hz : l.length ≤ 40000)
    (hw : ∀ x, wipe ((wipe σ vs).set j (some x)) vs = wipe σ vs)
    (ht : ∀ a ∈ l, ∀ H1, Ex H H1 → EvT t ((wipe σ vs).set j (some (en a))) H1 (p a)) (he : ∀ a ∈ l, ∀ H1, Ex H H1 → p a = true → Ev te ((wipe σ vs).set j (some (en a))) H1 (φ a)) :
    EvL (tLc wi (gName j) t te vs) σ H ((l.filter p).map φ) := fun H0 e Q q => h H0 e _ fun J G H1 e1 g mono W Dl hD => by
  refine lc_it W (fun i H' => Ex H1 H' ∧ H' Dl = some (.lst (((l.take i).filter p).map φ))) ⟨Ex.new hD, upd_same⟩ (fun _ _ _ z => mono _ _ z.1 g) (fun i x Ha Hb hi z y => ?_) (fun H' z => ?_)
  · obtain ⟨z1, z3⟩ := z
    obtain ⟨rfl, hx⟩ := y
    rw [List.length_map] at hi
    have hx' : x = en l[i] := by
      rw [List.getElem?_map, List.getElem?_eq_getElem hi] at hx
      exact (Option.some.inj hx).symm
    subst hx'
    have hm : l[i] ∈ l := List.getElem_mem hi
    refine ⟨hw _, ht _ hm Hb ((e.trans e1).trans z1) Hb (Ex.refl _) _ fun H3 e3 => ?_⟩
    have tk := take_filter (p := p) hi
    cases hp : p l[i] with
    | true =>
      rw [hp, if_pos rfl] at tk
      show te _ H3 fun y H4 => ∃ acc, H4 Dl = some (.lst acc) ∧ acc.length < sizeLine ∧ (Ex H1 (upd H4 Dl (.lst (acc ++ [y]))) ∧ upd H4 Dl (.lst (acc ++ [y])) Dl = some (.lst (((l.take (i + 1)).filter p).map φ)))
      refine he _ hm H3 (((e.trans e1).trans z1).trans e3) hp H3 (Ex.refl _) _ fun H4 e4 => ⟨_, e4 _ _ (e3 _ _ z3), ?_, Ex.mut ((z1.trans e3).trans e4) hD, ?_⟩
      · have := filter_le l p i
        have := szl
        rw [List.length_map]
        omega
      · rw [upd_same, tk, List.map_append]
        rfl
    | false =>
      rw [hp, if_neg Bool.false_ne_true, List.append_nil] at tk
      show Ex H1 H3 ∧ H3 Dl = some (.lst (((l.take (i + 1)).filter p).map φ))
      exact ⟨z1.trans e3, by rw [tk]; exact e3 _ _ z3⟩
  · obtain ⟨z1, z3⟩ := z
    rw [List.length_map, List.take_length] at z3
    exact q Dl H' (fresh_back e1 hD) (e1.trans z1) z3
/-- without tests -/
theorem el_map {α : Type} {l : List α} {en : α → V} {wi : TI} {j : Nat} {vs : List Nat} {φ : α → V} (h : EvS wi σ H (l.map en)) (hz : l.length ≤ 40000)
    (hw : ∀ x, wipe ((wipe σ vs).set j (some x)) vs = wipe σ vs) (he : ∀ a ∈ l, ∀ H1, Ex H H1 → Ev te ((wipe σ vs).set j (some (en a))) H1 (φ a)) :
    EvL (tLc wi (gName j) tYes te vs) σ H (l.map φ) := by
  have k := el_cmp (p := fun _ => true) (t := tYes) h hz hw (fun _ _ _ _ => fun H1 _ Q q => q H1 (Ex.refl _)) (fun a ha H1 e _ => he a ha H1 e)
  have e : l.filter (fun _ => true) = l := List.filter_eq_self.mpr fun _ _ => rfl
  rw [e] at k
  exact k
/-- a new object -/
def EvO' (te : TE) (σ : L2St) (H : Hp) (o : HO) : Prop := ∀ H1, Ex H H1 → ∀ Q : VK, (∀ p H2, H1 p = none → Ex H1 H2 → H2 p = some o → Q (.ref p) H2) → te σ H1 Q
def At (ob : HO) (v : V) (H : Hp) : Prop := ∃ t, v = .ref t ∧ H t = some ob
theorem At.ex {ob : HO} {v : V} {Ha Hb : Hp} (e : Ex Ha Hb) (h : At ob v Ha) : At ob v Hb := h.elim fun t z => ⟨t, z.1, e _ _ z.2⟩
theorem At.mut {ob o : HO} {v : V} {D : Addr} (hn : v ≠ .ref D) (h : At ob v H) : At ob v (upd H D o) := h.elim fun t z => ⟨t, z.1, by rw [upd_ne (fun q => hn (by rw [z.1, q])), z.2]⟩
theorem Each.mut {α : Type} {ob : α → HO} {o : HO} {D : Addr} : ∀ {l : List α} {vs : List V}, (∀ v ∈ vs, v ≠ .ref D) → Each (fun a v H => At (ob a) v H) H l vs → Each (fun a v H => At (ob a) v H) (upd H D o) l vs
  | [], [], _, _ => trivial
  | a :: l, v :: vs, n, h => ⟨h.1.mut (n v List.mem_cons_self), Each.mut (fun u hu => n u (List.mem_cons_of_mem _ hu)) h.2⟩
  | [], _ :: _, _, h => h.elim
  | _ :: _, [], _, h => h.elim
/-- a comprehension of one clause without a test, its element a new object -/
theorem el_mapO {α : Type} {l : List α} {en : α → V} {wi : TI} {j : Nat} {vs : List Nat} {ob : α → HO} (h : EvS wi σ H (l.map en)) (hz : l.length ≤ 40000)
    (hw : ∀ x, wipe ((wipe σ vs).set j (some x)) vs = wipe σ vs) (he : ∀ a ∈ l, ∀ H1, Ex H H1 → EvO' te ((wipe σ vs).set j (some (en a))) H1 (ob a)) :
    EvLR (tLc wi (gName j) tYes te vs) σ H (fun us H2 => Each (fun a v H => At (ob a) v H) H2 l us) := fun H0 e Q q => h H0 e _ fun J G H1 e1 g mono W Dl hD => by
  refine lc_it W (fun i H' => Ex H1 H' ∧ ∃ acc, H' Dl = some (.lst acc) ∧ (∀ v ∈ acc, v ≠ .ref Dl) ∧ Each (fun a v H => At (ob a) v H) H' (l.take i) acc) ⟨Ex.new hD, [], upd_same, fun _ z => absurd z (by simp), trivial⟩ (fun _ _ _ z => mono _ _ z.1 g) (fun i x Ha Hb hi z y => ?_) (fun H' z => ?_)
  · obtain ⟨z1, acc, z2, z3, z4⟩ := z
    obtain ⟨rfl, hx⟩ := y
    rw [List.length_map] at hi
    have hx' : x = en l[i] := by
      rw [List.getElem?_map, List.getElem?_eq_getElem hi] at hx
      exact (Option.some.inj hx).symm
    subst hx'
    have hm : l[i] ∈ l := List.getElem_mem hi
    refine ⟨hw _, ?_⟩
    show te _ Hb fun y H4 => ∃ acc, H4 Dl = some (.lst acc) ∧ acc.length < sizeLine ∧ (Ex H1 (upd H4 Dl (.lst (acc ++ [y]))) ∧ ∃ acc', upd H4 Dl (.lst (acc ++ [y])) Dl = some (.lst acc') ∧ (∀ v ∈ acc', v ≠ .ref Dl) ∧ Each (fun a v H => At (ob a) v H) (upd H4 Dl (.lst (acc ++ [y]))) (l.take (i + 1)) acc')
    refine he _ hm Hb ((e.trans e1).trans z1) Hb (Ex.refl _) _ fun p H4 hp e4 hv => ⟨acc, e4 _ _ z2, ?_, Ex.mut (z1.trans e4) hD, acc ++ [.ref p], upd_same, ?_, ?_⟩
    · have h1 := z4.len
      rw [List.length_take] at h1
      have := szl
      omega
    · intro v hv'
      rcases List.mem_append.mp hv' with m | m
      · exact z3 v m
      · rw [List.mem_singleton.mp m]
        intro q'
        injection q' with q'
        rw [q', z2] at hp
        cases hp
    · rw [take_next hi]
      have np : p ≠ Dl := fun q' => by
        rw [q', z2] at hp
        cases hp
      exact Each.snoc (E := fun a v H => At (ob a) v H) ⟨p, rfl, by rw [upd_ne np]; exact hv⟩ (Each.mut z3 (Each.ex (E := fun a v H => At (ob a) v H) (fun a v _ _ e h => At.ex e h) e4 z4))
  · obtain ⟨z1, acc, z2, z3, z4⟩ := z
    rw [List.length_map, List.take_length] at z4
    exact q Dl acc H' (fresh_back e1 hD) (e1.trans z1) z2 z4
/-- for x in a walked thing -/
theorem q_forS {xs : List V} {wi : TI} {j : Nat} {tu tz : TS} {D : Ends} (h : EvS wi σ H xs) (Pv : Nat → L2St → Hp → Prop) (h0 : ∀ H1, Ex H H1 → Pv 0 σ H1)
    (hG : ∀ H0, Ex H H0 → ∀ i σ' H', Pv i σ' H' → ∀ G : Hp → Prop, G H0 → (∀ Ha Hb, Ex Ha Hb → G Ha → G Hb) → G H')
    (hs : ∀ i x σ' H', xs[i]? = some x → Pv i σ' H' → tu { D with nx := Pv (i + 1), ct := Pv (i + 1), bk := tz D } (σ'.set j (some x)) H') (hd : ∀ σ' H', Pv xs.length σ' H' → tz D σ' H') : tSeq (tFor wi (gName j) tu) tz D σ H :=
  h H (Ex.refl H) _ fun J G H2 e2 g mono W => for_it (D := { D with nx := tz D }) W Pv (h0 H2 e2) (fun i σ' H' _ p => hG H2 e2 i σ' H' p G g mono) (fun i x σ' Ha Hb hi p y => by
    obtain ⟨rfl, hx⟩ := y
    exact hs i x σ' Hb hx p) hd
end
end LX


set_option Elab.async false
set_option linter.all false
set_option maxRecDepth 100000
set_option maxHeartbeats 4000000
/-! Comprehensions of two clauses. -/
namespace LX
open PySem PySem.Spec PyProof.Rows L2 TL Evl SX C8
section
variable {K : PySem.W.Frag} {σ : L2St} {H : Hp} {ta tb tc te : TE}
theorem loop_it {J : It} {n : Nat} {G : Hp → Prop} {xs : List V} (W : Walk J n G (YAt xs)) {Nx : Hp → Prop} {step : (Hp → Prop) → V → Hp → Prop} {H4 : Hp} (Pv : Nat → Hp → Prop) (h0 : Pv 0 H4) (hG : ∀ i H, i ≤ n → Pv i H → G H)
    (hs : ∀ i x H, i < n → Pv i H → xs[i]? = some x → step (Pv (i + 1)) x H) (hd : ∀ H, Pv n H → Nx H) :
    ∃ W1 : Nat → Nat → Hp → Prop, (∃ m, W1 0 m H4) ∧ ∀ j k H, W1 j k H → (J.stop j H ∧ Nx H) ∨ (J.go j H ∧ ∃ Nx1 : Hp → Prop, (∀ H', Nx1 H' → ∃ k', k' < k ∧ W1 (j + 1) k' H') ∧ ∀ x H', J.yld j H x H' → step Nx1 x H') := by
  refine ⟨fun i m H => m = n - i ∧ i ≤ n ∧ Pv i H, ⟨n, by simp, Nat.zero_le _, h0⟩, ?_⟩
  rintro i m H ⟨rfl, hi, p⟩
  have q := hG i H hi p
  by_cases hlt : i < n
  · refine .inr ⟨W.goes i H hlt q, Pv (i + 1), fun H' p' => ⟨n - (i + 1), by omega, rfl, hlt, p'⟩, fun x H' y => ?_⟩
    obtain ⟨rfl, hx⟩ := W.yields i H x H' hlt q y
    exact hs i x H' hlt p hx
  · have e : i = n := by omega
    subst e
    exact .inl ⟨W.stops H q, hd H p⟩
/-- the walked thing stands in H -/
def EvS0 (wi : TI) (σ : L2St) (H : Hp) (xs : List V) : Prop := ∀ H1, Ex H H1 → ∀ R : It → Hp → Prop, (∀ (J : It) (H2 : Hp), Ex H1 H2 → Walk J xs.length (fun H' => Ex H H') (YAt xs) → R J H2) → wi σ H1 R
theorem es0_list {a : Addr} {xs : List V} {tl : TE} (h : Ev tl σ H (.ref a)) (hx : SqL K H a xs) : EvS0 (iList K tl) σ H xs := fun H1 e R k =>
  h H1 e _ fun H2 e2 => ⟨a, rfl, ⟨xs, ex_l (e.trans e2) hx⟩, k _ H2 e2 (walk_list.mono (fun _ e => ex_l e hx) fun _ _ _ _ _ _ y => y)⟩
theorem es0_str {z : List Nat} {tl : TE} (h : Ev tl σ H (.str (S z))) : EvS0 (iStr tl) σ H (z.map fun c => .str (S [c])) := fun H1 e R k =>
  h H1 e _ fun H2 e2 => ⟨S z, rfl, k _ H2 e2 (by
    have hl : (z.map fun c => V.str (S [c])).length = (S z).cps.size := by simp
    rw [hl]
    refine walk_str.mono (fun _ _ => trivial) fun i H x H' hi _ y => ?_
    obtain ⟨e, c, hc, ev⟩ := y
    refine ⟨e, ?_⟩
    rw [List.getElem?_map]
    have : z[i]? = some c := by simpa using hc
    rw [this, ev]
    rfl)⟩
variable {α β : Type} {l : List α} {m : α → List β} {en : α → V} {en1 : β → V} {wi wi1 : TI} {t : TT} {j j1 : Nat} {vs vs1 : List Nat} {p : α → β → Bool}
/-- the pairs that are taken -/
def prs (l : List α) (m : α → List β) (p : α → β → Bool) : List (α × β) := l.flatMap fun a => ((m a).filter (p a)).map fun b => (a, b)
theorem prs_snoc {i : Nat} (h : i < l.length) : prs (l.take (i + 1)) m p = prs (l.take i) m p ++ ((m l[i]).filter (p l[i])).map fun b => (l[i], b) := by
  unfold prs
  rw [take_next h, List.flatMap_append]
  simp
abbrev tStep2 (t : TT) (te : TE) (j1 : Nat) (vs1 : List Nat) (Dl : Addr) (σ2 : L2St) (Nx1 : Hp → Prop) (x : V) (H' : Hp) : Prop := gName j1 x (wipe σ2 vs1) H' fun σ3 H5 => wipe σ3 vs1 = wipe σ2 vs1 ∧ t σ3 H5 fun b H6 =>
        if b = true then te σ3 H6 fun y H7 => ∃ acc, H7 Dl = some (.lst acc) ∧ acc.length < sizeLine ∧ Nx1 (upd H7 Dl (.lst (acc ++ [y]))) else Nx1 H6
abbrev tStep1 (wi1 : TI) (t : TT) (te : TE) (j j1 : Nat) (vs vs1 : List Nat) (Dl : Addr) (σ : L2St) (Nx : Hp → Prop) (x : V) (H' : Hp) : Prop := gName j x (wipe σ vs) H' fun σ2 H2 => wipe σ2 vs = wipe σ vs ∧ tYes σ2 H2 fun b H3 =>
    if b = true then wi1 σ2 H3 fun J1 H4 => ∃ W1 : Nat → Nat → Hp → Prop, (∃ m, W1 0 m H4) ∧ ∀ j k H, W1 j k H →
      (J1.stop j H ∧ Nx H) ∨ (J1.go j H ∧ ∃ Nx1 : Hp → Prop, (∀ H', Nx1 H' → ∃ k', k' < k ∧ W1 (j + 1) k' H') ∧ ∀ x H', J1.yld j H x H' → tStep2 t te j1 vs1 Dl σ2 Nx1 x H')
    else Nx H3
theorem walk_two {Ok : List (α × β) → Hp → Prop} {H1 : Hp} {Dl : Addr} {J : It} {G : Hp → Prop} (W : Walk J (l.map en).length G (YAt (l.map en))) (okG : ∀ cs H', Ok cs H' → G H') (okE : ∀ cs H', Ok cs H' → Ex H H') (okx : ∀ cs Ha Hb, Ok cs Ha → Ex Ha Hb → Ok cs Hb)
    (h1 : ∀ a ∈ l, EvS0 wi1 ((wipe σ vs).set j (some (en a))) H ((m a).map en1))
    (hw : ∀ x, wipe ((wipe σ vs).set j (some x)) vs = wipe σ vs) (hw1 : ∀ x y, wipe ((wipe ((wipe σ vs).set j (some x)) vs1).set j1 (some y)) vs1 = wipe ((wipe σ vs).set j (some x)) vs1)
    (turn : ∀ a ∈ l, ∀ b ∈ m a, ∀ cs H', Ok cs H' → (cs.length + 1 ≤ (prs l m p).length ∨ p a b = false) → t ((wipe ((wipe σ vs).set j (some (en a))) vs1).set j1 (some (en1 b))) H' fun b' H6 => if b' = true then te ((wipe ((wipe σ vs).set j (some (en a))) vs1).set j1 (some (en1 b))) H6 fun y H7 => ∃ acc, H7 Dl = some (.lst acc) ∧ acc.length < sizeLine ∧ Ok (cs ++ if p a b = true then [(a, b)] else []) (upd H7 Dl (.lst (acc ++ [y]))) else Ok (cs ++ if p a b = true then [(a, b)] else []) H6)
    (h0 : Ok [] H1) {Qd : Hp → Prop} (hd : ∀ H', Ok (prs l m p) H' → Qd H') :
    ∃ W : Nat → Nat → Hp → Prop, (∃ m, W 0 m H1) ∧ ∀ i m H, W i m H → (J.stop i H ∧ Qd H) ∨ (J.go i H ∧ ∃ Nx : Hp → Prop, (∀ H', Nx H' → ∃ m', m' < m ∧ W (i + 1) m' H') ∧ ∀ x H', J.yld i H x H' → tStep1 wi1 t te j j1 vs vs1 Dl σ Nx x H') := by
  refine loop_it W (step := fun Nx x H' => tStep1 wi1 t te j j1 vs vs1 Dl σ Nx x H') (fun i H' => Ok (prs (l.take i) m p) H') h0 (fun _ _ _ z => okG _ _ z) (fun i x Hb hi z hx => ?_) (fun H' z => ?_)
  · rw [List.length_map] at hi
    have hx' : x = en l[i] := by
      rw [List.getElem?_map, List.getElem?_eq_getElem hi] at hx
      exact (Option.some.inj hx).symm
    subst hx'
    have hm : l[i] ∈ l := List.getElem_mem hi
    refine ⟨hw _, ?_⟩
    show wi1 ((wipe σ vs).set j (some (en l[i]))) Hb _
    refine h1 _ hm Hb (okE _ _ z) _ fun J1 H2 e2 W1 => ?_
    refine loop_it W1 (step := fun Nx1 x H' => tStep2 t te j1 vs1 Dl ((wipe σ vs).set j (some (en l[i]))) Nx1 x H')
      (fun k H' => Ok (prs (l.take i) m p ++ (((m l[i]).take k).filter (p l[i])).map fun b => (l[i], b)) H') (by
        have e : prs (l.take i) m p ++ (((m l[i]).take 0).filter (p l[i])).map (fun b => (l[i], b)) = prs (l.take i) m p := by simp
        rw [e]
        exact okx _ _ _ z e2) (fun _ _ _ z => okE _ _ z) (fun k y Hc hk z' hy => ?_) (fun H' z' => ?_)
    · rw [List.length_map] at hk
      have hy' : y = en1 (m l[i])[k] := by
        rw [List.getElem?_map, List.getElem?_eq_getElem hk] at hy
        exact (Option.some.inj hy).symm
      subst hy'
      refine ⟨hw1 _ _, ?_⟩
      have hb : (m l[i])[k] ∈ m l[i] := List.getElem_mem hk
      have tk := take_filter (p := p l[i]) hk
      have tk2 : (((m l[i]).take (k + 1)).filter (p l[i])).map (fun b => (l[i], b)) = (((m l[i]).take k).filter (p l[i])).map (fun b => (l[i], b)) ++ (if p l[i] (m l[i])[k] = true then [(l[i], (m l[i])[k])] else []) := by
        rw [tk, List.map_append]
        cases hp : p l[i] (m l[i])[k] <;> simp [hp]
      rw [tk2, ← List.append_assoc]
      refine turn _ hm _ hb _ _ z' ?_
      cases hp : p l[i] (m l[i])[k] with
      | false => exact Or.inr rfl
      | true =>
        left
        have hs : prs l m p = prs (l.take i) m p ++ ((m l[i]).filter (p l[i])).map (fun b => (l[i], b)) ++ prs (l.drop (i + 1)) m p := by
          rw [← prs_snoc hi]
          unfold prs
          rw [← List.flatMap_append, List.take_append_drop]
        have hf : (m l[i]).filter (p l[i]) = ((m l[i]).take k).filter (p l[i]) ++ [(m l[i])[k]] ++ ((m l[i]).drop (k + 1)).filter (p l[i]) := by
          have e := tk
          rw [hp, if_pos rfl] at e
          rw [← e, ← List.filter_append, List.take_append_drop]
        rw [hs, hf]
        simp only [List.length_append, List.length_map, List.length_singleton]
        omega
    · rw [List.length_map, List.take_length] at z'
      rw [prs_snoc hi]
      exact z'
  · rw [List.length_map, List.take_length] at z
    exact hd H' z
/-- the elements known values -/
theorem el_cmp2 {φ : α → β → V} (h : EvS wi σ H (l.map en)) (h1 : ∀ a ∈ l, EvS0 wi1 ((wipe σ vs).set j (some (en a))) H ((m a).map en1)) (hz : (prs l m p).length ≤ 40000)
    (hw : ∀ x, wipe ((wipe σ vs).set j (some x)) vs = wipe σ vs) (hw1 : ∀ x y, wipe ((wipe ((wipe σ vs).set j (some x)) vs1).set j1 (some y)) vs1 = wipe ((wipe σ vs).set j (some x)) vs1)
    (ht : ∀ a ∈ l, ∀ b ∈ m a, EvT t ((wipe ((wipe σ vs).set j (some (en a))) vs1).set j1 (some (en1 b))) H (p a b))
    (he : ∀ a ∈ l, ∀ b ∈ m a, p a b = true → Ev te ((wipe ((wipe σ vs).set j (some (en a))) vs1).set j1 (some (en1 b))) H (φ a b)) :
    EvL (tLc2 wi (gName j) tYes wi1 (gName j1) t te vs vs1) σ H ((prs l m p).map fun c => φ c.1 c.2) := fun H0 e Q q => h H0 e _ fun J G H1 e1 g mono W Dl hD =>
  walk_two (H := H) (Ok := fun cs H' => Ex H1 H' ∧ H' Dl = some (.lst (cs.map fun c => φ c.1 c.2))) W (fun _ _ z => mono _ _ z.1 g) (fun _ _ z => (e.trans e1).trans z.1) (fun _ _ _ z e => ⟨z.1.trans e, e _ _ z.2⟩) h1 hw hw1 (fun a ha b hb cs H' z hc => by
    refine ht a ha b hb H' ((e.trans e1).trans z.1) _ fun H3 e3 => ?_
    cases hp : p a b with
    | true =>
      show te _ H3 fun y H7 => ∃ acc, H7 Dl = some (.lst acc) ∧ acc.length < sizeLine ∧ (Ex H1 (upd H7 Dl (.lst (acc ++ [y]))) ∧ upd H7 Dl (.lst (acc ++ [y])) Dl = some (.lst ((cs ++ [(a, b)]).map fun c => φ c.1 c.2)))
      refine he a ha b hb hp H3 (((e.trans e1).trans z.1).trans e3) _ fun H4 e4 => ⟨_, e4 _ _ (e3 _ _ z.2), ?_, Ex.mut ((z.1.trans e3).trans e4) hD, ?_⟩
      · rw [List.length_map]
        have := szl
        rcases hc with hc | hc
        · omega
        · rw [hp] at hc
          cases hc
      · rw [upd_same, List.map_append]
        rfl
    | false =>
      show Ex H1 H3 ∧ H3 Dl = some (.lst ((cs ++ []).map fun c : α × β => φ c.1 c.2))
      rw [List.append_nil]
      exact ⟨z.1.trans e3, e3 _ _ z.2⟩) ⟨Ex.new hD, upd_same⟩ fun H' z => q Dl H' (fresh_back e1 hD) (e1.trans z.1) z.2
/-- the elements new objects -/
theorem el_cmp2O {ob : α → β → HO} (h : EvS wi σ H (l.map en)) (h1 : ∀ a ∈ l, EvS0 wi1 ((wipe σ vs).set j (some (en a))) H ((m a).map en1)) (hz : (prs l m p).length ≤ 40000)
    (hw : ∀ x, wipe ((wipe σ vs).set j (some x)) vs = wipe σ vs) (hw1 : ∀ x y, wipe ((wipe ((wipe σ vs).set j (some x)) vs1).set j1 (some y)) vs1 = wipe ((wipe σ vs).set j (some x)) vs1)
    (ht : ∀ a ∈ l, ∀ b ∈ m a, EvT t ((wipe ((wipe σ vs).set j (some (en a))) vs1).set j1 (some (en1 b))) H (p a b))
    (he : ∀ a ∈ l, ∀ b ∈ m a, p a b = true → EvO' te ((wipe ((wipe σ vs).set j (some (en a))) vs1).set j1 (some (en1 b))) H (ob a b)) :
    EvLR (tLc2 wi (gName j) tYes wi1 (gName j1) t te vs vs1) σ H (fun us H2 => Each (fun (c : α × β) v H => At (ob c.1 c.2) v H) H2 (prs l m p) us) := fun H0 e Q q => h H0 e _ fun J G H1 e1 g mono W Dl hD =>
  walk_two (H := H) (Ok := fun cs H' => Ex H1 H' ∧ ∃ acc, H' Dl = some (.lst acc) ∧ (∀ v ∈ acc, v ≠ .ref Dl) ∧ Each (fun (c : α × β) v H => At (ob c.1 c.2) v H) H' cs acc) W (fun _ _ z => mono _ _ z.1 g) (fun _ _ z => (e.trans e1).trans z.1)
    (fun cs Ha Hb z e => ⟨z.1.trans e, z.2.elim fun acc y => ⟨acc, e _ _ y.1, y.2.1, Each.ex (E := fun (c : α × β) v H => At (ob c.1 c.2) v H) (fun a v _ _ e h => At.ex e h) e y.2.2⟩⟩) h1 hw hw1 (fun a ha b hb cs H' z hc => by
    refine ht a ha b hb H' ((e.trans e1).trans z.1) _ fun H3 e3 => ?_
    obtain ⟨z1, acc, z2, z3, z4⟩ := z
    cases hp : p a b with
    | true =>
      show te _ H3 fun y H7 => ∃ acc, H7 Dl = some (.lst acc) ∧ acc.length < sizeLine ∧ (Ex H1 (upd H7 Dl (.lst (acc ++ [y]))) ∧ ∃ acc', upd H7 Dl (.lst (acc ++ [y])) Dl = some (.lst acc') ∧ (∀ v ∈ acc', v ≠ .ref Dl) ∧ Each (fun (c : α × β) v H => At (ob c.1 c.2) v H) (upd H7 Dl (.lst (acc ++ [y]))) (cs ++ [(a, b)]) acc')
      refine he a ha b hb hp H3 (((e.trans e1).trans z1).trans e3) _ fun q' H4 hq' e4 hv => ⟨acc, e4 _ _ (e3 _ _ z2), ?_, Ex.mut ((z1.trans e3).trans e4) hD, acc ++ [.ref q'], upd_same, ?_, ?_⟩
      · have h1 := z4.len
        have := szl
        rcases hc with hc | hc
        · omega
        · rw [hp] at hc
          cases hc
      · intro v hv'
        rcases List.mem_append.mp hv' with m | m
        · exact z3 v m
        · rw [List.mem_singleton.mp m]
          intro q2
          injection q2 with q2
          rw [q2, e3 _ _ z2] at hq'
          cases hq'
      · have np : q' ≠ Dl := fun q2 => by
          rw [q2, e3 _ _ z2] at hq'
          cases hq'
        exact Each.snoc (E := fun (c : α × β) v H => At (ob c.1 c.2) v H) ⟨q', rfl, by rw [upd_ne np]; exact hv⟩ (Each.mut (ob := fun c : α × β => ob c.1 c.2) z3 (Each.ex (E := fun (c : α × β) v H => At (ob c.1 c.2) v H) (fun a v _ _ e h => At.ex e h) (e3.trans e4) z4))
    | false =>
      show Ex H1 H3 ∧ ∃ acc, H3 Dl = some (.lst acc) ∧ (∀ v ∈ acc, v ≠ .ref Dl) ∧ Each (fun (c : α × β) v H => At (ob c.1 c.2) v H) H3 (cs ++ []) acc
      rw [List.append_nil]
      exact ⟨z1.trans e3, acc, e3 _ _ z2, z3, Each.ex (E := fun (c : α × β) v H => At (ob c.1 c.2) v H) (fun a v _ _ e h => At.ex e h) e3 z4⟩) ⟨Ex.new hD, [], upd_same, fun _ z => absurd z (by simp), trivial⟩ fun H' z => z.2.elim fun acc y => q Dl acc H' (fresh_back e1 hD) (e1.trans z.1) y.1 y.2.2
end
end LX


set_option Elab.async false
set_option linter.all false
set_option maxRecDepth 100000
set_option maxHeartbeats 4000000
namespace LX
open PySem PySem.Spec PyProof.Rows L2 TL Evl SX C8
section
variable {K : PySem.W.Frag} {σ : L2St} {H : Hp} {ta tb tc te : TE}
theorem ev_chainLL {i j k : Int} (ha : Ev ta σ H (.int i)) (hb : Ev tb σ H (.int j)) (hc : Ev tc σ H (.int k)) :
    Ev (tChain (rI0 fun i j => .bl (decide (i ≤ j))) (rI0 fun i j => .bl (decide (i ≤ j))) ta tb tc) σ H (.bl (decide (i ≤ j) && decide (j ≤ k))) := fun H1 e Q q =>
  ha H1 e _ fun H2 e2 => hb H2 (e.trans e2) _ fun H3 e3 => ⟨i, j, rfl, rfl, decide (i ≤ j), rfl, by
    have e13 := (e.trans e2).trans e3
    cases hd : decide (i ≤ j) with
    | true =>
      rw [if_pos rfl]
      rw [hd, Bool.true_and] at q
      exact hc H3 e13 _ fun H4 e4 => ⟨j, k, rfl, rfl, q H4 ((e2.trans e3).trans e4)⟩
    | false =>
      rw [if_neg Bool.false_ne_true]
      rw [hd, Bool.false_and] at q
      exact q H3 (e2.trans e3)⟩
theorem rc_isi {x : V} {t : Value} {n : String} {b : Bool} (h : ∀ H1, Ex H H1 → TyX K H1 x t) (e : PySem.W.kitOne K t (.type n) = some b) : RC (rIsi K) [x, .ty n] H (.bl b) := fun H1 e1 Q q =>
  ⟨x, .ty n, t, .type n, b, rfl, .ty n, h H1 e1, e, q H1 (Ex.refl _)⟩
theorem rc_isiS {z : Str} : RC (rIsi K) [.str z, .ty "str"] H (.bl true) := rc_isi (fun _ _ => .base (.str z)) (kit_ty (by decide +kernel))
theorem rc_lenS {z : List Nat} (h : z.length ≤ 100000) : RC (fun xs H Q => ∃ z : Str, xs = [.str z] ∧ z.length ≤ sizeLine ∧ Q (.int z.length) H) [.str (S z)] H (.int (z.length : Nat)) := fun H1 _ Q q =>
  ⟨S z, rfl, by rw [S_len]; exact szle h, by rw [S_len]; exact q H1 (Ex.refl _)⟩
/-- one argument that is a new list -/
theorem ev_cbL {r : List V → Hp → VK → Prop} {xs : List V} {z : V} (h : EvL te σ H xs) (hr : ∀ p H1, Ex H H1 → H1 p = some (.lst xs) → RC r [.ref p] H1 z) : Ev (tCB r (tCons te tNil)) σ H z := fun H1 e Q q =>
  h H1 e _ fun p H2 _ e2 hp => hr p H2 (e.trans e2) hp H2 (Ex.refl _) Q fun H3 e3 => q H3 (e2.trans e3)
theorem rc_all {bs : List Bool} {p : Addr} (h : H p = some (.lst (bs.map V.bl))) : RC (rAll K) [.ref p] H (.bl (bs.all id)) := fun H1 e Q q => ⟨p, bs, rfl, sq_of (e _ _ h), q H1 (Ex.refl _)⟩
theorem rv_inSg {c : Nat} {z : List Nat} : RV (fun x y H Q => ∃ (c : Nat) (z : Str), x = .str ⟨#[c]⟩ ∧ y = .str z ∧ Q (.bl (decide (c ∈ z.cps.toList))) H) (.str (S [c])) (.str (S z)) H (.bl (decide (c ∈ z))) :=
  rv_val fun H1 _ Q q => ⟨c, S z, rfl, rfl, q⟩
theorem all_map {α : Type} (l : List α) (f : α → Bool) : (l.map f).all id = l.all f := by
  induction l with
  | nil => rfl
  | cons a r ih => simp only [List.map_cons, List.all_cons, ih, id]
/-- all([sign in signs for sign in value]) -/
theorem ev_allIn {z y : List Nat} {wi : TI} {vs : List Nat} {j : Nat} (h : EvS wi σ H (z.map fun c => .str (S [c]))) (hz : z.length ≤ 40000) (hw : ∀ x, wipe ((wipe σ vs).set j (some x)) vs = wipe σ vs)
    (he : ∀ c ∈ z, ∀ H1, Ex H H1 → Ev te ((wipe σ vs).set j (some (.str (S [c])))) H1 (.bl (decide (c ∈ y)))) : Ev (tCB (rAll K) (tCons (tLc wi (gName j) tYes te vs) tNil)) σ H (.bl (z.all fun c => decide (c ∈ y))) := by
  have e : (z.map fun c => V.bl (decide (c ∈ y))) = (z.map fun c => decide (c ∈ y)).map V.bl := by rw [List.map_map]; rfl
  have k := ev_cbL (r := rAll K) (z := .bl (z.all fun c => decide (c ∈ y))) (el_map h hz hw he) fun p H1 _ hp => by
    rw [e] at hp
    have := rc_all (K := K) hp
    rw [all_map] at this
    exact this
  exact k
theorem rv_leI {i j : Int} : RV (rI0 fun i j => .bl (decide (i ≤ j))) (.int i) (.int j) H (.bl (decide (i ≤ j))) := rv_I0
end
section
variable {P : Program} {w : World} {K : PySem.W.Frag} {mg : Str → Option Value} {base : Heap} {a : Ad}
/-! ### is_integer -/
abbrev s_is_integer : Stmt := topS 16
abbrev N_is_integer : List Str := ["value", "low", "high"]
theorem sc_is_integer : FnScope N_is_integer ["value", "low", "high"] (defScope s_is_integer) := ⟨rfl, rfl, rfl, by decide +kernel, rfl, by decide +kernel, by decide +kernel⟩
def spIsInteger : Sp := fun vs H Q _ => ∃ v lo hi : Int, vs = [.int v, .int lo, .int hi] ∧ RetV (.bl (decide (lo ≤ v) && decide (v ≤ hi))) H Q
theorem cal_is_integer (T : Txt K mg a) (D : DF K mg "is_integer" s_is_integer) : Cal P w K mg base 1 "is_integer" spIsInteger [] := by
  refine mkCal D sc_is_integer (fun _ _ _ _ _ _ us hl => match us, hl with | [_, _, _], _ => rfl) (fun vs H Q E h => ?_) (fun f cdv A outer s H vs Q E hr h => ?_)
  · obtain ⟨_, _, _, rfl, _⟩ := h
    rfl
  · obtain ⟨v, lo, hi, rfl, k⟩ := h
    refine ⟨_, (pss_one (ps_ret (pe_and (pe_callB (call_isi) (by rfl) T.isinstance_ (by decide +kernel) (pa_cons (pv 0) (pa_cons (pe_bltn (v := .ty "int") (by rfl) T.int_ (by decide +kernel) rfl) pa_nil))) (pe_and (pe_not (pe_callB (call_isi) (by rfl) T.isinstance_ (by decide +kernel) (pa_cons (pv 0) (pa_cons (pe_bltn (v := .ty "bool") (by rfl) T.bool_ (by decide +kernel) rfl) pa_nil)))) (pe_one (pe_chain op_le op_le (pv 1) (pv 0) (pv 2))))))), ?_⟩
    refine s_ret (v := .bl (true && (!false && (decide (lo ≤ v) && decide (v ≤ hi))))) (ev_andV (ev_cb (ea_cons (ev_var rfl) (ea_cons ev_c ea_nil)) (rc_isi (fun _ _ => .base (.int v)) (kit_ty (by decide +kernel)))) fun _ =>
      ev_andV (ev_notV (ev_cb (ea_cons (ev_var rfl) (ea_cons ev_c ea_nil)) (rc_isi (fun _ _ => .base (.int v)) (kit_ty (by decide +kernel))))) fun _ => ev_chainLL (ev_var rfl) (ev_var rfl) (ev_var rfl)) ?_
    exact k
/-! ### has_signs -/
abbrev s_has_signs : Stmt := topS 17
abbrev N_has_signs : List Str := ["value", "signs", "sign"]
theorem sc_has_signs : FnScope N_has_signs ["value", "signs"] (defScope s_has_signs) := ⟨rfl, rfl, rfl, by decide +kernel, rfl, by decide +kernel, by decide +kernel⟩
def spHasSigns : Sp := fun vs H Q _ => ∃ z y : List Nat, vs = [.str (S z), .str (S y)] ∧ z.length ≤ 1000 ∧ RetV (.bl (decide ((z.length : Int) ≤ 6) && z.all fun c => decide (c ∈ y))) H Q
theorem cal_has_signs (T : Txt K mg a) (D : DF K mg "has_signs" s_has_signs) : Cal P w K mg base 1 "has_signs" spHasSigns [] := by
  refine mkCal D sc_has_signs (fun _ _ _ _ _ _ us hl => match us, hl with | [_, _], _ => rfl) (fun vs H Q E h => ?_) (fun f cdv A outer s H vs Q E hr h => ?_)
  · obtain ⟨_, _, rfl, _⟩ := h
    rfl
  · obtain ⟨z, y, rfl, hz, k⟩ := h
    refine ⟨_, (pss_one (ps_ret (pe_and (pe_callB (call_isi) (by rfl) T.isinstance_ (by decide +kernel) (pa_cons (pv 0) (pa_cons (pe_bltn (v := .ty "str") (by rfl) T.str_ (by decide +kernel) rfl) pa_nil))) (pe_and (pe_cmpR op_le (pe_callB (call_len_str) (by rfl) T.len_ (by decide +kernel) (pa_cons (pv 0) pa_nil)) (pe_gc rfl T.g_MOST) (nomark _)) (pe_one (pe_callB (cr_all rfl) (by rfl) T.all_ (by decide +kernel) (pa_cons (pe_lc (own := [("sign", 2)]) (g := (gName 2)) (tt := tYes) rfl sc_has_signs.nd (pi_str (pv 0)) (blkOk_by (own := [("sign", 2)]) (N := N_has_signs) (sc := defScope s_has_signs) (by decide +kernel)) (fun _ _ _ _ _ => (pg_name (i := 2) sc_has_signs.nd rfl (Or.inl rfl))) (fun _ _ _ _ _ => pts_nil) (fun _ _ _ _ _ => (pe_cmpR op_in_sign (pv 2) (pv 1) rfl))) pa_nil))))))), ?_⟩
    refine s_ret (v := .bl (true && (decide ((z.length : Int) ≤ 6) && z.all fun c => decide (c ∈ y)))) (ev_andV (ev_cb (ea_cons (ev_var rfl) (ea_cons ev_c ea_nil)) rc_isiS) fun _ =>
      ev_andV (ev_op (ev_cb (ea_cons (ev_var rfl) ea_nil) (rc_lenS (by omega))) ev_c rv_leI) fun _ => ev_allIn (es_str (ev_var rfl)) (by omega) (fun x => rfl) fun c _ H1 _ => ev_op (ev_var rfl) (ev_var rfl) rv_inSg) ?_
    exact k
/-! ### is_input -/
abbrev s_is_input : Stmt := topS 18
abbrev N_is_input : List Str := ["value"]
theorem sc_is_input : FnScope N_is_input ["value"] (defScope s_is_input) := ⟨rfl, rfl, rfl, by decide +kernel, rfl, by decide +kernel, by decide +kernel⟩
def spIsInput : Sp := fun vs H Q _ => ∃ z : List Nat, vs = [.str (S z)] ∧ z.length ≤ 1000 ∧ RetV (.bl (decide ((z.length : Int) ≤ 6) && z.all fun c => decide (c ∈ [48, 49]))) H Q
theorem cal_is_input (T : Txt K mg a) (D : DF K mg "is_input" s_is_input) (C_has_signs : Cal P w K mg base 1 "has_signs" spHasSigns []) : Cal P w K mg base 2 "is_input" spIsInput [] := by
  refine mkCal D sc_is_input (fun _ _ _ _ _ _ us hl => match us, hl with | [_], _ => rfl) (fun vs H Q E h => ?_) (fun f cdv A outer s H vs Q E hr h => ?_)
  · obtain ⟨_, rfl, _⟩ := h
    rfl
  · obtain ⟨z, rfl, hz, k⟩ := h
    refine ⟨_, (pss_one (ps_ret (pe_c C_has_signs hr (by decide) rfl (pa_cons (pv 0) (pa_cons (pe_gc rfl T.g_BITS) pa_nil))))), ?_⟩
    exact s_ret (ev_call (ea_cons (ev_var rfl) (ea_cons ev_c ea_nil)) fun H1 e Q q E => ⟨z, [48, 49], rfl, hz, q⟩) k
/-! ### need_count -/
abbrev s_need_count : Stmt := topS 20
abbrev N_need_count : List Str := ["value"]
theorem sc_need_count : FnScope N_need_count ["value"] (defScope s_need_count) := ⟨rfl, rfl, rfl, by decide +kernel, rfl, by decide +kernel, by decide +kernel⟩
def spNeedCount : Sp := fun vs H Q _ => ∃ v : Int, vs = [.int v] ∧ 0 ≤ v ∧ v ≤ 6 ∧ RetV .non H Q
theorem cal_need_count (T : Txt K mg a) (D : DF K mg "need_count" s_need_count) (C_is_integer : Cal P w K mg base 1 "is_integer" spIsInteger []) : Cal P w K mg base 2 "need_count" spNeedCount [] := by
  refine mkCal D sc_need_count (fun _ _ _ _ _ _ us hl => match us, hl with | [_], _ => rfl) (fun vs H Q E h => ?_) (fun f cdv A outer s H vs Q E hr h => ?_)
  · obtain ⟨_, rfl, _⟩ := h
    rfl
  · obtain ⟨v, rfl, h0, h6, k⟩ := h
    refine ⟨_, (pss_one (ps_if (pt_not (pt_val (pe_c C_is_integer hr (by decide) rfl (pa_cons (pv 0) (pa_cons pe_int (pa_cons (pe_gc rfl T.g_MOST) pa_nil)))))) (pss_one ps_never) pss_nil)), ?_⟩
    refine s_if (b := !(decide (0 ≤ v) && decide (v ≤ 6))) (et_not (et_B (ev_call (ea_cons (ev_var rfl) (ea_cons ev_c (ea_cons ev_c ea_nil))) fun H1 e Q q E => ⟨v, 0, 6, rfl, q⟩))) (fun hb H1 e => ?_) (fun _ H1 e => k H1 e)
    rw [decide_eq_true h0, decide_eq_true h6] at hb
    cases hb
/-! ### need_input -/
abbrev s_need_input : Stmt := topS 21
abbrev N_need_input : List Str := ["value", "many"]
theorem sc_need_input : FnScope N_need_input ["value", "many"] (defScope s_need_input) := ⟨rfl, rfl, rfl, by decide +kernel, rfl, by decide +kernel, by decide +kernel⟩
def IsIn (z : List Nat) : Prop := z.length ≤ 6 ∧ ∀ c ∈ z, c = 48 ∨ c = 49
theorem IsIn.all {z : List Nat} (h : IsIn z) : (decide ((z.length : Int) ≤ 6) && z.all fun c => decide (c ∈ [48, 49])) = true := by
  obtain ⟨h1, h2⟩ := h
  have a : ((z.length : Int) ≤ 6) := by omega
  rw [decide_eq_true a, Bool.true_and, List.all_eq_true]
  intro c hc
  exact decide_eq_true (by simpa using h2 c hc)
def spNeedInput : Sp := fun vs H Q _ => ∃ z : List Nat, vs = [.str (S z), .int (z.length : Nat)] ∧ IsIn z ∧ RetV .non H Q
theorem cal_need_input (T : Txt K mg a) (D : DF K mg "need_input" s_need_input) (C_is_input : Cal P w K mg base 2 "is_input" spIsInput []) : Cal P w K mg base 3 "need_input" spNeedInput [] := by
  refine mkCal D sc_need_input (fun _ _ _ _ _ _ us hl => match us, hl with | [_, _], _ => rfl) (fun vs H Q E h => ?_) (fun f cdv A outer s H vs Q E hr h => ?_)
  · obtain ⟨_, rfl, _⟩ := h
    rfl
  · obtain ⟨z, rfl, hz, k⟩ := h
    have hz6 := hz.1
    refine ⟨_, (pss_one (ps_if (PW.pt (pw_or (pt_not (pt_val (pe_c C_is_input hr (by decide) rfl (pa_cons (pv 0) pa_nil)))) (pw_or1 (pt_cmpR op_ne (pe_callB (call_len_str) (by rfl) T.len_ (by decide +kernel) (pa_cons (pv 0) pa_nil)) (pv 1) (nomark _))))) (pss_one ps_never) pss_nil)), ?_⟩
    refine s_if (b := (!true) || !decide (V.int (z.length : Nat) = V.int (z.length : Nat))) (et_or (et_not (et_B (ev_call (ea_cons (ev_var rfl) ea_nil) fun H1 e Q q E => ⟨z, rfl, by omega, by rw [hz.all]; exact q⟩))) fun _ =>
      et_test (ev_op (ev_cb (ea_cons (ev_var rfl) ea_nil) (rc_lenS (by omega))) (ev_var rfl) (rv_ne rfl))) (fun hb H1 e => ?_) (fun _ H1 e => k H1 e)
    rw [decide_eq_true rfl] at hb
    cases hb
/-! ### strings, inputs, put -/
abbrev s_strings : Stmt := topS 22
abbrev N_strings : List Str := ["many", "signs", "found", "turn", "text", "sign"]
theorem sc_strings : FnScope N_strings ["many", "signs"] (defScope s_strings) := ⟨rfl, rfl, rfl, by decide +kernel, rfl, by decide +kernel, by decide +kernel⟩
def texts (l : List (List Nat)) : List V := l.map fun t => V.str (S t)
theorem strL_len (sg : List Nat) : ∀ n, (strL sg n).length = sg.length ^ n
  | 0 => rfl
  | n + 1 => by
    show ((strL sg n).flatMap fun t => sg.map fun s => t ++ [s]).length = _
    rw [List.length_flatMap]
    have : (List.map (fun t => (sg.map fun s => t ++ [s]).length) (strL sg n)) = (strL sg n).map fun _ => sg.length := List.map_congr_left fun _ _ => List.length_map _
    rw [this, Nat.pow_succ, ← strL_len sg n]
    generalize strL sg n = l
    induction l with
    | nil => simp
    | cons a r ih => rw [List.map_cons, List.sum_cons, ih, List.length_cons, Nat.add_mul]; omega
theorem strL_mem_len {sg : List Nat} {n : Nat} {t : List Nat} (h : t ∈ strL sg n) : t.length = n := (mem_strL.mp h).1
theorem prs_strL (sg : List Nat) (n : Nat) : (prs (strL sg n) (fun _ => sg) (fun _ _ => true)).map (fun c => V.str (S (c.1 ++ [c.2]))) = texts (strL sg (n + 1)) := by
  unfold prs texts
  show _ = ((strL sg n).flatMap fun t => sg.map fun s => t ++ [s]).map _
  rw [List.map_flatMap, List.map_flatMap]
  congr 1
  funext t
  rw [List.filter_eq_self.mpr fun _ _ => rfl, List.map_map, List.map_map]
  rfl
theorem prs_len (sg : List Nat) (n : Nat) : (prs (strL sg n) (fun _ => sg) (fun _ _ => true)).length = sg.length ^ (n + 1) := by
  have e := congrArg List.length (prs_strL sg n)
  rw [List.length_map] at e
  rw [e]
  unfold texts
  rw [List.length_map, strL_len]
theorem rv_addS {x y : List Nat} (h : x.length + y.length ≤ 100000) : RV (fun x y H Q => ∃ i j, x = .str i ∧ y = .str j ∧ i.length + j.length ≤ sizeLine ∧ Q (.str (i ++ j)) H) (.str (S x)) (.str (S y)) H (.str (S (x ++ y))) :=
  rv_val fun H1 _ Q q => ⟨S x, S y, rfl, rfl, by rw [S_len, S_len]; exact szle h, by rw [S_cat]; exact q⟩
def spStrings : Sp := fun vs H Q _ => ∃ (n : Nat) (sg : List Nat), vs = [.int n, .str (S sg)] ∧ n ≤ 6 ∧ sg.length = 2 ∧ RetL (texts (strL sg n)) H Q
theorem cal_strings (T : Txt K mg a) (D : DF K mg "strings" s_strings) : Cal P w K mg base 1 "strings" spStrings [] := by
  refine mkCal D sc_strings (fun _ _ _ _ _ _ us hl => match us, hl with | [_, _], _ => rfl) (fun vs H Q E h => ?_) (fun f cdv A outer s H vs Q E hr h => ?_)
  · obtain ⟨_, _, rfl, _⟩ := h
    rfl
  · obtain ⟨n, sg, rfl, hn, hsg, k⟩ := h
    refine ⟨_, (pss_cons (ps_set (i := 2) sc_strings.nd rfl (Or.inl rfl) (pe_lst (pa_cons pe_str pa_nil)))
    (pss_cons (ps_for PassesOwn.never rfl (pi_range1 rfl T.range_ (pa_cons (pv 0) pa_nil)) (pg_name (i := 3) sc_strings.nd rfl (Or.inl rfl)) (pss_one (ps_setLc2 (i := 2) (own := [("text", 4), ("sign", 5)]) (vs1 := [5]) (g := (gName 4)) (g1 := (gName 5)) rfl sc_strings.nd rfl rfl (sw_true rfl rfl rfl (by decide +kernel)) (pi_listK (K := K) (pv 2)) (blkOk_by (own := [("text", 4), ("sign", 5)]) (N := N_strings) (sc := defScope s_strings) (by decide +kernel)) (by decide) (fun _ _ _ _ _ => (pg_name (i := 4) sc_strings.nd rfl (Or.inl rfl))) (fun _ _ _ _ _ => pts_nil) (fun _ _ _ _ _ => (pi_str (pv 1))) (fun _ _ _ _ _ => (pg_name (i := 5) sc_strings.nd rfl (Or.inl rfl))) (fun _ _ _ _ _ => pts_nil) (fun _ _ _ _ _ => (pe_op op_add_str (pv 4) (pv 5))))))
    (pss_one (ps_ret (pv 2))))), ?_⟩
    refine q_asgL (xs := texts (strL sg 0)) (el_lst (ea_cons ev_c ea_nil) (by show 1 ≤ 100000; decide)) fun p0 H1 hp0 e1 h1 => ?_
    refine q_forR1 (n := n) (ea_cons (ev_var rfl) ea_nil) (by omega) (fun i σ' H' => ∃ (p : Addr) (x y z : Option V), σ' = [some (.int n), some (.str (S sg)), some (.ref p), x, y, z] ∧ H p = none ∧ Ex H H' ∧ H' p = some (.lst (texts (strL sg i)))) (fun H2 e2 => ⟨p0, none, none, none, rfl, hp0, e1.trans e2, e2 _ _ h1⟩) (fun i σ' H' hi z => ?_) (fun σ' H' z => ?_)
    · obtain ⟨p, x, y, z, rfl, hp, eH, hx⟩ := z
      have hl : (strL sg i).length ≤ 729 := by
        rw [strL_len, hsg]
        exact Nat.le_trans (Nat.pow_le_pow_right (by decide) (by omega : i ≤ 6)) (by decide)
      refine s_asgL (xs := texts (strL sg (i + 1))) ?_ fun p' H2 hp' e2 h2 => ⟨p', some (.int i), y, z, rfl, fresh_back eH hp', eH.trans e2, h2⟩
      rw [← prs_strL]
      refine el_cmp2 (φ := fun t c => V.str (S (t ++ [c]))) (es_list (xs := texts (strL sg i)) (ev_var rfl) (sq_of hx)) (fun t _ => es0_str (ev_var rfl)) ?_ (fun x => rfl) (fun x y => rfl) (fun _ _ _ _ => fun H1 _ Q q => q H1 (Ex.refl _)) (fun t ht c hc _ => ev_op (ev_var rfl) (ev_var rfl) (rv_addS ?_))
      · rw [prs_len, hsg]
        exact Nat.le_trans (Nat.pow_le_pow_right (by decide) (by omega : i + 1 ≤ 6)) (by decide)
      · have := strL_mem_len ht
        simp only [List.length_singleton]
        omega
    · obtain ⟨p, x, y, z, rfl, hp, eH, hx⟩ := z
      exact s_ret (ev_var rfl) fun H2 e2 => k p H2 hp (eH.trans e2) (e2 _ _ hx)
abbrev s_inputs : Stmt := topS 23
abbrev N_inputs : List Str := ["many"]
theorem sc_inputs : FnScope N_inputs ["many"] (defScope s_inputs) := ⟨rfl, rfl, rfl, by decide +kernel, rfl, by decide +kernel, by decide +kernel⟩
def spInputs : Sp := fun vs H Q _ => ∃ n : Nat, vs = [.int n] ∧ n ≤ 6 ∧ RetL (texts (ins n)) H Q
theorem cal_inputs (T : Txt K mg a) (D : DF K mg "inputs" s_inputs) (C_need_count : Cal P w K mg base 2 "need_count" spNeedCount []) (C_strings : Cal P w K mg base 1 "strings" spStrings []) : Cal P w K mg base 3 "inputs" spInputs [] := by
  refine mkCal D sc_inputs (fun _ _ _ _ _ _ us hl => match us, hl with | [_], _ => rfl) (fun vs H Q E h => ?_) (fun f cdv A outer s H vs Q E hr h => ?_)
  · obtain ⟨_, rfl, _⟩ := h
    rfl
  · obtain ⟨n, rfl, hn, k⟩ := h
    refine ⟨_, (pss_cons (ps_expr (pe_c C_need_count hr (by decide) rfl (pa_cons (pv 0) pa_nil)))
    (pss_one (ps_ret (pe_c C_strings hr (by decide) rfl (pa_cons (pv 0) (pa_cons (pe_gc rfl T.g_BITS) pa_nil)))))), ?_⟩
    refine q_drop (ev_call (ea_cons (ev_var rfl) ea_nil) fun H1 e Q q E => ⟨n, rfl, by omega, by omega, q⟩) fun H1 e1 => ?_
    exact s_retL (el_call (ea_cons (ev_var rfl) (ea_cons ev_c ea_nil)) fun H2 e Q q E => ⟨n, [48, 49], rfl, hn, rfl, q⟩) fun p H2 hp e2 h2 => k p H2 (fresh_back e1 hp) (e1.trans e2) h2
theorem cutS_lo {z : List Nat} {i : Nat} (h : i ≤ z.length) : cutS (S z) none (some (i : Int)) = S (z.take i) := by
  apply ext_tl
  show ((z.drop (HT.sIx (S z).length 0 none)).take (HT.sIx (S z).length (S z).length (some (i : Int)) - HT.sIx (S z).length 0 none)) = z.take i
  rw [HT.sIx_none, HT.sIx_nat, S_len, List.drop_zero, Nat.sub_zero, Nat.min_eq_left h]
theorem cutS_hi {z : List Nat} {i : Nat} (h : i ≤ z.length) : cutS (S z) (some (i : Int)) none = S (z.drop i) := by
  apply ext_tl
  show ((z.drop (HT.sIx (S z).length 0 (some (i : Int)))).take (HT.sIx (S z).length (S z).length none - HT.sIx (S z).length 0 (some (i : Int)))) = z.drop i
  rw [HT.sIx_none, HT.sIx_nat, S_len, Nat.min_eq_left h]
  exact List.take_of_length_le (by rw [List.length_drop]; exact Nat.le_refl _)
section
variable {σ : L2St} {H : Hp} {te : TE}
theorem ev_slS {tl th : TO} {z : Str} {lo hi : Option Int} (h : Ev te σ H (.str z)) (hz : z.length ≤ 100000) (h1 : EvO tl σ H lo) (h2 : EvO th σ H hi) : Ev (tSl rSlS te tl th) σ H (.str (cutS z lo hi)) := fun H1 e Q q =>
  h H1 e _ fun H2 e2 => h1 H2 (e.trans e2) _ fun H3 e3 => h2 H3 ((e.trans e2).trans e3) _ fun H4 e4 => ⟨z, rfl, szle hz, q H4 ((e2.trans e3).trans e4)⟩
/-- z[:i] + s + z[i + 1:] -/
theorem ev_put {ta tb tc td : TE} {tb2 : TE} {z : List Nat} {i c : Nat} (hi : i < z.length) (hz : z.length ≤ 1000) (h1 : Ev ta σ H (.str (S z))) (h2 : Ev tb σ H (.int (i : Nat))) (h3 : Ev tc σ H (.str (S [c]))) (h4 : Ev td σ H (.str (S z))) (h5 : Ev tb2 σ H (.int (i : Nat))) :
    Ev (tOp (fun x y H Q => ∃ i j, x = .str i ∧ y = .str j ∧ i.length + j.length ≤ sizeLine ∧ Q (.str (i ++ j)) H) (tOp (fun x y H Q => ∃ i j, x = .str i ∧ y = .str j ∧ i.length + j.length ≤ sizeLine ∧ Q (.str (i ++ j)) H) (tSl rSlS ta tNoPart (tPart tb)) tc)
      (tSl rSlS td (tPart (tOp (rI0 fun i j => .int (i + j)) tb2 (tC (.int 1)))) tNoPart)) σ H (.str (S (z.set i c))) := by
  have e : z.set i c = (z.take i ++ [c]) ++ z.drop (i + 1) := by
    rw [List.set_eq_take_append_cons_drop, if_pos hi, List.append_assoc]
    rfl
  rw [e]
  refine ev_op (x := .str (S (z.take i ++ [c]))) (y := .str (S (z.drop (i + 1)))) ?_ ?_ (rv_addS ?_)
  · refine ev_op (x := .str (S (z.take i))) ?_ h3 (rv_addS ?_)
    · rw [← cutS_lo (Nat.le_of_lt hi)]
      exact ev_slS h1 (by rw [S_len]; omega) eo_none (eo_some h2)
    · rw [List.length_take, List.length_singleton]
      omega
  · rw [← cutS_hi (by omega : i + 1 ≤ z.length)]
    exact ev_slS h4 (by rw [S_len]; omega) (eo_some (ev_op h5 ev_c rv_I0)) eo_none
  · simp only [List.length_append, List.length_take, List.length_drop, List.length_singleton]
    omega
end
abbrev s_put : Stmt := topS 24
abbrev N_put : List Str := ["pattern", "position", "sign"]
theorem sc_put : FnScope N_put ["pattern", "position", "sign"] (defScope s_put) := ⟨rfl, rfl, rfl, by decide +kernel, rfl, by decide +kernel, by decide +kernel⟩
def spPut : Sp := fun vs H Q _ => ∃ (z : List Nat) (i c : Nat), vs = [.str (S z), .int (i : Nat), .str (S [c])] ∧ i < z.length ∧ z.length ≤ 1000 ∧ RetV (.str (S (z.set i c))) H Q
theorem cal_put (T : Txt K mg a) (D : DF K mg "put" s_put) : Cal P w K mg base 1 "put" spPut [] := by
  refine mkCal D sc_put (fun _ _ _ _ _ _ us hl => match us, hl with | [_, _, _], _ => rfl) (fun vs H Q E h => ?_) (fun f cdv A outer s H vs Q E hr h => ?_)
  · obtain ⟨_, _, _, rfl, _⟩ := h
    rfl
  · obtain ⟨z, i, c, rfl, hi, hz, k⟩ := h
    refine ⟨_, (pss_one (ps_ret (pe_op op_add_str (pe_op op_add_str (pe_slice sl_str (pv 0) po_none (po_some (pv 1))) (pv 2)) (pe_slice sl_str (pv 0) (po_some (pe_op op_add (pv 1) pe_int)) po_none)))), ?_⟩
    exact s_ret (ev_put hi hz (ev_var rfl) (ev_var rfl) (ev_var rfl) (ev_var rfl) (ev_var rfl)) k
/-! ### is_table -/
abbrev s_is_table : Stmt := topS 27
abbrev N_is_table : List Str := ["value", "sign"]
theorem sc_is_table : FnScope N_is_table ["value"] (defScope s_is_table) := ⟨rfl, rfl, rfl, by decide +kernel, rfl, by decide +kernel, by decide +kernel⟩
def IsTab (z : List Nat) : Prop := z.length ∈ ([1, 2, 4, 8, 16, 32, 64] : List Nat) ∧ ∀ c ∈ z, c = 48 ∨ c = 49
def spIsTable : Sp := fun vs H Q _ => ∃ z : List Nat, vs = [.str (S z)] ∧ IsTab z ∧ RetV (.bl true) H Q
theorem IsTab.le {z : List Nat} (h : IsTab z) : z.length ≤ 64 := by
  have h1 := h.1
  simp only [List.mem_cons, List.not_mem_nil, or_false] at h1
  omega
theorem cal_is_table (T : Txt K mg a) (D : DF K mg "is_table" s_is_table) : Cal P w K mg base 1 "is_table" spIsTable [] := by
  refine mkCal D sc_is_table (fun _ _ _ _ _ _ us hl => match us, hl with | [_], _ => rfl) (fun vs H Q E h => ?_) (fun f cdv A outer s H vs Q E hr h => ?_)
  · obtain ⟨_, rfl, _⟩ := h
    rfl
  · obtain ⟨z, rfl, hz, k⟩ := h
    have hle := hz.le
    have hin : inV (.int (z.length : Nat)) (([1, 2, 4, 8, 16, 32, 64] : List Int).map V.int) = true := by
      have h1 := hz.1
      simp only [List.mem_cons, List.not_mem_nil, or_false] at h1
      rcases h1 with e | e | e | e | e | e | e <;> rw [e] <;> rfl
    have hall : (z.all fun c => decide (c ∈ [48, 49])) = true := by
      rw [List.all_eq_true]
      intro c hc
      exact decide_eq_true (by simpa using hz.2 c hc)
    refine ⟨_, (pss_one (ps_ret (pe_and (pe_callB (call_isi) (by rfl) T.isinstance_ (by decide +kernel) (pa_cons (pv 0) (pa_cons (pe_bltn (v := .ty "str") (by rfl) T.str_ (by decide +kernel) rfl) pa_nil))) (pe_and (pe_cmpR (op_in_seqK (K := K)) (pe_callB (call_len_str) (by rfl) T.len_ (by decide +kernel) (pa_cons (pv 0) pa_nil)) (pe_gc rfl T.g_SIZES) rfl) (pe_one (pe_callB (cr_all rfl) (by rfl) T.all_ (by decide +kernel) (pa_cons (pe_lc (own := [("sign", 1)]) (g := (gName 1)) (tt := tYes) rfl sc_is_table.nd (pi_str (pv 0)) (blkOk_by (own := [("sign", 1)]) (N := N_is_table) (sc := defScope s_is_table) (by decide +kernel)) (fun _ _ _ _ _ => (pg_name (i := 1) sc_is_table.nd rfl (Or.inl rfl))) (fun _ _ _ _ _ => pts_nil) (fun _ _ _ _ _ => (pe_cmpR op_in_sign (pv 1) (pe_gc rfl T.g_BITS) rfl))) pa_nil))))))), ?_⟩
    refine s_ret (v := .bl (true && (inV (.int (z.length : Nat)) (([1, 2, 4, 8, 16, 32, 64] : List Int).map V.int) && z.all fun c => decide (c ∈ [48, 49])))) (ev_andV (ev_cb (ea_cons (ev_var rfl) (ea_cons ev_c ea_nil)) rc_isiS) fun _ =>
      ev_andV (ev_op (ev_cb (ea_cons (ev_var rfl) ea_nil) (rc_lenS (by omega))) ev_c (rv_isT (T.sz H) rfl rfl)) fun _ => ev_allIn (es_str (ev_var rfl)) (by omega) (fun x => rfl) fun c _ H1 _ => ev_op (ev_var rfl) ev_c rv_inSg) ?_
    rw [hin, hall]
    exact k
end
end LX


set_option Elab.async false
set_option linter.all false
set_option maxRecDepth 100000
set_option maxHeartbeats 4000000
/-! Question: made, read, compared. -/
namespace LX
open PySem PySem.Spec PyProof.Rows L2 TL Evl SX C8
/-- a method's def, its promise -/
def FB (P : Program) (w : World) (K : PySem.W.Frag) (mg : Str → Option Value) (base : Heap) (k : Nat) (g : Addr) (sp : Sp) : Prop := ∃ fd ps, FnOk P w K mg base L2.CX0 k g fd ps sp ∧ Binds K fd ps []
def MF (K : PySem.W.Frag) (g : Addr) (x qual : Str) (st : Stmt) : Prop := ∃ fd, L2.Fun K x qual st g fd
section
variable {P : Program} {w : World} {K : PySem.W.Frag} {mg : Str → Option Value} {base : Heap} {a : Ad}
theorem mkFB {x qual : Str} {st : Stmt} {N ps : List Str} {k : Nat} {sp : Sp} {g : Addr} (D : MF K g x qual st) (S : FnScope N ps (defScope st))
    (hb : ∀ (kV doc pm : Value) (an : Option Addr) (cdv ct : Value) (us : List Value), us.length = ps.length → bindArgs (PySem.W.fnOf x qual (defArgs st) (defBody st) (defScope st) .none kV doc pm an cdv ct) ⟨us, []⟩ = pure (ps.zip us))
    (len : ∀ vs H Q E, sp vs H Q E → vs.length = ps.length)
    (hbody : ∀ (cdv : Value) (A : Around) (outer : List Env) (s : Shared) (H : Hp) (vs : List V) (Q : VK) (E : XK), Room k (A.deeper (envOfC qual (defScope st) s.heap.objs.size g cdv)) → sp vs H Q E →
      ∃ t, PSs (cxOf L2.CX0 P w K mg base N qual (defScope st) g cdv A outer s H E).nox (defBody st) t ∧ t { nx := fun _ H' => Q .non H', rt := Q } (start N vs) H) : FB P w K mg base (k + 1) g sp := by
  obtain ⟨fd, F⟩ := D
  exact ⟨fd, ps, F.ok S len hbody, F.binds hb⟩
theorem FB.r {k : Nat} {g : Addr} {sp : Sp} (F : FB P w K mg base k g sp) : FnR P w K mg base L2.CX0 k g (fun vs H Q E => sp (vs ++ []) H Q E) := by
  obtain ⟨fd, ps, h, b⟩ := F
  exact h.raw b .nil
end
/-! ### texts of inputs as keys -/
def keyT (t : List Nat) : Key := .inr (S t)
theorem keyT_inj {t u : List Nat} (h : keyT t = keyT u) : t = u := S_inj (Sum.inr.inj h)
theorem ins_nodup {n : Nat} (h : n ≤ 6) : (ins n).Nodup := by
  match n, h with
  | 0, _ => decide +kernel
  | 1, _ => decide +kernel
  | 2, _ => decide +kernel
  | 3, _ => decide +kernel
  | 4, _ => decide +kernel
  | 5, _ => decide +kernel
  | 6, _ => decide +kernel
  | n + 7, h => omega
theorem ins_len (n : Nat) : (ins n).length = 2 ^ n := strL_len [48, 49] n
def IsTabN (n : Nat) (z : List Nat) : Prop := n ≤ 6 ∧ z.length = 2 ^ n ∧ ∀ c ∈ z, c = 48 ∨ c = 49
theorem IsTabN.tab {n : Nat} {z : List Nat} (h : IsTabN n z) : IsTab z := by
  obtain ⟨h1, h2, h3⟩ := h
  refine ⟨?_, h3⟩
  rw [h2]
  match n, h1 with
  | 0, _ => decide
  | 1, _ => decide
  | 2, _ => decide
  | 3, _ => decide
  | 4, _ => decide
  | 5, _ => decide
  | 6, _ => decide
  | n + 7, h => omega
theorem IsTabN.idx {n : Nat} {z : List Nat} (h : IsTabN n z) : ((z.length : Nat) : Int) ∈ ([1, 2, 4, 8, 16, 32, 64] : List Int) ∧ ([1, 2, 4, 8, 16, 32, 64] : List Int).idxOf ((z.length : Nat) : Int) = n := by
  obtain ⟨h1, h2, h3⟩ := h
  rw [h2]
  match n, h1 with
  | 0, _ => decide
  | 1, _ => decide
  | 2, _ => decide
  | 3, _ => decide
  | 4, _ => decide
  | 5, _ => decide
  | 6, _ => decide
  | n + 7, h => omega
/-- the answers by input -/
def kvsOf (n : Nat) (z : List Nat) : List (Key × V) := ((ins n).zip z).map fun p => (keyT p.1, V.int ((p.2 : Int) - 48))
def ansOf (n : Nat) (z : List Nat) (t : List Nat) : Int := (((ins n).zip z).lookup t).elim 0 fun c => (c : Int) - 48
theorem zip_valV : ∀ {l : List (List Nat)} {z : List Nat} {t : List Nat}, l.length = z.length → t ∈ l → valV ((l.zip z).map fun p => (keyT p.1, V.int ((p.2 : Int) - 48))) (keyT t) = some (.int (((l.zip z).lookup t).elim 0 fun c => (c : Int) - 48))
  | [], _, _, _, h => by simp at h
  | a :: l, [], _, h, _ => by simp at h
  | a :: l, c :: z, t, hl, ht => by
    rw [List.zip_cons_cons, List.map_cons]
    by_cases e : a = t
    · subst e
      rw [valV_pos rfl]
      simp [List.lookup]
    · have hne : ¬ keyT a = keyT t := fun q => e (keyT_inj q)
      rw [valV_neg hne]
      have hb : (t == a) = false := beq_eq_false_iff_ne.mpr fun q => e q.symm
      rw [List.lookup, hb]
      refine zip_valV (by simpa using hl) ?_
      rcases List.mem_cons.mp ht with q | q
      · exact absurd q.symm e
      · exact q
theorem kvs_val {n : Nat} {z t : List Nat} (hz : z.length = 2 ^ n) (ht : t ∈ ins n) : valV (kvsOf n z) (keyT t) = some (.int (ansOf n z t)) := zip_valV (by rw [ins_len, hz]) ht
theorem kvs_len {n : Nat} {z : List Nat} (hz : z.length = 2 ^ n) : (kvsOf n z).length = 2 ^ n := by
  unfold kvsOf
  rw [List.length_map, List.length_zip, ins_len, hz, Nat.min_self]
theorem kvs_key {n i : Nat} {z : List Nat} {p : Key × V} (h : (kvsOf n z)[i]? = some p) : ∃ t c, (ins n)[i]? = some t ∧ z[i]? = some c ∧ p = (keyT t, V.int ((c : Int) - 48)) := by
  unfold kvsOf at h
  rw [List.getElem?_map] at h
  cases e : ((ins n).zip z)[i]? with
  | none => rw [e] at h; cases h
  | some q =>
    rw [e] at h
    obtain ⟨h1, h2⟩ := List.getElem?_zip_eq_some.mp e
    exact ⟨q.1, q.2, h1, h2, (Option.some.inj h).symm⟩
theorem kvs_keys {n : Nat} {z : List Nat} (hz : z.length = 2 ^ n) : (kvsOf n z).map (·.1) = (ins n).map keyT := by
  unfold kvsOf
  rw [List.map_map]
  have : (fun p : List Nat × Nat => keyT p.1) = keyT ∘ Prod.fst := rfl
  show ((ins n).zip z).map (fun p : List Nat × Nat => keyT p.1) = _
  rw [this, ← List.map_map, List.map_fst_zip (by rw [ins_len, hz]; exact Nat.le_refl _)]
theorem nodup_take_not {l : List (List Nat)} (hn : l.Nodup) {i : Nat} (h : i < l.length) : l[i] ∉ l.take i := by
  intro hm
  obtain ⟨j, hj, e⟩ := List.getElem_of_mem hm
  rw [List.length_take] at hj
  rw [List.getElem_take] at e
  have := (List.getElem_inj hn).mp e
  omega
theorem keys_nodup {n : Nat} (h : n ≤ 6) : ((ins n).map keyT).Nodup := by
  have := ins_nodup h
  rw [List.nodup_iff_pairwise_ne] at *
  rw [List.pairwise_map]
  exact this.imp fun hne e => hne (keyT_inj e)
theorem nokey_of : ∀ {kvs : List (Key × V)} {k : Key}, k ∉ kvs.map (·.1) → valV kvs k = none
  | [], _, _ => rfl
  | p :: r, k, h => by
    rw [valV_neg fun e => h (by rw [List.map_cons, e]; exact List.mem_cons_self)]
    exact nokey_of fun m => h (by rw [List.map_cons]; exact List.mem_cons_of_mem _ m)
/-- put one by one, all new -/
theorem put_next {kvs : List (Key × V)} (hn : (kvs.map (·.1)).Nodup) {i : Nat} (h : i < kvs.length) : putK (kvs.take i) kvs[i].1 kvs[i].2 = kvs.take (i + 1) := by
  have hk : valV (kvs.take i) kvs[i].1 = none := by
    refine nokey_of fun hm => ?_
    rw [List.map_take] at hm
    obtain ⟨j, hj, e⟩ := List.getElem_of_mem hm
    rw [List.length_take, List.length_map] at hj
    rw [List.getElem_take] at e
    have e2 : (kvs.map (·.1))[j]'(by rw [List.length_map]; omega) = (kvs.map (·.1))[i]'(by rw [List.length_map]; exact h) := by rw [e, List.getElem_map]
    have := (List.getElem_inj hn).mp e2
    omega
  rw [putK_new _ hk, take_next h]
theorem merge_self {kvs : List (Key × V)} (hn : (kvs.map (·.1)).Nodup) : mergeK [] kvs = kvs := by
  have all : ∀ (m : List (Key × V)) (acc : List (Key × V)), ((acc ++ m).map (·.1)).Nodup → mergeK acc m = acc ++ m := by
    intro m
    induction m with
    | nil => intro acc _; simp [mergeK]
    | cons p r ih =>
      intro acc hn
      have hk : valV acc p.1 = none := nokey_of fun hm => by
        rw [List.map_append, List.nodup_append] at hn
        exact hn.2.2 _ hm _ (by rw [List.map_cons]; exact List.mem_cons_self) rfl
      show mergeK (putK acc p.1 p.2) r = _
      rw [putK_new _ hk]
      have e : acc ++ p :: r = (acc ++ [p]) ++ r := by simp
      rw [e] at hn ⊢
      exact ih _ hn
  have := all kvs [] (by simpa using hn)
  simpa using this

/-! ### the instance -/
def qfs (z : List Nat) (n : Nat) (da dy : Addr) : List (Str × V) := putF "yes" (.ref dy) (putF "answer_of" (.ref da) (putF "kept_many" (.int (n : Nat)) (putF "kept_table" (.str (S z)) [])))
theorem qfs_t (z : List Nat) (n : Nat) (da dy : Addr) : (qfs z n da dy).lookup ("kept_table" : Str) = some (.str (S z)) := by
  unfold qfs
  rw [lookup_putF, if_neg (by decide +kernel), lookup_putF, if_neg (by decide +kernel), lookup_putF, if_neg (by decide +kernel), lookup_putF, if_pos rfl]
theorem qfs_m (z : List Nat) (n : Nat) (da dy : Addr) : (qfs z n da dy).lookup ("kept_many" : Str) = some (.int (n : Nat)) := by
  unfold qfs
  rw [lookup_putF, if_neg (by decide +kernel), lookup_putF, if_neg (by decide +kernel), lookup_putF, if_pos rfl]
theorem qfs_a (z : List Nat) (n : Nat) (da dy : Addr) : (qfs z n da dy).lookup ("answer_of" : Str) = some (.ref da) := by
  unfold qfs
  rw [lookup_putF, if_neg (by decide +kernel), lookup_putF, if_pos rfl]
theorem qfs_no (z : List Nat) (n : Nat) (da dy : Addr) {m : Str} (h : m ≠ "kept_table" ∧ m ≠ "kept_many" ∧ m ≠ "answer_of" ∧ m ≠ "yes") : (qfs z n da dy).lookup m = none := by
  unfold qfs
  rw [lookup_putF, if_neg h.2.2.2, lookup_putF, if_neg h.2.2.1, lookup_putF, if_neg h.2.1, lookup_putF, if_neg h.1]
  rfl
/-- a question with this table stands at q -/
def QAt (C : Addr) (H : Hp) (q : Addr) (n : Nat) (z : List Nat) : Prop := ∃ dx da dy, H q = some (.ins C dx (qfs z n da dy)) ∧ H da = some (.dK (kvsOf n z))
theorem QAt.ex {C : Addr} {Ha Hb : Hp} {q : Addr} {n : Nat} {z : List Nat} (e : Ex Ha Hb) (h : QAt C Ha q n z) : QAt C Hb q n z := by
  obtain ⟨dx, da, dy, h1, h2⟩ := h
  exact ⟨dx, da, dy, e _ _ h1, e _ _ h2⟩
/-- all but q is kept -/
def ExB (q : Addr) (H H' : Hp) : Prop := ∀ b o, b ≠ q → H b = some o → H' b = some o
theorem ExB.trans {q : Addr} {H H1 H2 : Hp} (a : ExB q H H1) (b : ExB q H1 H2) : ExB q H H2 := fun c o n h => b c o n (a c o n h)
theorem ExB.of {q : Addr} {H H1 : Hp} (a : Ex H H1) : ExB q H H1 := fun c o _ h => a c o h
theorem ExB.upd {q : Addr} {H : Hp} {o : HO} : ExB q H (L2.upd H q o) := fun c u n h => by rw [upd_ne n]; exact h
theorem ExB.refl (q : Addr) (H : Hp) : ExB q H H := fun _ _ _ h => h
section
variable {K : PySem.W.Frag} {σ : L2St} {H : Hp} {ta tv te : TE} {D : Ends} {tz : TS} {q C dx : Addr} {fs : List (Str × V)} {f : Str} {v : V} {o : HO}
theorem q_fld (hv : Ev tv σ H v) (ha : Ev ta σ H (.ref q)) (hq : H q = some (.ins C dx fs)) (cl : Cls K C) (na : NoAttr K C f) (hl : fs.length < 1000) (k : ∀ H1, Ex H H1 → tz D σ (upd H1 q (.ins C dx (putF f v fs)))) : tSeq (sFld K ta tv f) tz D σ H :=
  hv H (Ex.refl _) _ fun H1 e1 => ha H1 e1 _ fun H2 e2 => ⟨q, C, dx, fs, rfl, e2 _ _ (e1 _ _ hq), cl, na, hl, k H2 (e1.trans e2)⟩
theorem q_fldO (hv : EvO' tv σ H o) (ha : Ev ta σ H (.ref q)) (hq : H q = some (.ins C dx fs)) (cl : Cls K C) (na : NoAttr K C f) (hl : fs.length < 1000) (k : ∀ p H1, H p = none → Ex H H1 → H1 p = some o → tz D σ (upd H1 q (.ins C dx (putF f (.ref p) fs)))) : tSeq (sFld K ta tv f) tz D σ H :=
  hv H (Ex.refl _) _ fun p H1 hp e1 h1 => ha H1 e1 _ fun H2 e2 => ⟨q, C, dx, fs, rfl, e2 _ _ (e1 _ _ hq), cl, na, hl, k p H2 hp (e1.trans e2) (e2 _ _ h1)⟩
theorem s_fldO (hv : EvO' tv σ H o) (ha : Ev ta σ H (.ref q)) (hq : H q = some (.ins C dx fs)) (cl : Cls K C) (na : NoAttr K C f) (hl : fs.length < 1000) (k : ∀ p H1, H p = none → Ex H H1 → H1 p = some o → D.nx σ (upd H1 q (.ins C dx (putF f (.ref p) fs)))) : sFld K ta tv f D σ H :=
  hv H (Ex.refl _) _ fun p H1 hp e1 h1 => ha H1 e1 _ fun H2 e2 => ⟨q, C, dx, fs, rfl, e2 _ _ (e1 _ _ hq), cl, na, hl, k p H2 hp (e1.trans e2) (e2 _ _ h1)⟩
theorem ev_fld (ha : Ev ta σ H (.ref q)) (hq : H q = some (.ins C dx fs)) (cl : Cls K C) (na : NoAttr K C f) (hl : fs.lookup f = some v) : Ev (tFld K ta f) σ H v := fun H1 e Q k =>
  ha H1 e _ fun H2 e2 => ⟨q, C, dx, fs, v, rfl, e2 _ _ (e _ _ hq), cl, na, hl, k H2 e2⟩
theorem ev_dget {td ty : TE} {d : Addr} {kvs : List (Key × V)} {k : Key} (h1 : Ev td σ H (.ref d)) (h2 : Ev ty σ H (kV k)) (hd : H d = some (.dK kvs)) (hv : valV kvs k = some v) : Ev (tDGet td ty) σ H v := fun H1 e Q q =>
  h1 H1 e _ fun H2 e2 => h2 H2 (e.trans e2) _ fun H3 e3 => ⟨d, v, rfl, by
    have g := DGet.k (k := k) ((((e.trans e2).trans e3)) _ _ hd)
    rw [hv] at g
    exact g, q H3 (e2.trans e3)⟩
end
theorem putF_len (f : Str) (v : V) : ∀ fs : List (Str × V), (putF f v fs).length ≤ fs.length + 1
  | [] => Nat.le_refl _
  | (g, x) :: r => by
    show (if g = f then (g, v) :: r else (g, x) :: putF f v r).length ≤ _
    by_cases h : g = f
    · rw [if_pos h]
      simp
    · rw [if_neg h]
      have := putF_len f v r
      simp only [List.length_cons]
      omega
section
variable {P : Program} {w : World} {K : PySem.W.Frag} {mg : Str → Option Value} {base : Heap} {a : Ad}
theorem intText_bit {c : Nat} (h : c = 48 ∨ c = 49) : PySem.intText? (S [c]) = some ((c : Int) - 48) := by
  rcases h with e | e <;> subst e <;> decide +kernel
/-- the dict comprehension's loop over zip(list of inputs, table) -/
theorem eo_dc {σ : L2St} {H : Hp} {ta : TA} {tk tv : TE} {vs : List Nat} {j1 j2 n : Nat} {z : List Nat} (hn : n ≤ 6) (hz : z.length = 2 ^ n)
    (h : ∀ H1, Ex H H1 → ∀ R : List V → Hp → Prop, (∀ p H2, H1 p = none → Ex H1 H2 → H2 p = some (.lst (texts (ins n))) → R [.ref p, .str (S z)] H2) → ta σ H1 R)
    (hw : ∀ x y, wipe (((wipe σ vs).set j1 (some x)).set j2 (some y)) vs = wipe σ vs)
    (hk : ∀ x y H1, Ex H H1 → Ev tk (((wipe σ vs).set j1 (some x)).set j2 (some y)) H1 x) (hv : ∀ x c H1, (c = 48 ∨ c = 49) → Ex H H1 → Ev tv (((wipe σ vs).set j1 (some x)).set j2 (some (.str (S [c])))) H1 (.int ((c : Int) - 48))) (hc : ∀ c ∈ z, c = 48 ∨ c = 49) :
    EvO' (tDc (iZipLT K ta) (gTup K 2 (gCons (gName j1) (gCons (gName j2) gNil))) tYes tk tv vs) σ H (.dK (kvsOf n z)) := by
  intro H0 e Q q
  refine h H0 e _ fun p H1 hp e1 hx => ⟨p, texts (ins n), S z, rfl, sq_of hx, fun D hD => ?_⟩
  have hlt : (texts (ins n)).length = 2 ^ n := by
    unfold texts
    rw [List.length_map, ins_len]
  have hsz : (S z).cps.size = 2 ^ n := by
    show z.toArray.size = _
    rw [List.size_toArray, hz]
  have npD : p ≠ D := fresh_ne hx hD
  have h64 : 2 ^ n ≤ 64 := Nat.le_trans (Nat.pow_le_pow_right (by decide) hn) (by decide)
  have hnd : ((kvsOf n z).map (·.1)).Nodup := by
    rw [kvs_keys hz]
    exact keys_nodup hn
  refine ⟨fun i m H' => m = 2 ^ n - i ∧ i ≤ 2 ^ n ∧ Ex H1 H' ∧ H' D = some (.dK ((kvsOf n z).take i)), ⟨2 ^ n, rfl, Nat.zero_le _, Ex.new hD, upd_same⟩, ?_⟩
  rintro i m H' ⟨rfl, hi, z1, z2⟩
  by_cases hlt2 : i < 2 ^ n
  · right
    have hti : i < (ins n).length := by rw [ins_len]; exact hlt2
    refine ⟨⟨texts (ins n), V.str (S (ins n)[i]), sq_of (z1 _ _ hx), ?_, by rw [hsz]; exact hlt2⟩, fun H'' => i + 1 ≤ 2 ^ n ∧ Ex H1 H'' ∧ H'' D = some (.dK ((kvsOf n z).take (i + 1))), fun H'' y => ⟨2 ^ n - (i + 1), by omega, rfl, y.1, y.2.1, y.2.2⟩, ?_⟩
    · unfold texts
      rw [List.getElem?_map, List.getElem?_eq_getElem hti]
      rfl
    · rintro x H'' ⟨T, x1, c, rfl, hT, rfl, hx1, hc1⟩
      have ex1 : x1 = V.str (S (ins n)[i]) := by
        have := hx1 _ (sq_of (z1 _ _ hx))
        unfold texts at this
        rw [List.getElem?_map, List.getElem?_eq_getElem hti] at this
        exact (Option.some.inj this).symm
      subst ex1
      have hzi : z[i]? = some c := by simpa using hc1
      have hcm := hc c (List.mem_of_getElem? hzi)
      have nTD : D ≠ T := fresh_ne z2 hT
      refine ⟨T, _, rfl, st_of upd_same, rfl, _, _, rfl, _, _, rfl, rfl, hw _ _, ?_⟩
      have exT : Ex H1 (upd H' T (.tup [V.str (S (ins n)[i]), .str ⟨#[c]⟩])) := z1.trans (Ex.new hT)
      refine hk _ _ _ ((e.trans e1).trans exT) _ (Ex.refl _) _ fun H3 e3 => hv _ c _ hcm (((e.trans e1).trans exT).trans e3) _ (Ex.refl _) _ fun H4 e4 => ?_
      have hD4 : H4 D = some (.dK ((kvsOf n z).take i)) := e4 _ _ (e3 _ _ (by rw [upd_ne nTD]; exact z2))
      have hki : i < (kvsOf n z).length := by rw [kvs_len hz]; exact hlt2
      have hkv : (kvsOf n z)[i] = (keyT (ins n)[i], V.int ((c : Int) - 48)) := by
        obtain ⟨t, c', h1, h2, h3⟩ := kvs_key (List.getElem?_eq_getElem hki)
        rw [List.getElem?_eq_getElem hti] at h1
        rw [hzi] at h2
        rw [h3, ← Option.some.inj h1, ← Option.some.inj h2]
      refine ⟨_, keyT (ins n)[i], rfl, hD4, ?_, hlt2, Ex.mut ((exT.trans e3).trans e4) hD, ?_⟩
      · rw [List.length_take]
        have := szl
        omega
      · rw [upd_same, ← put_next hnd hki, hkv]
  · left
    have ei : i = 2 ^ n := by omega
    subst ei
    refine ⟨⟨texts (ins n), sq_of (z1 _ _ hx), by rw [hlt, hsz], hlt.symm⟩, q D H' (fresh_back e1 hD) (e1.trans z1) ?_⟩
    rw [z2, List.take_of_length_le (by rw [kvs_len hz]; exact Nat.le_refl _)]
/-! ### __init__ -/
abbrev s_Qinit : Stmt := inClass (topS 28) 0
abbrev N_Qinit : List Str := ["self", "table", "text", "sign"]
theorem sc_Qinit : FnScope N_Qinit ["self", "table"] (defScope s_Qinit) := ⟨rfl, rfl, rfl, by decide +kernel, rfl, by decide +kernel, by decide +kernel⟩
def spInit (C : Addr) : Sp := fun vs H Q _ => ∃ (q dx : Addr) (n : Nat) (z : List Nat), vs = [.ref q, .str (S z)] ∧ IsTabN n z ∧ H q = some (.ins C dx []) ∧ ∀ H', ExB q H H' → QAt C H' q n z → Q .non H'
theorem fb_init (T : Txt K mg a) (D : MF K a.gInit "__init__" "Question.__init__" s_Qinit) (C_is_table : Cal P w K mg base 1 "is_table" spIsTable []) (C_inputs : Cal P w K mg base 3 "inputs" spInputs []) : FB P w K mg base 4 a.gInit (spInit a.cQ) := by
  refine mkFB D sc_Qinit (fun _ _ _ _ _ _ us hl => match us, hl with | [_, _], _ => rfl) (fun vs H Q E h => ?_) (fun cdv A outer s H vs Q E hr h => ?_)
  · obtain ⟨_, _, _, _, rfl, _⟩ := h
    rfl
  · obtain ⟨q, dx, n, z, rfl, hz, hq, k⟩ := h
    have hu := hu_of hr
    have hn6 := hz.1
    have h64 := hz.tab.le
    refine ⟨_, (pss_cons (ps_if (pt_not (pt_val (pe_c C_is_table hr (by decide) rfl (pa_cons (pv 1) pa_nil)))) (pss_one ps_never) pss_nil)
    (pss_cons (ps_fld (pv 0) (pv 1) rfl)
    (pss_cons (ps_fld (pv 0) (pe_bm PySem.F.plainAttrs_tuple PySem.F.slot_tuple_index PySem.F.type_tuple_index mt_tup_indexI (pe_gc rfl T.g_SIZES) (pa_cons (pe_callB (call_len_str) (by rfl) T.len_ (by decide +kernel) (pa_cons (pv 1) pa_nil)) pa_nil)) rfl)
    (pss_cons (ps_fld (pv 0) (pe_dc (own := [("text", 2), ("sign", 3)]) (g := gTup _ 2 (gCons (gName 2) (gCons (gName 3) (gNil)))) (tt := tYes) rfl sc_Qinit.nd (pi_zipLT (by rfl) T.zip_ (pa_cons (pe_c C_inputs hr (by decide) rfl (pa_cons (pe_fldK (K := K) (pv 0) (by rfl)) pa_nil)) (pa_cons (pv 1) pa_nil))) (blkOk_by (own := [("text", 2), ("sign", 3)]) (N := N_Qinit) (sc := defScope s_Qinit) (by decide +kernel)) (fun _ _ _ _ _ => (pg_tup rfl (pgs_cons (pg_name (i := 2) sc_Qinit.nd rfl (Or.inl rfl)) (pgs_cons (pg_name (i := 3) sc_Qinit.nd rfl (Or.inl rfl)) pgs_nil)))) (fun _ _ _ _ _ => pts_nil) (fun _ _ _ _ _ => (pv 2)) (fun _ _ _ _ _ => (pe_callTy (call_int_str) (by rfl) T.int_ (by decide +kernel) (pa_cons (pv 3) pa_nil)))) rfl)
    (pss_one (ps_fld (pv 0) (pe_lc (own := [("text", 2)]) (g := (gName 2)) rfl sc_Qinit.nd (pi_listK (K := K) (pe_c C_inputs hr (by decide) rfl (pa_cons (pe_fldK (K := K) (pv 0) (by rfl)) pa_nil))) (blkOk_by (own := [("text", 2)]) (N := N_Qinit) (sc := defScope s_Qinit) (by decide +kernel)) (fun _ _ _ _ _ => (pg_name (i := 2) sc_Qinit.nd rfl (Or.inl rfl))) (fun _ _ _ _ _ => pts_one (pt_cmpR op_eq (pe_dget (by exact hu) (pe_fldK (K := K) (pv 0) (by rfl)) (pv 2) (fun _ _ => rfl)) pe_int (nomark _))) (fun _ _ _ _ _ => (pv 2))) rfl)))))), ?_⟩
    refine q_if (b := !true) (et_not (et_B (ev_call (ea_cons (ev_var rfl) ea_nil) fun H1 e Q q E => ⟨z, rfl, hz.tab, q⟩))) (fun hb => by cases hb) fun _ H1 e1 => ?_
    refine q_fld (v := .str (S z)) (ev_var rfl) (ev_var rfl) (e1 _ _ hq) T.clsQ T.naT (by show 0 < 1000; decide) fun H2 e2 => ?_
    have f2 := upd_same (H := H2) (a := q) (o := .ins a.cQ dx (putF "kept_table" (.str (S z)) []))
    have x2 : ExB q H (upd H2 q (.ins a.cQ dx (putF "kept_table" (.str (S z)) []))) := ((ExB.of e1).trans (ExB.of e2)).trans ExB.upd
    generalize upd H2 q (.ins a.cQ dx (putF "kept_table" (.str (S z)) [])) = H3 at f2 x2 ⊢
    refine q_fld (v := .int (n : Nat)) (fun Ha ea Q' q' => ⟨.inr (.inl ⟨rfl, T.szo⟩), ⟨_, rfl, S z, rfl, by rw [S_len]; exact szle (by omega), a.sizes, [1, 2, 4, 8, 16, 32, 64], ((S z).length : Nat), rfl, rfl, T.sz Ha, ?_⟩⟩) (ev_var rfl) f2 T.clsQ T.naM (Nat.lt_of_le_of_lt (putF_len _ _ _) (by decide)) fun H4 e4 => ?_
    · rw [S_len]
      refine ⟨hz.idx.1, ?_⟩
      rw [hz.idx.2]
      exact q' Ha (Ex.refl _)
    have f4 := upd_same (H := H4) (a := q) (o := .ins a.cQ dx (putF "kept_many" (.int (n : Nat)) (putF "kept_table" (.str (S z)) [])))
    have x4 : ExB q H (upd H4 q (.ins a.cQ dx (putF "kept_many" (.int (n : Nat)) (putF "kept_table" (.str (S z)) [])))) := (x2.trans (ExB.of e4)).trans ExB.upd
    generalize upd H4 q (.ins a.cQ dx (putF "kept_many" (.int (n : Nat)) (putF "kept_table" (.str (S z)) []))) = H5 at f4 x4 ⊢
    have lkM : (putF "kept_many" (.int (n : Nat)) (putF "kept_table" (.str (S z)) [])).lookup ("kept_many" : Str) = some (.int (n : Nat)) := by rw [lookup_putF, if_pos rfl]
    refine q_fldO (o := .dK (kvsOf n z)) ?_ (ev_var rfl) f4 T.clsQ T.naA (by
        have h1 := putF_len "kept_many" (.int (n : Nat)) (putF "kept_table" (.str (S z)) [])
        have h2 := putF_len "kept_table" (.str (S z)) []
        simp only [List.length_nil] at h2
        omega) fun da H6 hda e6 hda6 => ?_
    · refine eo_dc hn6 hz.2.1 (fun H1 e R r => ?_) (fun x y => rfl) (fun x y H1 _ => ev_var rfl) (fun x c H1 hc _ => ev_cb (ea_cons (ev_var rfl) ea_nil) fun H2 _ Q' q' => ⟨S [c], _, rfl, intText_bit hc, by show 1 ≤ 640; decide, q' H2 (Ex.refl _)⟩) hz.2.2
      refine el_call (sp := spInputs) (E := L2.E0) (xs := texts (ins n)) (vs := [.int (n : Nat)]) (dvs := []) (ea_cons (ev_fld (ev_var rfl) (e _ _ f4) T.clsQ T.naM lkM) ea_nil) (fun H2 e Q q E => ⟨n, rfl, hn6, q⟩) H1 (Ex.refl _) _ fun p H2 hp e2 h2 => ?_
      exact ⟨_, rfl, r p H2 hp e2 h2⟩
    have nqa : q ≠ da := fresh_ne f4 hda
    have f6 := upd_same (H := H6) (a := q) (o := .ins a.cQ dx (putF "answer_of" (.ref da) (putF "kept_many" (.int (n : Nat)) (putF "kept_table" (.str (S z)) []))))
    have x6 : ExB q H (upd H6 q (.ins a.cQ dx (putF "answer_of" (.ref da) (putF "kept_many" (.int (n : Nat)) (putF "kept_table" (.str (S z)) []))))) := (x4.trans (ExB.of e6)).trans ExB.upd
    have a6 : upd H6 q (.ins a.cQ dx (putF "answer_of" (.ref da) (putF "kept_many" (.int (n : Nat)) (putF "kept_table" (.str (S z)) [])))) da = some (.dK (kvsOf n z)) := by
      rw [upd_ne nqa.symm]
      exact hda6
    generalize upd H6 q (.ins a.cQ dx (putF "answer_of" (.ref da) (putF "kept_many" (.int (n : Nat)) (putF "kept_table" (.str (S z)) [])))) = H7 at f6 x6 a6 ⊢
    have lkM2 : (putF "answer_of" (.ref da) (putF "kept_many" (.int (n : Nat)) (putF "kept_table" (.str (S z)) []))).lookup ("kept_many" : Str) = some (.int (n : Nat)) := by rw [lookup_putF, if_neg (by decide +kernel), lookup_putF, if_pos rfl]
    have lkA2 : (putF "answer_of" (.ref da) (putF "kept_many" (.int (n : Nat)) (putF "kept_table" (.str (S z)) []))).lookup ("answer_of" : Str) = some (.ref da) := by rw [lookup_putF, if_pos rfl]
    refine s_fldO (o := .lst (((ins n).filter fun t => decide (V.int (ansOf n z t) = V.int 1)).map fun t => V.str (S t))) ?_ (ev_var rfl) f6 T.clsQ T.naY (by
        have h1 := putF_len "answer_of" (.ref da) (putF "kept_many" (.int (n : Nat)) (putF "kept_table" (.str (S z)) []))
        have h2 := putF_len "kept_many" (.int (n : Nat)) (putF "kept_table" (.str (S z)) [])
        have h3 := putF_len "kept_table" (.str (S z)) []
        simp only [List.length_nil] at h3
        omega) fun dy H8 hdy e8 _ => k _ ((x6.trans (ExB.of e8)).trans ExB.upd) ⟨dx, da, dy, upd_same, by
          rw [upd_ne nqa.symm]
          exact e8 _ _ a6⟩
    refine el_cmp (en := fun t => V.str (S t)) (es_new (xs := texts (ins n)) (el_call (ea_cons (ev_fld (ev_var rfl) f6 T.clsQ T.naM lkM2) ea_nil) fun H2 e Q q E => ⟨n, rfl, hn6, q⟩)) (by
        rw [ins_len]
        exact Nat.le_trans (Nat.pow_le_pow_right (by decide) hn6) (by decide)) (fun x => rfl) (fun t ht H1 e => et_test (ev_op (ev_dget (k := keyT t) (ev_fld (ev_var rfl) (e _ _ f6) T.clsQ T.naA lkA2) (ev_var rfl) (e _ _ a6) (kvs_val hz.2.1 ht)) ev_c (rv_eq rfl))) (fun t ht H1 e _ => ev_var rfl)
end
end LX


set_option Elab.async false
set_option linter.all false
set_option maxRecDepth 100000
set_option maxHeartbeats 4000000
/-! Question: many, ==, (..), reordered, at_least. -/
namespace LX
open PySem PySem.Spec PyProof.Rows L2 TL Evl SX C8
section
variable {K : PySem.W.Frag} {σ : L2St} {H : Hp} {ta te to : TE} {D : Ends} {tz tu : TS}
theorem joinL_nil : ∀ l : List (List Nat), joinL [] l = l.flatten
  | [] => rfl
  | [p] => by simp [joinL]
  | p :: q :: r => by
    show p ++ ([] ++ joinL [] (q :: r)) = _
    rw [joinL_nil (q :: r)]
    simp
theorem join_signs (cs : List Nat) : Txt.join (S []) (cs.map fun c => S [c]) = S cs := by
  apply ext_tl
  rw [TL.join_eq, tl_join]
  show joinL [] ((cs.map fun c => S [c]).map tl) = cs
  rw [joinL_nil, List.map_map]
  induction cs with
  | nil => rfl
  | cons c r ih =>
    rw [List.map_cons, List.flatten_cons, ih]
    rfl
theorem sum_ones : ∀ cs : List Nat, ((cs.map fun c => S [c]).map (·.length)).sum = cs.length
  | [] => rfl
  | c :: r => by
    rw [List.map_cons, List.map_cons, List.sum_cons, sum_ones r, List.length_cons]
    show 1 + r.length = _
    omega
/-- ''.join(signs) -/
theorem ev_joinC {cs : List Nat} (h : EvL te σ H (cs.map fun c => .str (S [c]))) (hz : cs.length ≤ 100000) :
    Ev (tM1 (fun x xs H Q => ∃ a p, ∃ ys : List Str, x = .str a ∧ xs = [.ref p] ∧ (SqL K H p (ys.map V.str) ∨ SqT K H p (ys.map V.str)) ∧ (ys.map (·.length)).sum + ys.length * a.length ≤ 16777216 ∧ Q (.str (Txt.join a ys)) H) (tC (.str (S []))) te) σ H (.str (S cs)) := fun H1 e Q q =>
  ⟨⟨_, rfl⟩, h H1 e _ fun p H2 _ e2 hp => ⟨S [], p, cs.map fun c => S [c], rfl, rfl, .inl (sq_of (by rw [hp, List.map_map]; rfl)), by
    rw [sum_ones]
    show cs.length + _ * 0 ≤ _
    omega, by
    rw [join_signs]
    exact q H2 e2⟩⟩
theorem ev_joinT {cs : List Nat} {p : Addr} (h : Ev te σ H (.ref p)) (hp : H p = some (.lst (cs.map fun c => V.str (S [c])))) (hz : cs.length ≤ 100000) :
    Ev (tM1 (fun x xs H Q => ∃ a p, ∃ ys : List Str, x = .str a ∧ xs = [.ref p] ∧ (SqL K H p (ys.map V.str) ∨ SqT K H p (ys.map V.str)) ∧ (ys.map (·.length)).sum + ys.length * a.length ≤ 16777216 ∧ Q (.str (Txt.join a ys)) H) (tC (.str (S []))) te) σ H (.str (S cs)) := fun H1 e Q q =>
  ⟨⟨_, rfl⟩, h H1 e _ fun H2 e2 => ⟨S [], p, cs.map fun c => S [c], rfl, rfl, .inl (sq_of (by rw [e2 _ _ (e _ _ hp), List.map_map]; rfl)), by
    rw [sum_ones]
    show cs.length + _ * 0 ≤ _
    omega, by
    rw [join_signs]
    exact q H2 e2⟩⟩
/-- for i, x in enumerate(a list that stands) -/
theorem q_forEnum {te : TE} {p : Addr} {xs : List V} {j1 j2 : Nat} (h : Ev te σ H (.ref p)) (hx : SqL K H p xs) (Pv : Nat → L2St → Hp → Prop) (h0 : ∀ H1, Ex H H1 → Pv 0 σ H1) (hl : ∀ i σ' H', i ≤ xs.length → Pv i σ' H' → SqL K H' p xs)
    (hs : ∀ i x σ' H' H2, xs[i]? = some x → Pv i σ' H' → Ex H' H2 → tu { D with nx := Pv (i + 1), ct := Pv (i + 1), bk := tz D } ((σ'.set j1 (some (.int (i : Nat)))).set j2 (some x)) H2) (hd : ∀ σ' H', Pv xs.length σ' H' → tz D σ' H') :
    tSeq (tFor (iEnum K (tCons te tNil)) (gTup K 2 (gCons (gName j1) (gCons (gName j2) gNil))) tu) tz D σ H :=
  h H (Ex.refl _) _ fun H1 e1 => ⟨p, xs, rfl, ex_l e1 hx, for_it (D := { D with nx := tz D }) walk_enum Pv (h0 H1 e1) hl (fun i y σ' Ha Hb hi q z => by
    obtain ⟨T, v, x, rfl, hT, rfl, hv, hx'⟩ := z
    cases Option.some.inj hv
    exact ⟨T, _, rfl, st_of upd_same, rfl, _, _, rfl, _, _, rfl, rfl, hs i x σ' Ha _ hx' q (Ex.new hT)⟩) hd⟩
def EvQ (C : Addr) (te : TE) (σ : L2St) (H : Hp) (n : Nat) (z : List Nat) : Prop := ∀ H1, Ex H H1 → ∀ Q : VK, (∀ x H2, H1 x = none → Ex H1 H2 → QAt C H2 x n z → Q (.ref x) H2) → te σ H1 Q
theorem ev_mkQ {C : Addr} {n : Nat} {z : List Nat} {t : TA} {E : XK} (h : EvA t σ H [.str (S z)]) (hz : IsTabN n z) : EvQ C (tMake C (spInit C) [] E t) σ H n z := fun H1 e Q q =>
  h H1 e _ fun H2 e2 x dx hx hdx hne => ⟨x, dx, n, z, rfl, hz, upd_same, fun H' xb qa => ⟨rfl, q x H' (fresh_back e2 hx) (fun b o hb => by
    have hb2 := e2 _ _ hb
    have nx := fresh_ne hb2 hx
    refine xb b o nx ?_
    rw [upd_ne nx, upd_ne (fresh_ne hb2 hdx)]
    exact hb2) qa⟩⟩
end
section
variable {P : Program} {w : World} {K : PySem.W.Frag} {mg : Str → Option Value} {base : Heap} {a : Ad}
theorem mak_Q (T : Txt K mg a) (F : FB P w K mg base 4 a.gInit (spInit a.cQ)) : Mak P w K mg base 4 "Question" a.cQ (spInit a.cQ) [] := by
  obtain ⟨fd, ps, h, b⟩ := F
  obtain ⟨u, hu, e⟩ := T.g_Question
  cases (show u = Value.ref a.cQ from e)
  exact ⟨a.gInit, fd, ps, [], T.mkQ, h, hu, b, .nil⟩
/-! ### many -/
abbrev s_Qmany : Stmt := inClass (topS 28) 2
abbrev N_Qmany : List Str := ["self"]
theorem sc_Qmany : FnScope N_Qmany ["self"] (defScope s_Qmany) := ⟨rfl, rfl, rfl, by decide +kernel, rfl, by decide +kernel, by decide +kernel⟩
def spMany (C : Addr) : Sp := fun vs H Q _ => ∃ (q : Addr) (n : Nat) (z : List Nat), vs = [.ref q] ∧ QAt C H q n z ∧ RetV (.int (n : Nat)) H Q
theorem fb_many (T : Txt K mg a) (D : MF K a.gMany "many" "Question.many" s_Qmany) : FB P w K mg base 1 a.gMany (spMany a.cQ) := by
  refine mkFB D sc_Qmany (fun _ _ _ _ _ _ us hl => match us, hl with | [_], _ => rfl) (fun vs H Q E h => ?_) (fun cdv A outer s H vs Q E hr h => ?_)
  · obtain ⟨_, _, _, rfl, _⟩ := h
    rfl
  · obtain ⟨q, n, z, rfl, ⟨dx, da, dy, h1, h2⟩, k⟩ := h
    refine ⟨_, (pss_one (ps_ret (pe_fldK (K := K) (pv 0) (by rfl)))), ?_⟩
    exact s_ret (ev_fld (ev_var rfl) h1 T.clsQ T.naM (qfs_m _ _ _ _)) k
/-! ### == -/
abbrev s_Qeq : Stmt := inClass (topS 28) 9
abbrev N_Qeq : List Str := ["self", "other"]
theorem sc_Qeq : FnScope N_Qeq ["self", "other"] (defScope s_Qeq) := ⟨rfl, rfl, rfl, by decide +kernel, rfl, by decide +kernel, by decide +kernel⟩
def spEq (C : Addr) : Sp := fun vs H Q _ => ∃ (q r : Addr) (n m : Nat) (y z : List Nat), vs = [.ref q, .ref r] ∧ QAt C H q n y ∧ QAt C H r m z ∧ RetV (.bl (decide (y = z))) H Q
theorem fb_eq (T : Txt K mg a) (D : MF K a.gEq "__eq__" "Question.__eq__" s_Qeq) : FB P w K mg base 1 a.gEq (spEq a.cQ) := by
  refine mkFB D sc_Qeq (fun _ _ _ _ _ _ us hl => match us, hl with | [_, _], _ => rfl) (fun vs H Q E h => ?_) (fun cdv A outer s H vs Q E hr h => ?_)
  · obtain ⟨_, _, _, _, _, _, rfl, _⟩ := h
    rfl
  · obtain ⟨q, r, n, m, y, z, rfl, ⟨dx, da, dy, h1, h2⟩, ⟨dx', da', dy', h1', h2'⟩, k⟩ := h
    refine ⟨_, (pss_one (ps_ret (pe_and (pe_callB (call_isC T.isQ) (by rfl) T.isinstance_ (by decide +kernel) (pa_cons (pv 1) (pa_cons (pe_gc rfl T.g_Question) pa_nil))) (pe_one (pe_cmpR op_eq (pe_fldK (K := K) (pv 0) (by rfl)) (pe_fldK (K := K) (pv 1) (by rfl)) (nomark _)))))), ?_⟩
    refine s_ret (v := .bl (true && decide (V.str (S y) = V.str (S z)))) (ev_andV (ev_cb (ea_cons (ev_var rfl) (ea_cons ev_c ea_nil)) fun H1 e Q q => ⟨r, dx', _, rfl, e _ _ h1', q H1 (Ex.refl _)⟩) fun _ =>
      ev_op (ev_fld (ev_var rfl) h1 T.clsQ T.naT (qfs_t _ _ _ _)) (ev_fld (ev_var rfl) h1' T.clsQ T.naT (qfs_t _ _ _ _)) (rv_eq rfl)) ?_
    have e : decide (V.str (S y) = V.str (S z)) = decide (y = z) := by
      by_cases h : y = z
      · rw [decide_eq_true h, h]
        exact decide_eq_true rfl
      · rw [decide_eq_false h]
        exact decide_eq_false fun q => h (S_inj (V.str.inj q))
    rw [Bool.true_and, e]
    exact k
/-! ### question(text) -/
abbrev s_Qcall : Stmt := inClass (topS 28) 10
abbrev N_Qcall : List Str := ["self", "text"]
theorem sc_Qcall : FnScope N_Qcall ["self", "text"] (defScope s_Qcall) := ⟨rfl, rfl, rfl, by decide +kernel, rfl, by decide +kernel, by decide +kernel⟩
theorem ins_isIn {n : Nat} (hn : n ≤ 6) {t : List Nat} (h : t ∈ ins n) : IsIn t ∧ t.length = n := by
  obtain ⟨h1, h2⟩ := mem_strL.mp h
  refine ⟨⟨by omega, fun c hc => ?_⟩, h1⟩
  have := h2 c hc
  simpa using this
def spCall (C : Addr) : Sp := fun vs H Q _ => ∃ (q : Addr) (n : Nat) (z t : List Nat), vs = [.ref q, .str (S t)] ∧ QAt C H q n z ∧ IsTabN n z ∧ t ∈ ins n ∧ RetV (.int (ansOf n z t)) H Q
theorem fb_call (T : Txt K mg a) (D : MF K a.gCall "__call__" "Question.__call__" s_Qcall) (C_need_input : Cal P w K mg base 3 "need_input" spNeedInput []) : FB P w K mg base 4 a.gCall (spCall a.cQ) := by
  refine mkFB D sc_Qcall (fun _ _ _ _ _ _ us hl => match us, hl with | [_, _], _ => rfl) (fun vs H Q E h => ?_) (fun cdv A outer s H vs Q E hr h => ?_)
  · obtain ⟨_, _, _, _, rfl, _⟩ := h
    rfl
  · obtain ⟨q, n, z, t, rfl, ⟨dx, da, dy, h1, h2⟩, hz, ht, k⟩ := h
    have hu := hu_of hr
    obtain ⟨hi, hl⟩ := ins_isIn hz.1 ht
    refine ⟨_, (pss_cons (ps_expr (pe_c C_need_input hr (by decide) rfl (pa_cons (pv 1) (pa_cons (pe_fldK (K := K) (pv 0) (by rfl)) pa_nil))))
    (pss_one (ps_ret (pe_dget (by exact hu) (pe_fldK (K := K) (pv 0) (by rfl)) (pv 1) (fun _ _ => rfl))))), ?_⟩
    refine q_drop (ev_call (vs := [.str (S t), .int (n : Nat)]) (ea_cons (ev_var rfl) (ea_cons (ev_fld (ev_var rfl) h1 T.clsQ T.naM (qfs_m _ _ _ _)) ea_nil)) fun H1 e Q q E => ⟨t, by rw [hl]; rfl, hi, q⟩) fun H1 e1 => ?_
    exact s_ret (ev_dget (k := keyT t) (ev_fld (ev_var rfl) (e1 _ _ h1) T.clsQ T.naA (qfs_a _ _ _ _)) (ev_var rfl) (e1 _ _ h2) (kvs_val hz.2.1 ht)) fun H2 e2 => k H2 (e1.trans e2)
/-! ### is_block -/
abbrev s_is_block : Stmt := topS 19
abbrev N_is_block : List Str := ["value", "many", "met", "position"]
theorem sc_is_block : FnScope N_is_block ["value", "many"] (defScope s_is_block) := ⟨rfl, rfl, rfl, by decide +kernel, rfl, by decide +kernel, by decide +kernel⟩
def natsV (o : List Nat) : List V := o.map fun i => V.int (i : Nat)
theorem eqV_nat (i j : Nat) : eqV (.int (i : Nat)) (.int (j : Nat)) = decide (i = j) := by
  show ((i : Int) == (j : Int)) = decide (i = j)
  by_cases h : i = j
  · rw [h, decide_eq_true rfl]
    exact beq_self_eq_true _
  · rw [decide_eq_false h]
    exact beq_eq_false_iff_ne.mpr fun q => h (Int.ofNat.inj q)
theorem inV_nat (i : Nat) : ∀ l : List Nat, inV (.int (i : Nat)) (natsV l) = decide (i ∈ l)
  | [] => rfl
  | j :: l => by
    show (eqV (.int (j : Nat)) (.int (i : Nat)) || inV (.int (i : Nat)) (natsV l)) = _
    rw [eqV_nat, inV_nat i l]
    by_cases h : j = i
    · subst h
      simp
    · have h' : ¬ i = j := fun q => h q.symm
      simp [h, h']
theorem flat_nats : ∀ l : List Nat, (natsV l).all flatV = true
  | [] => rfl
  | _ :: l => flat_nats l
theorem take_not {o : List Nat} (hn : o.Nodup) {i x : Nat} (h : o[i]? = some x) : x ∉ o.take i := by
  intro hm
  obtain ⟨hi, e⟩ := List.getElem?_eq_some_iff.mp h
  obtain ⟨j, hj, e2⟩ := List.getElem_of_mem hm
  rw [List.length_take] at hj
  rw [List.getElem_take] at e2
  have := (List.getElem_inj hn).mp (e2.trans e.symm)
  omega
def spIsBlock : Sp := fun vs H Q _ => ∃ (p : Addr) (o : List Nat) (n : Nat), vs = [.ref p, .int (n : Nat)] ∧ H p = some (.lst (natsV o)) ∧ o.Nodup ∧ (∀ i ∈ o, i < n) ∧ o.length ≤ 6 ∧ RetV (.bl true) H Q
theorem nats_get {o : List Nat} {i : Nat} {x : V} (h : (natsV o)[i]? = some x) : ∃ j, o[i]? = some j ∧ x = .int (j : Nat) := by
  unfold natsV at h
  rw [List.getElem?_map] at h
  cases e : o[i]? with
  | none => rw [e] at h; cases h
  | some j =>
    rw [e] at h
    exact ⟨j, rfl, (Option.some.inj h).symm⟩
theorem nats_take {o : List Nat} {i j : Nat} (h : o[i]? = some j) : natsV (o.take i) ++ [V.int (j : Nat)] = natsV (o.take (i + 1)) := by
  unfold natsV
  rw [List.take_succ, h, List.map_append]
  rfl
theorem cal_is_block (T : Txt K mg a) (D : DF K mg "is_block" s_is_block) (C_is_integer : Cal P w K mg base 1 "is_integer" spIsInteger []) : Cal P w K mg base 2 "is_block" spIsBlock [] := by
  refine mkCal D sc_is_block (fun _ _ _ _ _ _ us hl => match us, hl with | [_, _], _ => rfl) (fun vs H Q E h => ?_) (fun f cdv A outer s H vs Q E hr h => ?_)
  · obtain ⟨_, _, _, rfl, _⟩ := h
    rfl
  · obtain ⟨p, o, n, rfl, hp, hnd, hlt, hl6, k⟩ := h
    have hu := hu_of hr
    refine ⟨_, (pss_cons (ps_if (pt_not (pt_val (pe_callB (call_isiT) (by rfl) T.isinstance_ (by decide +kernel) (pa_cons (pv 0) (pa_cons (pe_tup (pa_cons (pe_bltn (v := .ty "list") (by rfl) T.list_ (by decide +kernel) rfl) (pa_cons (pe_bltn (v := .ty "tuple") (by rfl) T.tuple_ (by decide +kernel) rfl) pa_nil))) pa_nil))))) (pss_one (ps_ret pe_bl)) pss_nil)
    (pss_cons (ps_set (i := 2) sc_is_block.nd rfl (Or.inl rfl) (pe_lst pa_nil))
    (pss_cons (ps_for PassesOwn.never rfl (pi_listK (K := K) (pv 0)) (pg_name (i := 3) sc_is_block.nd rfl (Or.inl rfl)) (pss_cons (ps_if (PW.pt (pw_or (pt_not (pt_val (pe_c C_is_integer hr (by decide) rfl (pa_cons (pv 3) (pa_cons pe_int (pa_cons (pe_op op_sub (pv 1) pe_int) pa_nil)))))) (pw_or1 (pt_cmpR (op_in_seqK (K := K)) (pv 3) (pv 2) rfl)))) (pss_one (ps_ret pe_bl)) pss_nil)
    (pss_one (ps_expr (pe_bm PySem.F.plainAttrs_list PySem.F.slot_list_append PySem.F.type_list_append mt_append (pv 2) (pa_cons (pv 3) pa_nil))))))
    (pss_one (ps_ret pe_bl))))), ?_⟩
    refine q_if (b := !true) (et_not (et_B (fun H1 e Q q => ⟨_, rfl, ⟨by show 2 ≤ sizeLine; decide, fun tp htp => ⟨.ref p, tp, [.ty "list", .ty "tuple"], .type "list", [.type "list", .type "tuple"], true, rfl, upd_same, .cons (.ty _) (.cons (.ty _) .nil),
      .base (.lst (xs := natsV o) (by rw [upd_ne (fresh_ne (e _ _ hp) htp)]; exact e _ _ hp)), kitAny_cons (b := true) (kit_ty (by decide +kernel)) (fun h => by cases h) (fun _ => rfl), q _ (Ex.new htp)⟩⟩⟩))) (fun hb => by cases hb) fun _ H1 e1 => ?_
    refine q_asgL (xs := []) (el_lst ea_nil (by decide)) fun m H2 hm e2 h2 => ?_
    refine q_forLn (xs := natsV o) (ev_var rfl) (sq_of (e2 _ _ (e1 _ _ hp))) (fun i σ' H' => ∃ y, σ' = [some (.ref p), some (.int (n : Nat)), some (.ref m), y] ∧ Ex H1 H' ∧ H' m = some (.lst (natsV (o.take i)))) (fun H3 e3 => ⟨none, rfl, e2.trans e3, e3 _ _ h2⟩) (fun i σ' H' _ ⟨y, _, e, _⟩ => sq_of (e _ _ (e1 _ _ hp))) (fun i x σ' H' hx z => ?_) (fun σ' H' z => ?_)
    · obtain ⟨y, rfl, e, hm'⟩ := z
      obtain ⟨j, hj, rfl⟩ := nats_get hx
      have hjn := hlt j (List.mem_of_getElem? hj)
      have hni := take_not hnd hj
      refine q_if (b := !(decide ((0 : Int) ≤ (j : Nat)) && decide ((j : Int) ≤ (n : Int) - 1)) || inV (.int (j : Nat)) (natsV (o.take i))) (et_or (et_not (et_B (ev_call (ea_cons (ev_var rfl) (ea_cons ev_c (ea_cons (ev_op (ev_var rfl) ev_c rv_I0) ea_nil))) fun H1 e Q q E => ⟨_, _, _, rfl, q⟩))) fun _ =>
        et_test (ev_op (ev_var rfl) (ev_var rfl) (rv_isL (sq_of hm') rfl (flat_nats _)))) (fun hb => ?_) fun _ H3 e3 => ?_
      · rw [inV_nat, decide_eq_false hni, decide_eq_true (by omega), decide_eq_true (by omega)] at hb
        cases hb
      · refine s_app (e3 _ _ hm') (ev_var rfl) (ev_var rfl) (by rw [natsV, List.length_map, List.length_take]; omega) fun H4 e4 => ⟨_, rfl, Ex.mut ((e.trans e3).trans e4) (fresh_back (Ex.refl _) hm), ?_⟩
        rw [upd_same, nats_take hj]
    · obtain ⟨y, rfl, e, hm'⟩ := z
      exact s_ret ev_c fun H3 e3 => k H3 ((e1.trans e).trans e3)
end
end LX


set_option Elab.async false
set_option linter.all false
set_option maxRecDepth 100000
set_option maxHeartbeats 4000000
/-! Question.reordered, Question.at_least. -/
namespace LX
open PySem PySem.Spec PyProof.Rows L2 TL Evl SX C8
theorem lookup_zip : ∀ {l : List (List Nat)} {z : List Nat} {i : Nat} (hn : l.Nodup) (hi : i < l.length) (hz : i < z.length), (l.zip z).lookup l[i] = some z[i]
  | a :: l, c :: z, 0, _, _, _ => by simp [List.lookup]
  | a :: l, c :: z, i + 1, hn, hi, hz => by
    obtain ⟨h1, h2⟩ := List.nodup_cons.mp hn
    have hi' : i < l.length := by simpa using hi
    have hz' : i < z.length := by simpa using hz
    have hne : (l[i] == a) = false := beq_eq_false_iff_ne.mpr fun e => h1 (e ▸ List.getElem_mem hi')
    show ((a, c) :: l.zip z).lookup l[i] = some z[i]
    rw [List.lookup, hne]
    exact lookup_zip h2 hi' hz'
  | [], _, _, _, hi, _ => by simp at hi
  | _ :: _, [], _, _, _, hz => by simp at hz
theorem ans_at {n : Nat} {z : List Nat} (h : IsTabN n z) {i : Nat} (hi : i < (ins n).length) (hz : i < z.length) : ansOf n z (ins n)[i] = (z[i] : Int) - 48 := by
  unfold ansOf
  rw [lookup_zip (ins_nodup h.1) hi hz]
  rfl
theorem ans_bit {n : Nat} {z : List Nat} (h : IsTabN n z) {t : List Nat} (ht : t ∈ ins n) : ansOf n z t = 0 ∨ ansOf n z t = 1 := by
  obtain ⟨i, hi, rfl⟩ := List.getElem_of_mem ht
  have hz : i < z.length := by
    rw [h.2.1, ← ins_len n]
    exact hi
  rw [ans_at h hi hz]
  rcases h.2.2 _ (List.getElem_mem hz) with e | e <;> rw [e] <;> simp
theorem ans_tab {n : Nat} {z : List Nat} (h : IsTabN n z) : z = (ins n).map fun t => 48 + (ansOf n z t).toNat := by
  have hl : z.length = (ins n).length := by rw [h.2.1, ins_len]
  refine List.ext_getElem (by rw [List.length_map, hl]) fun i h1 h2 => ?_
  rw [List.getElem_map, ans_at h (by omega) h1]
  rcases h.2.2 _ (List.getElem_mem h1) with e | e <;> rw [e] <;> rfl
abbrev reoT (n : Nat) (z o : List Nat) : List Nat := reoL n (ansOf n z) o
theorem reo_tab {n : Nat} {z o : List Nat} (h : IsTabN n z) (h2 : 2 ≤ n) (h5 : n ≤ 5) (ho : o ∈ perms n) : IsTabN n (reoT n z o) := by
  refine ⟨h.1, by rw [reoT, reoL, List.length_map, ins_len], fun c hc => ?_⟩
  obtain ⟨t, ht, rfl⟩ := List.mem_map.mp hc
  rcases ans_bit h ((perm_fact h2 h5 ho).2.2.2 t ht).2 with e | e <;> rw [e] <;> decide
section
variable {K : PySem.W.Frag} {σ : L2St} {H : Hp} {ta tb te to : TE}
theorem ev_ixS {z : List Nat} {i : Nat} {c : Nat} (ha : Ev ta σ H (.str (S z))) (hb : Ev tb σ H (.int (i : Nat))) (hz : z.length ≤ 100000) (hc : z[i]? = some c) : Ev (tOp rIxS ta tb) σ H (.str (S [c])) :=
  ev_op ha hb (rv_ixS (by rw [S_len]; exact hz) (atI_nat hc))
end
section
variable {P : Program} {w : World} {K : PySem.W.Frag} {mg : Str → Option Value} {base : Heap} {a : Ad}
/-! ### reordered -/
abbrev s_Qreordered : Stmt := inClass (topS 28) 23
abbrev N_Qreordered : List Str := ["self", "order", "found", "text", "other", "place", "position"]
theorem sc_Qreordered : FnScope N_Qreordered ["self", "order"] (defScope s_Qreordered) := ⟨rfl, rfl, rfl, by decide +kernel, rfl, by decide +kernel, by decide +kernel⟩
def spReo (C : Addr) : Sp := fun vs H Q _ => ∃ (q p : Addr) (n : Nat) (z o : List Nat), vs = [.ref q, .ref p] ∧ QAt C H q n z ∧ IsTabN n z ∧ 2 ≤ n ∧ n ≤ 5 ∧ H p = some (.lst (natsV o)) ∧ o ∈ perms n ∧ ∀ x H', H x = none → Ex H H' → QAt C H' x n (reoT n z o) → Q (.ref x) H'
theorem bit_get {v : Int} (h : v = 0 ∨ v = 1) : ([48, 49] : List Nat)[v.toNat]? = some (48 + v.toNat) ∧ v = (v.toNat : Nat) := by
  rcases h with e | e <;> subst e <;> exact ⟨rfl, rfl⟩
theorem fb_reo (T : Txt K mg a) (D : MF K a.gReo "reordered" "Question.reordered" s_Qreordered) (C_is_block : Cal P w K mg base 2 "is_block" spIsBlock []) (C_inputs : Cal P w K mg base 3 "inputs" spInputs []) (C_put : Cal P w K mg base 1 "put" spPut [])
    (C_Question : Mak P w K mg base 4 "Question" a.cQ (spInit a.cQ) []) : FB P w K mg base 6 a.gReo (spReo a.cQ) := by
  refine mkFB D sc_Qreordered (fun _ _ _ _ _ _ us hl => match us, hl with | [_, _], _ => rfl) (fun vs H Q E h => ?_) (fun cdv A outer s H vs Q E hr h => ?_)
  · obtain ⟨_, _, _, _, _, rfl, _⟩ := h
    rfl
  · obtain ⟨q, p, n, z, o, rfl, hq, hz, h2, h5, hp, ho, k⟩ := h
    obtain ⟨o1, o2, o3, o4⟩ := perm_fact h2 h5 ho
    obtain ⟨dx, da, dy, hq1, hq2⟩ := id hq
    have hu := hu_of hr
    have hil : (ins n).length ≤ 32 := by
      rw [ins_len]
      exact Nat.le_trans (Nat.pow_le_pow_right (by decide) h5) (by decide)
    have hol : (natsV o).length = n := by rw [natsV, List.length_map, o1]
    refine ⟨_, (pss_cons (ps_if (PW.pt (pw_or (pt_not (pt_val (pe_c C_is_block hr (by decide) rfl (pa_cons (pv 1) (pa_cons (pe_fldK (K := K) (pv 0) (by rfl)) pa_nil))))) (pw_or1 (pt_cmpR op_ne (pe_callB (call_len_seqK (K := K)) (by rfl) T.len_ (by decide +kernel) (pa_cons (pv 1) pa_nil)) (pe_fldK (K := K) (pv 0) (by rfl)) (nomark _))))) (pss_one ps_never) pss_nil)
    (pss_cons (ps_set (i := 2) sc_Qreordered.nd rfl (Or.inl rfl) (pe_lst pa_nil))
    (pss_cons (ps_for PassesOwn.never rfl (pi_listK (K := K) (pe_c C_inputs hr (by decide) rfl (pa_cons (pe_fldK (K := K) (pv 0) (by rfl)) pa_nil))) (pg_name (i := 3) sc_Qreordered.nd rfl (Or.inl rfl)) (pss_cons (ps_set (i := 4) sc_Qreordered.nd rfl (Or.inl rfl) (pv 3))
    (pss_cons (ps_for PassesOwn.never rfl (pi_enum (by rfl) T.enumerate_ (pa_cons (pv 1) pa_nil)) (pg_tup rfl (pgs_cons (pg_name (i := 5) sc_Qreordered.nd rfl (Or.inl rfl)) (pgs_cons (pg_name (i := 6) sc_Qreordered.nd rfl (Or.inl rfl)) pgs_nil))) (pss_one (ps_set (i := 4) sc_Qreordered.nd rfl (Or.inl rfl) (pe_c C_put hr (by decide) rfl (pa_cons (pv 4) (pa_cons (pv 6) (pa_cons (pe_ix ix_str (pv 3) (pv 5) (fun _ _ => rfl)) pa_nil)))))))
    (pss_one (ps_expr (pe_bm PySem.F.plainAttrs_list PySem.F.slot_list_append PySem.F.type_list_append mt_append (pv 2) (pa_cons (pe_ix ix_str (pe_gc rfl T.g_BITS) (pe_dget (by exact hu) (pe_fldK (K := K) (pv 0) (by rfl)) (pv 4) (fun _ _ => rfl)) (fun _ _ => rfl)) pa_nil)))))))
    (pss_one (ps_ret (pe_mk C_Question hr (by decide) rfl (pa_cons (pe_join pe_str (pv 2)) pa_nil))))))), ?_⟩
    refine q_if (b := !true || !decide (V.int (n : Nat) = V.int (n : Nat))) (et_or (et_not (et_B (ev_call (vs := [.ref p, .int (n : Nat)]) (ea_cons (ev_var rfl) (ea_cons (ev_fld (ev_var rfl) hq1 T.clsQ T.naM (qfs_m _ _ _ _)) ea_nil)) fun H1 e Q q E => ⟨p, o, n, rfl, e _ _ hp, o2, o3, by omega, q⟩))) fun _ =>
      et_test (ev_op (x := .int (n : Nat)) (fun H1 e Q q => ⟨_, rfl, p, natsV o, rfl, .inl (sq_of (e _ _ hp)), by rw [hol]; exact q H1 (Ex.refl _)⟩) (ev_fld (ev_var rfl) hq1 T.clsQ T.naM (qfs_m _ _ _ _)) (rv_ne rfl))) (fun hb => ?_) fun _ H1 e1 => ?_
    · rw [decide_eq_true rfl] at hb
      cases hb
    refine q_asgL (xs := []) (el_lst ea_nil (by decide)) fun m H2 hm e2 hm2 => ?_
    refine q_forNLn (xs := texts (ins n)) (el_call (vs := [.int (n : Nat)]) (ea_cons (ev_fld (ev_var rfl) (e2 _ _ (e1 _ _ hq1)) T.clsQ T.naM (qfs_m _ _ _ _)) ea_nil) fun H3 e Q q E => ⟨n, rfl, hz.1, q⟩)
      (fun r i σ' H' => ∃ v1 v2 v3 v4, σ' = [some (.ref q), some (.ref p), some (.ref m), v1, v2, v3, v4] ∧ H1 r = none ∧ r ≠ m ∧ Ex H1 H' ∧ H' r = some (.lst (texts (ins n))) ∧ H' m = some (.lst (((ins n).take i).map fun t => .str (S [48 + (ansOf n z (act n o t)).toNat]))))
      (fun r H3 hr3 e3 h3 => ⟨none, none, none, none, rfl, fresh_back e2 hr3, (fresh_ne hm2 hr3).symm, e2.trans e3, h3, e3 _ _ hm2⟩) (fun r i σ' H' _ z => by
        obtain ⟨_, _, _, _, _, _, _, _, h, _⟩ := z
        exact sq_of h) (fun r i x σ' H' hx z => ?_) (fun r σ' H' z => ?_)
    · obtain ⟨v1, v2, v3, v4, rfl, hr1, hrm, eH, hr2, hmH⟩ := z
      have hi : i < (ins n).length := by
        have := (List.getElem?_eq_some_iff.mp hx).1
        rw [texts, List.length_map] at this
        exact this
      have ex : x = V.str (S (ins n)[i]) := by
        rw [texts, List.getElem?_map, List.getElem?_eq_getElem hi] at hx
        exact (Option.some.inj hx).symm
      subst ex
      have htm : (ins n)[i] ∈ ins n := List.getElem_mem hi
      generalize ht : (ins n)[i] = t at htm ⊢
      obtain ⟨a1, a2⟩ := o4 t htm
      have htl : t.length = n := strL_mem_len htm
      refine q_asg (v := .str (S t)) (ev_var rfl) fun H4 e4 => ?_
      refine q_forEnum (xs := natsV o) (ev_var rfl) (sq_of (e4 _ _ (eH _ _ (e1 _ _ hp)))) (fun k σ' H' => ∃ w3 w4, σ' = [some (.ref q), some (.ref p), some (.ref m), some (.str (S t)), some (.str (S (putN t o k))), w3, w4] ∧ Ex H4 H') (fun H5 e5 => ⟨v3, v4, rfl, e5⟩) (fun k σ' H' _ z => by
          obtain ⟨_, _, _, e⟩ := z
          exact sq_of (e _ _ (e4 _ _ (eH _ _ (e1 _ _ hp))))) (fun k x σ' H' H'' hx z e => ?_) (fun σ' H' z => ?_)
      · obtain ⟨w3, w4, rfl, eK⟩ := z
        obtain ⟨j, hj, rfl⟩ := nats_get hx
        have hkl : k < o.length := (List.getElem?_eq_some_iff.mp hj).1
        have hjn : j < n := o3 j (List.mem_of_getElem? hj)
        have hkt : k < t.length := by omega
        refine s_asg (v := .str (S (putN t o (k + 1)))) (ev_call (vs := [.str (S (putN t o k)), .int (j : Nat), .str (S [t[k]])]) (ea_cons (ev_var rfl) (ea_cons (ev_var rfl) (ea_cons (ev_ixS (ev_var rfl) (ev_var rfl) (by omega) (List.getElem?_eq_getElem hkt)) ea_nil))) fun H6 e Q q E => ⟨_, j, t[k], rfl, by rw [putN_len]; omega, by rw [putN_len]; omega, ?_⟩) fun H6 e6 => ⟨_, _, rfl, (eK.trans e).trans e6⟩
        have e1' : o.getD k 0 = j := by rw [List.getD_eq_getElem?_getD, hj]; rfl
        have e2' : t.getD k 0 = t[k] := by rw [List.getD_eq_getElem?_getD, List.getElem?_eq_getElem hkt]; rfl
        have e3' : putN t o (k + 1) = (putN t o k).set j t[k] := by
          show (putN t o k).set (o.getD k 0) (t.getD k 0) = _
          rw [e1', e2']
        rw [e3'] at q
        exact q
      · obtain ⟨w3, w4, rfl, eK⟩ := z
        rw [hol, a1]
        obtain ⟨b1, b2⟩ := bit_get (ans_bit hz a2)
        have x4 := eH.trans (e4.trans eK)
        refine s_app (v := .str (S [48 + (ansOf n z (act n o t)).toNat])) (eK _ _ (e4 _ _ hmH)) (ev_var rfl) (ev_ixS (i := (ansOf n z (act n o t)).toNat) (z := [48, 49]) ev_c (by
          rw [← b2]
          exact ev_dget (k := keyT (act n o t)) (ev_fld (ev_var rfl) (x4 _ _ (e1 _ _ hq1)) T.clsQ T.naA (qfs_a _ _ _ _)) (ev_var rfl) (x4 _ _ (e1 _ _ hq2)) (kvs_val hz.2.1 a2)) (by decide) b1) (by rw [List.length_map, List.length_take]; omega) fun H6 e6 => ⟨_, _, _, _, rfl, hr1, hrm, Ex.mut (x4.trans e6) hm, ?_, ?_⟩
        · rw [upd_ne hrm]
          exact e6 _ _ (eK _ _ (e4 _ _ hr2))
        · rw [upd_same, take_next hi, List.map_append, ht]
          rfl
    · obtain ⟨v1, v2, v3, v4, rfl, hr1, hrm, eH, hr2, hmH⟩ := z
      have hlen : (texts (ins n)).length = (ins n).length := by rw [texts, List.length_map]
      rw [hlen, List.take_length] at hmH
      refine ev_mkQ (n := n) (z := reoT n z o) (ea_cons (ev_joinT (cs := reoT n z o) (ev_var rfl) ?_ ?_) ea_nil) (reo_tab hz h2 h5 ho) H' (Ex.refl _) _ fun x H6 hx e6 hqx => k x H6 (fresh_back (e1.trans eH) hx) ((e1.trans eH).trans e6) hqx
      · rw [hmH, reoT, reoL, List.map_map]
        rfl
      · rw [reoT, reoL, List.length_map]
        omega
/-! ### at_least -/
abbrev s_Qat_least : Stmt := inClass (topS 28) 5
abbrev N_Qat_least : List Str := ["cls", "many", "count", "text"]
theorem sc_Qat_least : FnScope N_Qat_least ["cls", "many", "count"] (defScope s_Qat_least) := ⟨rfl, rfl, rfl, by decide +kernel, rfl, by decide +kernel, by decide +kernel⟩
def spAtLeast (C : Addr) : Sp := fun vs H Q _ => ∃ k : Nat, vs = [.ref C, .int 6, .int (k : Nat)] ∧ k ≤ 7 ∧ ∀ x z H', H x = none → Ex H H' → IsTabN 6 z → QAt C H' x 6 z → Q (.ref x) H'
theorem fb_at (T : Txt K mg a) (D : MF K a.gAt "at_least" "Question.at_least" s_Qat_least) (C_need_count : Cal P w K mg base 2 "need_count" spNeedCount []) (C_is_integer : Cal P w K mg base 1 "is_integer" spIsInteger []) (C_inputs : Cal P w K mg base 3 "inputs" spInputs [])
    (F : FB P w K mg base 4 a.gInit (spInit a.cQ)) : FB P w K mg base 6 a.gAt (spAtLeast a.cQ) := by
  obtain ⟨fdI, psI, F_init, b_init⟩ := F
  refine mkFB D sc_Qat_least (fun _ _ _ _ _ _ us hl => match us, hl with | [_, _, _], _ => rfl) (fun vs H Q E h => ?_) (fun cdv A outer s H vs Q E hr h => ?_)
  · obtain ⟨_, rfl, _⟩ := h
    rfl
  · obtain ⟨c, rfl, hc, k⟩ := h
    let z : List Nat := (ins 6).map fun t => if (c : Int) ≤ Txt.count (S t) "1" then 49 else 48
    have hz : IsTabN 6 z := ⟨by decide, by show ((ins 6).map _).length = _; rw [List.length_map, ins_len], fun d hd => by
      obtain ⟨t, _, rfl⟩ := List.mem_map.mp hd
      split
      · exact .inr rfl
      · exact .inl rfl⟩
    refine ⟨_, (pss_cons (ps_expr (pe_c C_need_count hr (by decide) rfl (pa_cons (pv 1) pa_nil)))
    (pss_cons (ps_if (pt_not (pt_val (pe_c C_is_integer hr (by decide) rfl (pa_cons (pv 2) (pa_cons pe_int (pa_cons (pe_op op_add (pv 1) pe_int) pa_nil)))))) (pss_one ps_never) pss_nil)
    (pss_one (ps_ret (pe_makeL (i := 0) T.mkQ F_init (hr.mono (by decide)) rfl (Or.inl rfl) b_init .nil L2.pass0 (pa_cons (pe_join pe_str (pe_lc (own := [("text", 3)]) (g := (gName 3)) (tt := tYes) rfl sc_Qat_least.nd (pi_listK (K := K) (pe_c C_inputs hr (by decide) rfl (pa_cons (pv 1) pa_nil))) (blkOk_by (own := [("text", 3)]) (N := N_Qat_least) (sc := defScope s_Qat_least) (by decide +kernel)) (fun _ _ _ _ _ => (pg_name (i := 3) sc_Qat_least.nd rfl (Or.inl rfl))) (fun _ _ _ _ _ => pts_nil) (fun _ _ _ _ _ => (pe_ix ix_str (pe_gc rfl T.g_BITS) (pe_callTy (call_int1) (by rfl) T.int_ (by decide +kernel) (pa_cons (pe_cmpR op_ge (pe_m1 PySem.F.slot_str_count PySem.F.type_str_count mt_count (pv 3) pe_str) (pv 2) (nomark _)) pa_nil)) (fun _ _ => rfl))))) pa_nil)))))), ?_⟩
    refine q_drop (ev_call (vs := [.int 6]) (ea_cons (ev_var rfl) ea_nil) fun H1 e Q q E => ⟨6, rfl, by decide, by decide, q⟩) fun H1 e1 => ?_
    refine q_if (b := !(decide ((0 : Int) ≤ (c : Nat)) && decide ((c : Int) ≤ 6 + 1))) (et_not (et_B (ev_call (ea_cons (ev_var rfl) (ea_cons ev_c (ea_cons (ev_op (ev_var rfl) ev_c rv_I0) ea_nil))) fun H1 e Q q E => ⟨_, _, _, rfl, q⟩))) (fun hb => ?_) fun _ H2 e2 => ?_
    · rw [decide_eq_true (by omega), decide_eq_true (by omega)] at hb
      cases hb
    refine ⟨rfl, ev_mkQ (n := 6) (z := z) (ea_cons (ev_joinC (cs := z) ?_ ?_) ea_nil) hz H2 (Ex.refl _) _ fun x H3 hx e3 hq => k x z H3 (fresh_back (e1.trans e2) hx) ((e1.trans e2).trans e3) hz hq⟩
    · show EvL _ _ _ (List.map _ (List.map _ _))
      rw [List.map_map]
      refine el_map (en := fun t => V.str (S t)) (es_new (xs := texts (ins 6)) (el_call (vs := [.int (6 : Nat)]) (ea_cons (ev_var rfl) ea_nil) fun H3 e Q q E => ⟨6, rfl, by decide, q⟩)) (by rw [ins_len]; decide) (fun x => rfl) fun t ht H3 e => ?_
      show Ev _ _ _ (.str (S [if (c : Int) ≤ Txt.count (S t) "1" then 49 else 48]))
      refine ev_ixS (i := if (c : Int) ≤ Txt.count (S t) "1" then 1 else 0) (z := [48, 49]) ev_c (ev_is (v := .int (if decide ((c : Int) ≤ Txt.count (S t) "1") then 1 else 0)) (ev_cb (ea_cons (ev_op (x := .int (Txt.count (S t) "1")) (fun H4 e Q q => ⟨_, rfl, ⟨_, rfl⟩, ⟨S t, "1", rfl, rfl, q H4 (Ex.refl _)⟩⟩) (ev_var rfl) rv_I0) ea_nil) fun H4 _ Q q => .inr ⟨_, rfl, q H4 (Ex.refl _)⟩) ?_) (by decide) ?_
      · by_cases h : (c : Int) ≤ Txt.count (S t) "1"
        · rw [decide_eq_true h, if_pos rfl, if_pos h]
          rfl
        · rw [decide_eq_false h, if_neg (by decide), if_neg h]
          rfl
      · split <;> rfl
    · rw [hz.2.1]
      decide
end
end LX


set_option Elab.async false
set_option linter.all false
set_option maxRecDepth 100000
set_option maxHeartbeats 4000000
/-! orders, keeping_orders, full_prime. -/
namespace LX
open PySem PySem.Spec PyProof.Rows L2 TL Evl SX C8
/-- a comprehension over a list that is known by now -/
theorem cmp_at {K : PySem.W.Frag} {σ : L2St} {H : Hp} {te : TE} {α : Type} {l : List α} {en : α → V} {a : Addr} {t : TT} {j : Nat} {vs : List Nat} {p : α → Bool} {φ : α → V} {Q : VK} (hx : H a = some (.lst (l.map en))) (hz : l.length ≤ 40000)
    (hw : ∀ x, wipe ((wipe σ vs).set j (some x)) vs = wipe σ vs)
    (ht : ∀ a ∈ l, ∀ H1, Ex H H1 → EvT t ((wipe σ vs).set j (some (en a))) H1 (p a)) (he : ∀ a ∈ l, ∀ H1, Ex H H1 → p a = true → Ev te ((wipe σ vs).set j (some (en a))) H1 (φ a))
    (q : ∀ D H2, H D = none → Ex H H2 → H2 D = some (.lst ((l.filter p).map φ)) → Q (.ref D) H2) : tLc (fun _ H R => R (Itl K a) H) (gName j) t te vs σ H Q :=
  el_cmp (wi := fun _ H R => R (Itl K a) H) (fun H' e R k => k _ (fun H => SqL K H a (l.map en)) H' (Ex.refl _) (sq_of (e _ _ hx)) (fun _ _ e h => ex_l e h) walk_list) hz hw ht he H (Ex.refl _) Q q
/-- the orders that stand at the values us -/
abbrev LL (H : Hp) (us : List V) (os : List (List Nat)) : Prop := Each (fun (o : List Nat) v H => At (.lst (natsV o)) v H) H os us
theorem LL.ex {Ha Hb : Hp} {us : List V} {os : List (List Nat)} (e : Ex Ha Hb) (h : LL Ha us os) : LL Hb us os := Each.ex (E := fun (o : List Nat) v H => At (.lst (natsV o)) v H) (fun a v _ _ e h => At.ex e h) e h
theorem LL.mem {H : Hp} : ∀ {us : List V} {os : List (List Nat)} {c : V × List Nat}, LL H us os → c ∈ us.zip os → At (.lst (natsV c.2)) c.1 H
  | u :: us, o :: os, c, h, hc => by
    rcases List.mem_cons.mp (by simpa using hc) with e | m
    · rw [e]
      exact h.1
    · exact LL.mem h.2 m
  | [], _, _, _, hc => by simp at hc
  | _ :: _, [], _, h, _ => h.elim
theorem LL.len {H : Hp} {us : List V} {os : List (List Nat)} (h : LL H us os) : os.length = us.length := Each.len h
theorem each_map {α β : Type} {H : Hp} {g : α → β} {E : β → V → Hp → Prop} : ∀ {l : List α} {us : List V}, Each (fun a v H => E (g a) v H) H l us → Each E H (l.map g) us
  | [], [], _ => trivial
  | a :: l, u :: us, h => ⟨h.1, each_map h.2⟩
  | [], _ :: _, h => h.elim
  | _ :: _, [], h => h.elim
theorem perm_step (items : List Nat) (us : List V) (os : List (List Nat)) (hl : os.length = us.length) : (prs (us.zip os) (fun _ => items) (fun c i => !decide (i ∈ c.2))).map (fun c => c.1.2 ++ [c.2]) = os.flatMap fun o => (items.filter fun i => !o.contains i).map fun i => o ++ [i] := by
  have e : os = (us.zip os).map Prod.snd := (List.map_snd_zip (by omega)).symm
  conv => rhs; rw [e]
  rw [List.flatMap_map]
  unfold prs
  rw [List.map_flatMap]
  congr 1
  funext c
  rw [List.map_map]
  have : (items.filter fun i => !c.2.contains i) = items.filter fun i => !decide (i ∈ c.2) := by
    congr 1
    funext i
    rw [List.contains_eq_mem]
  rw [this]
  rfl
def okCnt (n : Nat) : Bool := (List.range (n + 1)).all fun k => decide ((permsL (List.range n) k).length ≤ 120) && (permsL (List.range n) k).all fun o => decide (o.length = k)
theorem okCnt_of {n : Nat} (h5 : n ≤ 5) : okCnt n = true := by
  match n, h5 with
  | 0, _ => decide +kernel
  | 1, _ => decide +kernel
  | 2, _ => decide +kernel
  | 3, _ => decide +kernel
  | 4, _ => decide +kernel
  | 5, _ => decide +kernel
  | n + 6, h => omega
theorem cnt {n k : Nat} (h5 : n ≤ 5) (hk : k ≤ n) : (permsL (List.range n) k).length ≤ 120 ∧ ∀ o ∈ permsL (List.range n) k, o.length = k := by
  have h := List.all_eq_true.mp (okCnt_of h5) k (List.mem_range.mpr (by omega))
  simp only [Bool.and_eq_true, decide_eq_true_eq] at h
  exact ⟨h.1, fun o ho => of_decide_eq_true (List.all_eq_true.mp h.2 o ho)⟩
section
variable {K : PySem.W.Frag} {σ : L2St} {H : Hp} {ta te : TE}
theorem ev_prop {C q : Addr} {dx : Addr} {fs : List (Str × V)} {sp : Sp} {dvs : List V} {E : XK} {v : V} (h : Ev ta σ H (.ref q)) (hq : H q = some (.ins C dx fs)) (hs : SpV sp (.ref q :: dvs) H v) : Ev (tProp C sp dvs E ta) σ H v := fun H1 e Q k =>
  h H1 e _ fun H2 e2 => ⟨q, dx, fs, rfl, e2 _ _ (e _ _ hq), hs H2 (e.trans e2) Q (fun H3 e3 => k H3 (e2.trans e3)) E⟩
theorem rgV_nat (n : Nat) : rgV 0 (n : Int) = natsV (List.range n) := by
  unfold rgV natsV
  have : ((n : Int) - 0).toNat = n := by omega
  rw [this]
  refine List.map_congr_left fun i _ => ?_
  rw [Int.zero_add]
theorem el_rg1 {n : Nat} (h : Ev te σ H (.int (n : Nat))) (hn : n ≤ 100000) : EvL (tLstRg (tRg1 te)) σ H (natsV (List.range n)) := fun H1 e Q k =>
  h H1 e _ fun H2 e2 => ⟨n, rfl, ⟨by decide, by decide, by omega, by omega, by omega⟩, fun r hr => k r _ (fresh_back e2 hr) (e2.trans (Ex.new hr)) (by rw [upd_same, rgV_nat])⟩
theorem ret_lc {D : Ends} (h : te σ H D.rt) : tRet te D σ H := h
theorem lc_call1 {sp : Sp} {dvs xs : List V} {E : XK} {g : TG} {t : TT} {te1 : TE} {vs : List Nat} {Q : VK} (h : EvL ta σ H xs) (k : ∀ p H1, H p = none → Ex H H1 → H1 p = some (.lst xs) →
    sp ([.ref p] ++ dvs) H1 (fun v H2 => ∃ a, v = .ref a ∧ (∃ xs, SqL K H2 a xs) ∧ tLc (fun _ H R => R (Itl K a) H) g t te1 vs σ H2 Q) E) : tLc (iList K (tCall sp dvs E (tCons ta tNil))) g t te1 vs σ H Q := h H (Ex.refl _) _ k
end
theorem each_filter {α : Type} {H : Hp} {E : α → V → Hp → Prop} {p : α → Bool} : ∀ {l : List α} {us : List V}, Each E H l us → Each E H (l.filter p) (((us.zip l).filter fun c => p c.2).map Prod.fst)
  | [], [], _ => trivial
  | a :: l, u :: us, h => by
    have ih := each_filter (p := p) h.2
    cases hp : p a with
    | true =>
      rw [List.filter_cons_of_pos hp, List.zip_cons_cons, List.filter_cons_of_pos (by exact hp), List.map_cons]
      exact ⟨h.1, ih⟩
    | false =>
      rw [List.filter_cons_of_neg (by rw [hp]; decide), List.zip_cons_cons, List.filter_cons_of_neg (by rw [show p (u, a).2 = false from hp]; decide)]
      exact ih
  | [], _ :: _, h => h.elim
  | _ :: _, [], h => h.elim
section
variable {P : Program} {w : World} {K : PySem.W.Frag} {mg : Str → Option Value} {base : Heap} {a : Ad}
/-! ### orders -/
abbrev s_orders : Stmt := topS 3
abbrev N_orders : List Str := ["items", "found", "turn", "order", "item"]
theorem sc_orders : FnScope N_orders ["items"] (defScope s_orders) := ⟨rfl, rfl, rfl, by decide +kernel, rfl, by decide +kernel, by decide +kernel⟩
def spOrders : Sp := fun vs H Q _ => ∃ (p : Addr) (n : Nat), vs = [.ref p] ∧ H p = some (.lst (natsV (List.range n))) ∧ n ≤ 5 ∧ ∀ r us H', H r = none → Ex H H' → H' r = some (.lst us) → LL H' us (perms n) → Q (.ref r) H'
theorem cal_orders (T : Txt K mg a) (D : DF K mg "orders" s_orders) : Cal P w K mg base 1 "orders" spOrders [] := by
  refine mkCal D sc_orders (fun _ _ _ _ _ _ us hl => match us, hl with | [_], _ => rfl) (fun vs H Q E h => ?_) (fun f cdv A outer s H vs Q E hr h => ?_)
  · obtain ⟨_, _, rfl, _⟩ := h
    rfl
  · obtain ⟨p, n, rfl, hp, h5, k⟩ := h
    have hpl : (natsV (List.range n)).length = n := by rw [natsV, List.length_map, List.length_range]
    refine ⟨_, (pss_cons (ps_set (i := 1) sc_orders.nd rfl (Or.inl rfl) (pe_lst (pa_cons (pe_lst pa_nil) pa_nil)))
    (pss_cons (ps_for PassesOwn.never rfl (pi_range1 rfl T.range_ (pa_cons (pe_callB (call_len_seqK (K := K)) (by rfl) T.len_ (by decide +kernel) (pa_cons (pv 0) pa_nil)) pa_nil)) (pg_name (i := 2) sc_orders.nd rfl (Or.inl rfl)) (pss_one (ps_setLc2 (i := 1) (own := [("order", 3), ("item", 4)]) (vs1 := [4]) (g := (gName 3)) (g1 := (gName 4)) rfl sc_orders.nd rfl rfl (sw_true rfl rfl rfl (by decide +kernel)) (pi_listK (K := K) (pv 1)) (blkOk_by (own := [("order", 3), ("item", 4)]) (N := N_orders) (sc := defScope s_orders) (by decide +kernel)) (by decide) (fun _ _ _ _ _ => (pg_name (i := 3) sc_orders.nd rfl (Or.inl rfl))) (fun _ _ _ _ _ => pts_nil) (fun _ _ _ _ _ => (pi_listK (K := K) (pv 0))) (fun _ _ _ _ _ => (pg_name (i := 4) sc_orders.nd rfl (Or.inl rfl))) (fun _ _ _ _ _ => pts_one (pt_cmpR (op_notIn_seqK (K := K)) (pv 4) (pv 3) rfl)) (fun _ _ _ _ _ => (pe_lst (pa_starK (K := K) (pv 3) (pa_cons (pv 4) pa_nil)))))))
    (pss_one (ps_ret (pv 1))))), ?_⟩
    refine ⟨by decide, fun e0 he0 => ⟨by show 1 ≤ sizeLine; decide, fun r0 hr0 => ?_⟩⟩
    have ne : e0 ≠ r0 := fun q => by
      rw [q, upd_same] at hr0
      cases hr0
    have x0 : Ex H (upd (upd H e0 (.lst [])) r0 (.lst [.ref e0])) := (Ex.new he0).trans (Ex.new hr0)
    have hlen : ∀ H', Ex H H' → SqL K H' p (natsV (List.range n)) := fun H' e => sq_of (e _ _ hp)
    refine q_forR1 (n := n) (ea_cons (ev_is (ev_len (ev_var rfl) (hlen _ x0)) (by rw [hpl])) ea_nil) (by omega)
      (fun i σ' H' => ∃ (r : Addr) (us : List V) (x y z : Option V), σ' = [some (.ref p), some (.ref r), x, y, z] ∧ H r = none ∧ Ex H H' ∧ H' r = some (.lst us) ∧ LL H' us (permsL (List.range n) i))
      (fun H2 e2 => ⟨r0, [.ref e0], none, none, none, rfl, fresh_back (Ex.new he0) hr0, x0.trans e2, e2 _ _ upd_same, ⟨e0, rfl, e2 _ _ (by rw [upd_ne ne]; exact upd_same)⟩, trivial⟩) (fun i σ' H' hi z => ?_) (fun σ' H' z => ?_)
    · obtain ⟨r, us, x, y, z, rfl, hr, eH, hus, hL⟩ := z
      have hin : (i : Nat) + 1 ≤ n := by omega
      obtain ⟨c1, c2⟩ := cnt h5 (Nat.le_of_succ_le hin)
      have stp := perm_step (List.range n) us (permsL (List.range n) i) hL.len
      have hlz : (us.zip (permsL (List.range n) i)).map Prod.fst = us := List.map_fst_zip (by rw [hL.len]; exact Nat.le_refl _)
      refine el_cmp2O (l := us.zip (permsL (List.range n) i)) (en := Prod.fst) (m := fun _ => List.range n) (en1 := fun i => V.int (i : Nat)) (p := fun c i => !decide (i ∈ c.2)) (ob := fun c i => .lst (natsV (c.2 ++ [i]))) (by
        rw [hlz]
        exact es_list (ev_var rfl) (sq_of hus)) (fun c _ => es0_list (ev_var rfl) (hlen _ eH)) ?_ (fun x => rfl) (fun x y => rfl) (fun c hc j hj => ?_) (fun c hc j hj hq => ?_) H' (Ex.refl _) _ fun r' us' H2 hr' e2 h2 hL2 => ⟨r', us', _, _, _, rfl, fresh_back eH hr', eH.trans e2, h2, ?_⟩
      · have := congrArg List.length stp
        rw [List.length_map] at this
        rw [this]
        exact Nat.le_trans (cnt h5 hin).1 (by decide)
      · obtain ⟨t, e1, e2⟩ := hL.mem hc
        exact et_test (ev_is (ev_op (ev_var rfl) (ev_var (by rw [← e1]; rfl)) (rv_niL (sq_of e2) rfl (flat_nats _))) (by rw [inV_nat]))
      · obtain ⟨t, e1, e2⟩ := hL.mem hc
        have hcl : c.2.length = i := c2 _ (List.of_mem_zip hc).2
        exact fun H1 e Q q => ⟨c.1, rfl, t, natsV c.2, e1, .inr (sq_of (e _ _ e2)), ⟨_, rfl, ⟨by
          have : (natsV c.2).length = i := by rw [natsV, List.length_map, hcl]
          show (natsV c.2 ++ [V.int (j : Nat)]).length ≤ _
          rw [List.length_append, this]
          exact szle (by simp only [List.length_singleton]; omega), fun r0 hr0 => q r0 _ hr0 (Ex.new hr0) (by rw [upd_same, natsV, natsV, List.map_append]; rfl)⟩⟩⟩
      · have h3 := each_map (E := fun (o : List Nat) v H => At (.lst (natsV o)) v H) (g := fun c : (V × List Nat) × Nat => c.1.2 ++ [c.2]) hL2
        rw [stp] at h3
        exact h3
    · obtain ⟨r, us, x, y, z, rfl, hr, eH, hus, hL⟩ := z
      exact s_ret (ev_var rfl) fun H2 e2 => k r us H2 hr (eH.trans e2) (e2 _ _ hus) (hL.ex e2)
/-! ### keeping_orders -/
abbrev s_keeping_orders : Stmt := topS 4
abbrev N_keeping_orders : List Str := ["question", "order"]
theorem sc_keeping_orders : FnScope N_keeping_orders ["question"] (defScope s_keeping_orders) := ⟨rfl, rfl, rfl, by decide +kernel, rfl, by decide +kernel, by decide +kernel⟩
def spKeeping (C : Addr) : Sp := fun vs H Q _ => ∃ (q : Addr) (n : Nat) (z : List Nat), vs = [.ref q] ∧ QAt C H q n z ∧ IsTabN n z ∧ 2 ≤ n ∧ n ≤ 5 ∧ ∀ r us H', H r = none → Ex H H' → H' r = some (.lst us) → LL H' us ((perms n).filter (keeps n (ansOf n z))) → Q (.ref r) H'
theorem cal_keeping (T : Txt K mg a) (D : DF K mg "keeping_orders" s_keeping_orders) (C_orders : Cal P w K mg base 1 "orders" spOrders []) (FM : FB P w K mg base 1 a.gMany (spMany a.cQ)) (FE : FB P w K mg base 1 a.gEq (spEq a.cQ)) (M_reordered : Met P w K mg base 6 a.cQ "reordered" (spReo a.cQ) []) :
    Cal P w K mg base 7 "keeping_orders" (spKeeping a.cQ) [] := by
  obtain ⟨fdM, psM, G_many, b_many⟩ := FM
  have F_eq := FE.r
  refine mkCal D sc_keeping_orders (fun _ _ _ _ _ _ us hl => match us, hl with | [_], _ => rfl) (fun vs H Q E h => ?_) (fun f cdv A outer s H vs Q E hr h => ?_)
  · obtain ⟨_, _, _, rfl, _⟩ := h
    rfl
  · obtain ⟨q, n, z, rfl, hq, hz, h2, h5, k⟩ := h
    have hil : (perms n).length ≤ 120 := (cnt h5 (Nat.le_refl n)).1
    refine ⟨_, (pss_one (ps_ret (pe_lc (own := [("order", 1)]) (g := (gName 1)) rfl sc_keeping_orders.nd (pi_listK (K := K) (pe_c C_orders hr (by decide) rfl (pa_cons (pe_listRg rfl (by rfl) T.list_ (prg_1 (by rfl) T.range_ (pe_prop (pv 0) T.clsQ T.propMany G_many (hr.mono (by decide)) b_many .nil L2.pass0 (by rfl)))) pa_nil))) (blkOk_by (own := [("order", 1)]) (N := N_keeping_orders) (sc := defScope s_keeping_orders) (by decide +kernel)) (fun _ _ _ _ _ => (pg_name (i := 1) sc_keeping_orders.nd rfl (Or.inl rfl))) (fun _ _ _ _ _ => pts_one (pt_cmpR (op_ownD T.nfQ T.eqQ T.eqF F_eq (hr.mono (by decide)) L2.pass0) (pe_mt M_reordered hr (by decide) (pv 0) (pa_cons (pv 1) pa_nil)) (pv 0) (nomark _))) (fun _ _ _ _ _ => (pv 1))))), ?_⟩
    obtain ⟨dx, da, dy, hq1, hq2⟩ := id hq
    refine ret_lc (lc_call1 (el_rg1 (n := n) (ev_prop (ev_var rfl) hq1 fun H1 e Q q' E => ⟨q, n, z, rfl, hq.ex e, q'⟩) (by omega)) fun p H1 hp e1 h1 => ?_)
    refine ⟨p, n, rfl, h1, h5, fun r us H2 hr2 e2 hu hL => ⟨r, rfl, ⟨us, sq_of hu⟩, ?_⟩⟩
    have e02 := e1.trans e2
    have hlz : (us.zip (perms n)).map Prod.fst = us := List.map_fst_zip (by rw [hL.len]; exact Nat.le_refl _)
    refine cmp_at (l := us.zip (perms n)) (en := Prod.fst) (p := fun c => decide (reoT n z c.2 = z)) (φ := Prod.fst) (by rw [hlz]; exact hu) ?_ (fun x => rfl) (fun c hc H3 e3 => ?_) (fun c hc H3 e3 _ => ev_var rfl) fun D H3 hD e3 h3 => k D _ H3 (fresh_back e02 hD) (e02.trans e3) h3 ?_
    · rw [List.length_zip]
      omega
    · have hcp := (List.of_mem_zip hc).2
      obtain ⟨t, et, ht⟩ := hL.mem hc
      refine et_test (fun H4 e4 Q q' => ?_)
      have e24 := e3.trans e4
      have e04 := e02.trans e24
      refine ⟨.ref q, rfl, q, dx, _, rfl, e04 _ _ hq1, qfs_no _ _ _ _ ⟨by decide +kernel, by decide +kernel, by decide +kernel, by decide +kernel⟩, c.1, rfl, q, t, n, z, c.2, ?_, hq.ex e04, hz, h2, h5, e24 _ _ ht, hcp, fun x H5 hx e5 hqx => ?_⟩
      · rw [et]
        rfl
      · obtain ⟨dx', da', dy', hx1, hx2⟩ := id hqx
        exact ⟨.ref q, rfl, x, dx', _, q, dx, _, rfl, rfl, hx1, e5 _ _ (e04 _ _ hq1), x, q, n, n, _, z, rfl, hqx, hq.ex (e04.trans e5), fun H6 e6 => q' H6 (e5.trans e6)⟩
    · have h4 := each_filter (p := fun o => decide (reoT n z o = z)) (hL.ex e3)
      have e : (perms n).filter (keeps n (ansOf n z)) = (perms n).filter fun o => decide (reoT n z o = z) := List.filter_congr fun o ho => (keeps_iff h2 h5 (fun t ht => ans_bit hz ht) (ans_tab hz) ho).symm
      rw [e]
      exact h4
end
end LX


set_option Elab.async false
set_option linter.all false
set_option maxRecDepth 100000
set_option maxHeartbeats 4000000
/-! full_prime. -/
namespace LX
open PySem PySem.Spec PyProof.Rows L2 TL Evl SX C8
theorem gath_len : ∀ (l : List (List Nat)) (acc : List Nat), (l.foldl gath acc).length ≤ acc.length + l.length
  | [], _ => Nat.le_refl _
  | o :: l, acc => by
    rw [List.foldl_cons]
    have h := gath_len l (gath acc o)
    have : (gath acc o).length ≤ acc.length + 1 := by
      unfold gath
      split
      · omega
      · simp
    rw [List.length_cons]
    omega
section
variable {K : PySem.W.Frag} {σ : L2St} {H : Hp} {ta te : TE} {w : World}
theorem sc_list {r : Addr} {us : List V} {os : List (List Nat)} {j : Nat} {vs : List Nat} {Q : VK} (hr : H r = some (.lst us)) (hL : LL H us os) (hz : os.length ≤ 1000) (hw : ∀ x, wipe ((wipe σ vs).set j (some x)) vs = wipe σ vs)
    (he : ∀ c ∈ us.zip os, ∀ H1, Ex H H1 → Ev te ((wipe σ vs).set j (some c.1)) H1 (.int (c.2.headD 0 : Nat)))
    (k : ∀ D S H2, H D = none → Ex H H2 → H2 D = some (SetO w D S (os.foldl gath []).length) → Q (.ref D) H2) : tScI w (fun _ H R => R (Itl K r) H) (gName j) te vs σ H Q := fun D hD => by
  have hlen := hL.len
  refine loop_it (walk_list (K := K) (a := r) (xs := us)) (step := fun Nx x H' => gName j x (wipe σ vs) H' fun σ2 H2 => wipe σ2 vs = wipe σ vs ∧
    te σ2 H2 fun y H4 => ∃ (c : Int) (S : Int → Bool) (n : Nat), y = .int c ∧ H4 D = some (SetO w D S n) ∧ n + 1 < scanBound ∧ Nx (upd H4 D (SetO w D (fun j => S j || decide (j = c)) (if S c = true then n else n + 1))))
    (fun i H' => Ex H H' ∧ ∃ S, H' D = some (SetO w D S ((os.take i).foldl gath []).length) ∧ ∀ c : Nat, S (c : Int) = ((os.take i).foldl gath []).contains c) ⟨Ex.new hD, fun _ => false, upd_same, fun c => rfl⟩ (fun i H' _ z => sq_of (z.1 _ _ hr)) (fun i x H' hi z hx => ?_) (fun H' z => ?_)
  · obtain ⟨e, S, hS, hc⟩ := z
    have hio : i < os.length := by omega
    have hxe : x = us[i] := by
      rw [List.getElem?_eq_getElem hi] at hx
      exact (Option.some.inj hx).symm
    subst hxe
    have hm : (us[i], os[i]) ∈ us.zip os := by
      have hlz : i < (us.zip os).length := by rw [List.length_zip]; omega
      have := List.getElem_mem hlz
      rwa [List.getElem_zip] at this
    refine ⟨hw _, ?_⟩
    refine he _ hm H' e H' (Ex.refl _) _ fun H4 e4 => ⟨_, S, _, rfl, e4 _ _ hS, ?_, Ex.mut (e.trans e4) hD, ?_⟩
    · have := gath_len (os.take i) []
      have h2 : ((os.take i).length) ≤ 1000 := by rw [List.length_take]; omega
      have h3 : (1002 : Nat) < scanBound := by decide
      simp only [List.length_nil] at this
      omega
    · rw [take_next hio, List.foldl_append]
      show ∃ S', _ = some (SetO w D S' (gath ((os.take i).foldl gath []) os[i]).length) ∧ ∀ c : Nat, S' (c : Int) = (gath ((os.take i).foldl gath []) os[i]).contains c
      generalize (os.take i).foldl gath [] = acc at hc ⊢
      refine ⟨_, by
        rw [upd_same]
        congr 1
        have : (gath acc os[i]).length = if S ((os[i].headD 0 : Nat) : Int) = true then acc.length else acc.length + 1 := by
          unfold gath
          rw [hc]
          split
          · rfl
          · simp
        rw [this], fun c => ?_⟩
      show (S (c : Int) || decide ((c : Int) = ((os[i].headD 0 : Nat) : Int))) = _
      rw [hc]
      unfold gath
      by_cases h : acc.contains (os[i].headD 0) = true
      · rw [if_pos h]
        by_cases hh : c = os[i].headD 0
        · rw [hh, h, Bool.true_or]
        · rw [decide_eq_false (by omega), Bool.or_false]
      · rw [if_neg h]
        rw [List.contains_eq_mem, List.contains_eq_mem, Bool.eq_iff_iff]
        simp only [Bool.or_eq_true, decide_eq_true_eq, List.mem_append, List.mem_singleton]
        constructor
        · rintro (q | q)
          · exact Or.inl q
          · exact Or.inr (by omega)
        · rintro (q | q)
          · exact Or.inl q
          · exact Or.inr (by omega)
  · obtain ⟨e, S, hS, hc⟩ := z
    rw [← hlen, List.take_length] at hS
    exact k D S H' hD e hS
theorem q_scCall {sp : Sp} {dvs args : List V} {E : XK} {g : TG} {te1 : TE} {vs : List Nat} {i : Nat} {D : Ends} {tz : TS} {t : TA} (h : EvA t σ H args)
    (k : ∀ H1, Ex H H1 → sp (args ++ dvs) H1 (fun v H2 => ∃ a, v = .ref a ∧ (∃ xs, SqL K H2 a xs) ∧ tScI w (fun _ H R => R (Itl K a) H) g te1 vs σ H2 (fun u H3 => tz D (σ.set i (some u)) H3)) E) : tSeq (tAsg (tScI w (iList K (tCall sp dvs E t)) g te1 vs) (gName i)) tz D σ H := h H (Ex.refl _) _ k
theorem ev_callO {X : Cx} {C q : Addr} {dx : Addr} {fs : List (Str × V)} {sp : Sp} {E : XK} {tf : TE} {t : TA} {vs : List V} {v : V} (h : Ev tf σ H (.ref q)) (ht : EvA t σ H vs) (hq : H q = some (.ins C dx fs)) (hs : SpV sp (.ref q :: vs) H v) : Ev (StX.tCallO X C sp E tf t) σ H v := fun H1 e Q k =>
  h H1 e _ fun H2 e2 => ⟨q, rfl, ht H2 (e.trans e2) _ fun H3 e3 => ⟨.inr ⟨dx, fs, e3 _ _ (e2 _ _ (e _ _ hq))⟩, hs H3 ((e.trans e2).trans e3) Q (fun H4 e4 => k H4 ((e2.trans e3).trans e4)) E⟩⟩
theorem repS_S (c n : Nat) : repS (S [c]) n = S (List.replicate n c) := ext_tl (repS_tl c n)
theorem ev_rep {c n : Nat} (h1 : Ev ta σ H (.str (S [c]))) (h2 : Ev te σ H (.int (n : Nat))) (hn : n ≤ 1000) : Ev (tOp (fun x y H Q => ∃ (z : Str) (n : Nat), x = .str z ∧ y = .int n ∧ z.length = 1 ∧ n ≤ 1000 ∧ Q (.str (repS z n)) H) ta te) σ H (.str (S (List.replicate n c))) :=
  ev_op h1 h2 (rv_val fun H1 _ Q q => ⟨S [c], n, rfl, rfl, rfl, hn, by rw [repS_S]; exact q⟩)
end
/-- what full_prime tells -/
def toldV (n : Nat) (f : List Nat → Int) : V := if 2 ≤ n ∧ n ≤ 5 ∧ f (zs n) ≠ f (os n) ∧ (firsts n f).length = n then .int (prm n) else .non
theorem wd_primes (n : Nat) : (wdGet [(2, 2), (3, 3), (4, 2), (5, 5)] n).isSome = decide (2 ≤ n ∧ n ≤ 5) := by
  unfold wdGet
  match n with
  | 0 => rfl
  | 1 => rfl
  | 2 => rfl
  | 3 => rfl
  | 4 => rfl
  | 5 => rfl
  | n + 6 =>
    have e (k : Int) (hk : k ≤ 5) : decide (k = ((n + 6 : Nat) : Int)) = false := decide_eq_false (by omega)
    simp only [List.find?_cons, e 2 (by decide), e 3 (by decide), e 4 (by decide), e 5 (by decide), List.find?_nil]
    rw [decide_eq_false (by omega)]
    rfl
theorem wd_prime {n : Nat} (h2 : 2 ≤ n) (h5 : n ≤ 5) : wdGet [(2, 2), (3, 3), (4, 2), (5, 5)] n = some (prm n) := by
  match n, h2, h5 with
  | 2, _, _ => rfl
  | 3, _, _ => rfl
  | 4, _, _ => rfl
  | 5, _, _ => rfl
  | n + 6, _, h => omega
theorem zs_ins {n : Nat} : zs n ∈ ins n := mem_strL.mpr ⟨List.length_replicate, fun c hc => by rw [(List.mem_replicate.mp hc).2]; decide⟩
theorem os_ins {n : Nat} : os n ∈ ins n := mem_strL.mpr ⟨List.length_replicate, fun c hc => by rw [(List.mem_replicate.mp hc).2]; decide⟩
section
variable {P : Program} {w : World} {K : PySem.W.Frag} {mg : Str → Option Value} {base : Heap} {a : Ad}
abbrev s_full_prime : Stmt := topS 5
abbrev N_full_prime : List Str := ["question", "many", "firsts", "order"]
theorem sc_full_prime : FnScope N_full_prime ["question"] (defScope s_full_prime) := ⟨rfl, rfl, rfl, by decide +kernel, rfl, by decide +kernel, by decide +kernel⟩
def spFull (C : Addr) : Sp := fun vs H Q _ => ∃ (q : Addr) (n : Nat) (z : List Nat), vs = [.ref q] ∧ QAt C H q n z ∧ IsTabN n z ∧ RetV (toldV n (ansOf n z)) H Q
theorem cal_full (T : Txt K mg a) (D : DF K mg "full_prime" s_full_prime) (C_keeping_orders : Cal P w K mg base 7 "keeping_orders" (spKeeping a.cQ) []) (FM : FB P w K mg base 1 a.gMany (spMany a.cQ)) (FC : FB P w K mg base 4 a.gCall (spCall a.cQ)) :
    Cal P w K mg base 8 "full_prime" (spFull a.cQ) [] := by
  obtain ⟨fdM, psM, G_many, b_many⟩ := FM
  have F_call := FC.r
  refine mkCal D sc_full_prime (fun _ _ _ _ _ _ us hl => match us, hl with | [_], _ => rfl) (fun vs H Q E h => ?_) (fun f cdv A outer s H vs Q E hr h => ?_)
  · obtain ⟨_, _, _, rfl, _⟩ := h
    rfl
  · obtain ⟨q, n, z, rfl, hq, hz, k⟩ := h
    have hn6 := hz.1
    obtain ⟨dx, da, dy, hq1, hq2⟩ := id hq
    refine ⟨_, (pss_cons (ps_set (i := 1) sc_full_prime.nd rfl (Or.inl rfl) (pe_prop (pv 0) T.clsQ T.propMany G_many (hr.mono (by decide)) b_many .nil L2.pass0 (by rfl)))
    (pss_cons (ps_if (PW.pt (pw_or (pt_cmpR op_notIn_wd (pv 1) (pe_gc rfl T.g_PRIMES) rfl) (pw_or1 (pt_cmpR op_eq (StX.pe_callO (pv 0) T.callQ F_call (hr.mono (by decide)) L2.pass0 (pa_cons (pe_op op_mul_str pe_str (pv 1)) pa_nil)) (StX.pe_callO (pv 0) T.callQ F_call (hr.mono (by decide)) L2.pass0 (pa_cons (pe_op op_mul_str pe_str (pv 1)) pa_nil)) (nomark _))))) (pss_one (ps_ret pe_non)) pss_nil)
    (pss_cons (ps_setScI (i := 2) (own := [("order", 3)]) (g := (gName 3)) rfl sc_full_prime.nd rfl rfl (sw_set rfl rfl rfl (by decide +kernel)) (pi_listK (K := K) (pe_c C_keeping_orders hr (by decide) rfl (pa_cons (pv 0) pa_nil))) (blkOk_by (own := [("order", 3)]) (N := N_full_prime) (sc := defScope s_full_prime) (by decide +kernel)) (fun _ _ _ _ _ => (pg_name (i := 3) sc_full_prime.nd rfl (Or.inl rfl))) (fun _ _ _ _ _ => (pe_ix (ix_listK (K := K)) (pv 3) pe_int (fun _ _ => rfl))))
    (pss_one (ps_ret (pe_ifExp (pt_cmpR op_eq (pe_callB (call_len_setO) (by rfl) T.len_ (by decide +kernel) (pa_cons (pv 2) pa_nil)) (pv 1) (nomark _)) (pe_ix ix_wd (pe_gc rfl T.g_PRIMES) (pv 1) (fun _ _ => rfl)) pe_non)))))), ?_⟩
    refine q_asg (v := .int (n : Nat)) (ev_prop (ev_var rfl) hq1 fun H1 e Q q' E => ⟨q, n, z, rfl, hq.ex e, q'⟩) fun H1 e1 => ?_
    refine q_if (b := (!(wdGet [(2, 2), (3, 3), (4, 2), (5, 5)] n).isSome) || decide (V.int (ansOf n z (zs n)) = V.int (ansOf n z (os n)))) (et_or (et_test (ev_op (x := .int (n : Nat)) (y := .ref a.primes) (ev_var rfl) ev_c (rv_val fun H1 _ Q q => ⟨a.primes, _, n, rfl, rfl, T.pr, T.prs, q⟩))) fun _ => et_test (ev_op
      (ev_callO (ev_var rfl) (ea_cons (ev_rep (c := 48) ev_c (ev_var rfl) (by omega)) ea_nil) (e1 _ _ hq1) fun H1 e Q q' E => ⟨q, n, z, zs n, rfl, hq.ex (e1.trans e), hz, zs_ins, q'⟩)
      (ev_callO (ev_var rfl) (ea_cons (ev_rep (c := 49) ev_c (ev_var rfl) (by omega)) ea_nil) (e1 _ _ hq1) fun H1 e Q q' E => ⟨q, n, z, os n, rfl, hq.ex (e1.trans e), hz, os_ins, q'⟩) (rv_eq rfl))) (fun hb H2 e2 => ?_) fun hb H2 e2 => ?_
    · refine s_ret ev_c fun H3 e3 => ?_
      have e : toldV n (ansOf n z) = .non := by
        unfold toldV
        rw [if_neg]
        rintro ⟨h2, h5, hne, _⟩
        rw [wd_primes, decide_eq_true ⟨h2, h5⟩, decide_eq_false (fun q => hne (V.int.inj q))] at hb
        cases hb
      rw [← e]
      exact k H3 ((e1.trans e2).trans e3)
    · rw [Bool.or_eq_false_iff, wd_primes] at hb
      obtain ⟨hb1, hb2⟩ := hb
      have h25 : 2 ≤ n ∧ n ≤ 5 := by
        rcases Decidable.em (2 ≤ n ∧ n ≤ 5) with h | h
        · exact h
        · rw [decide_eq_false h] at hb1
          cases hb1
      obtain ⟨h2, h5⟩ := h25
      have hne : ansOf n z (zs n) ≠ ansOf n z (os n) := fun e => by
        rw [e, decide_eq_true rfl] at hb2
        cases hb2
      have hpl : ((perms n).filter (keeps n (ansOf n z))).length ≤ 120 := Nat.le_trans (List.length_filter_le _ _) (cnt h5 (Nat.le_refl n)).1
      refine q_scCall (args := [.ref q]) (ea_cons (ev_var rfl) ea_nil) fun H2' e2' => ⟨q, n, z, rfl, hq.ex ((e1.trans e2).trans e2'), hz, h2, h5, fun r us H3 hr3 e3' hu hL => ⟨r, rfl, ⟨us, sq_of hu⟩, ?_⟩⟩
      have e3 := e2'.trans e3'
      refine sc_list hu hL (by omega) ?_ (fun c hc H4 e4 => ?_) fun Ds S H4 hD e4 h4 => ?_
      · exact fun x => rfl
      · obtain ⟨t, et, ht⟩ := hL.mem hc
        have hcp := (List.mem_filter.mp (List.of_mem_zip hc).2).1
        have hl := (perm_fact h2 h5 hcp).1
        refine ev_op (x := .ref t) (y := .int (0 : Nat)) (ev_var (by rw [← et]; rfl)) ev_c (rv_ixL (sq_of (e4 _ _ ht)) (atI_nat ?_))
        obtain ⟨c1, c2⟩ := c
        cases c2 with
        | nil => simp only [List.length_nil] at hl; omega
        | cons i r => rfl
      · have e : (((perms n).filter (keeps n (ansOf n z))).foldl gath []).length = (firsts n (ansOf n z)).length := by
          rw [gath_filter]
          rfl
        rw [e] at h4
        have e04 := ((e1.trans e2).trans e3).trans e4
        refine s_ret (v := toldV n (ansOf n z)) (ev_if (b := decide (V.int ((firsts n (ansOf n z)).length : Nat) = V.int (n : Nat))) (et_test (ev_op (ev_cb (ea_cons (ev_var rfl) ea_nil) fun H5 e5 Q q' => ⟨Ds, S, _, rfl, e5 _ _ h4, q' H5 (Ex.refl _)⟩) (ev_var rfl) (rv_eq rfl))) (fun hb => ?_) (fun hb => ?_)) fun H5 e5 => k H5 (e04.trans e5)
        · have hl : (firsts n (ansOf n z)).length = n := by
            have := V.int.inj (of_decide_eq_true hb)
            omega
          unfold toldV
          rw [if_pos ⟨h2, h5, hne, hl⟩]
          exact ev_op (x := .ref a.primes) (y := .int (n : Nat)) ev_c (ev_var rfl) (rv_val fun H5 _ Q q' => ⟨a.primes, _, n, _, rfl, rfl, T.pr, wd_prime h2 h5, q'⟩)
        · unfold toldV
          rw [if_neg]
          · exact ev_c
          · rintro ⟨_, _, _, hl⟩
            rw [hl, decide_eq_true rfl] at hb
            cases hb
end
end LX


set_option Elab.async false
set_option linter.all false
set_option maxRecDepth 100000
set_option maxHeartbeats 4000000
/-! The bag: _law_bag, _law_draw, _law_mixed. -/
namespace LX
open PySem PySem.Spec PyProof.Rows L2 TL Evl SX C8
def intsV (xs : List Int) : List V := xs.map V.int
def BagAt (H : Hp) (b l : Addr) (c d e : Int) (xs : List Int) : Prop := H b = some (.lst [.ref l, .int c, .int d, .int e]) ∧ H l = some (.lst (intsV xs)) ∧ xs.length ≤ 63
def Bag (H : Hp) (b : Addr) : Prop := ∃ l c d e xs, BagAt H b l c d e xs
/-- the list of cells is not D -/
def BagNo (D : Addr) (H : Hp) (b : Addr) : Prop := ∃ l r, H b = some (.lst (.ref l :: r)) ∧ l ≠ D
/-- all but the bag is kept; its list of cells was there or is new -/
def ExG (b : Addr) (H H' : Hp) : Prop := ExB b H H' ∧ ∀ D o, D ≠ b → H D = some o → BagNo D H b → BagNo D H' b
theorem ExG.of {b : Addr} {H H1 : Hp} (x : Ex H H1) : ExG b H H1 := ⟨ExB.of x, fun D o _ _ ⟨l, r, h, n⟩ => ⟨l, r, x _ _ h, n⟩⟩
theorem ExG.trans {b : Addr} {H H1 H2 : Hp} (x : ExG b H H1) (y : ExG b H1 H2) : ExG b H H2 := ⟨x.1.trans y.1, fun D o n h g => y.2 D o n (x.1 D o n h) (x.2 D o n h g)⟩
theorem ExG.set {b l : Addr} {H : Hp} {r r' : List V} (h : H b = some (.lst (.ref l :: r))) : ExG b H (L2.upd H b (.lst (.ref l :: r'))) := ⟨ExB.upd, fun D o _ _ ⟨l', r2, h', n⟩ => by
  rw [h] at h'
  cases h'
  exact ⟨l, r', upd_same, n⟩⟩
theorem ExG.fresh {b p : Addr} {H H1 : Hp} {r : List V} (x : Ex H H1) (hp : H p = none) : ExG b H (L2.upd H1 b (.lst (.ref p :: r))) := ⟨(ExB.of x).trans ExB.upd, fun D o _ h _ => ⟨p, r, upd_same, fun q => by rw [q, h] at hp; cases hp⟩⟩
theorem BagAt.ne {H : Hp} {b l : Addr} {c d e : Int} {xs : List Int} (h : BagAt H b l c d e xs) : l ≠ b := fun q => by
  obtain ⟨h1, h2, _⟩ := h
  rw [q, h1] at h2
  cases xs with
  | nil => cases h2
  | cons x r => cases h2
theorem BagAt.ex {Ha Hb : Hp} {b l : Addr} {c d e : Int} {xs : List Int} (x : Ex Ha Hb) (h : BagAt Ha b l c d e xs) : BagAt Hb b l c d e xs := ⟨x _ _ h.1, x _ _ h.2.1, h.2.2⟩
theorem Bag.ex {Ha Hb : Hp} {b : Addr} (x : Ex Ha Hb) (h : Bag Ha b) : Bag Hb b := by
  obtain ⟨l, c, d, e, xs, h⟩ := h
  exact ⟨l, c, d, e, xs, h.ex x⟩
theorem BagAt.set {H : Hp} {b l : Addr} {c d e c' d' e' : Int} {xs : List Int} (h : BagAt H b l c d e xs) : BagAt (upd H b (.lst [.ref l, .int c', .int d', .int e'])) b l c' d' e' xs := ⟨upd_same, by rw [upd_ne h.ne]; exact h.2.1, h.2.2⟩
section
variable {K : PySem.W.Frag} {σ : L2St} {H : Hp} {ta tb te : TE} {D : Ends} {tz tu : TS}
theorem ev_bagI {b : Addr} {xs : List V} {i : Nat} {v : V} (ha : Ev ta σ H (.ref b)) (hb : H b = some (.lst xs)) (hv : xs[i]? = some v) : Ev (tOp (rIxL K) ta (tC (.int (i : Nat)))) σ H v := ev_op ha ev_c (rv_ixL (sq_of hb) (atI_nat hv))
theorem q_setLL {l : Addr} {xs ys : List V} {j : Nat} (hl : H l = some (.lst xs)) (h : EvL te σ H ys) (ho : Ev ta σ H (.ref l)) (hi : Ev tb σ H (.int (j : Int))) (hj : j < xs.length) (k : ∀ p H1, H p = none → Ex H H1 → H1 p = some (.lst ys) → tz D σ (upd H1 l (.lst (xs.set j (.ref p))))) :
    tSeq (tAsg te (gSub ta tb rSetL)) tz D σ H := h H (Ex.refl H) _ fun p H1 hp e1 h1 => ho H1 e1 _ fun H2 e2 => hi H2 (e1.trans e2) _ fun H3 e3 =>
  ⟨l, xs, (j : Int), j, rfl, rfl, ((e1.trans e2).trans e3) l _ hl, ixN_nat hj, k p H3 hp ((e1.trans e2).trans e3) (e3 _ _ (e2 _ _ h1))⟩
theorem dp_ints (xs : List Int) : DpAll K H (intsV xs) (xs.map PyData.int) := by
  induction xs with
  | nil => exact .nil
  | cons x r ih => exact .cons (.int x) ih
theorem ints_lay : ∀ xs : List Int, PyData.canLayAll0 (xs.map PyData.int) = true ∧ PyData.depthAll (xs.map PyData.int) = 0
  | [] => ⟨rfl, rfl⟩
  | x :: r => by
    obtain ⟨h1, h2⟩ := ints_lay r
    refine ⟨?_, ?_⟩
    · rw [List.map_cons, PyData.canLayAll0, h1]
      rfl
    · rw [List.map_cons, PyData.depthAll, h2]
      rfl
theorem shaped_ints (xs : List Int) : SeqAt.shaped (.list (xs.map PyData.int)) = true := by
  obtain ⟨h1, h2⟩ := ints_lay xs
  unfold SeqAt.shaped
  rw [PyData.canLay0, h1, PyData.depth, h2]
  rfl
theorem shaped_intsT (xs : List Int) : SeqAt.shaped (.tuple (xs.map PyData.int)) = true := by
  obtain ⟨h1, h2⟩ := ints_lay xs
  unfold SeqAt.shaped
  rw [PyData.canLay0, h1, PyData.depth, h2]
  rfl
theorem eqv_nil (xs : List Int) : PyData.eqv (.list (xs.map PyData.int)) (.list []) = xs.isEmpty := by
  cases xs with
  | nil => rfl
  | cons x r => simp [PyData.eqv, PyData.eqvAll]
theorem eqv_nilT (xs : List Int) : PyData.eqv (.tuple (xs.map PyData.int)) (.tuple []) = xs.isEmpty := by
  cases xs with
  | nil => rfl
  | cons x r => simp [PyData.eqv, PyData.eqvAll]
theorem cut1 (x : Int) (r : List Int) : cutV (intsV (x :: r)) (some 1) none = intsV r := by
  unfold cutV
  have e : (1 : Int) = ((1 : Nat) : Int) := rfl
  rw [HT.sIx_none, e, HT.sIx_nat]
  have l : (intsV (x :: r)).length = r.length + 1 := by rw [intsV, List.length_map, List.length_cons]
  rw [l, Nat.min_eq_left (by omega)]
  show ((intsV r).take _) = _
  rw [List.take_of_length_le]
  rw [intsV, List.length_map]
  omega
theorem rc_int1 {i : Int} : RC (fun xs H Q => (∃ i, xs = [.int i] ∧ Q (.int i) H) ∨ ∃ k, xs = [.bl k] ∧ Q (.int (if k then 1 else 0)) H) [.int i] H (.int i) := fun H1 _ Q q => .inl ⟨i, rfl, q H1 (Ex.refl _)⟩
theorem rc_intb {k : Bool} : RC (fun xs H Q => (∃ i, xs = [.int i] ∧ Q (.int i) H) ∨ ∃ k, xs = [.bl k] ∧ Q (.int (if k then 1 else 0)) H) [.bl k] H (.int (if k then 1 else 0)) := fun H1 _ Q q => .inr ⟨k, rfl, q H1 (Ex.refl _)⟩
theorem rc_abs {i : Int} : RC (fun xs H Q => ∃ i, xs = [.int i] ∧ Q (.int (if i < 0 then -i else i)) H) [.int i] H (.int (if i < 0 then -i else i)) := fun H1 _ Q q => ⟨i, rfl, q H1 (Ex.refl _)⟩
theorem rv_mulR {i j : Int} (h : -(2 ^ 64) < j ∧ j < 2 ^ 64) : RV (rI CMul fun i j => .int (i * j)) (.int i) (.int j) H (.int (i * j)) := rv_I (.inr h)
theorem rv_mulL {i j : Int} (h : -(2 ^ 64) < i ∧ i < 2 ^ 64) : RV (rI CMul fun i j => .int (i * j)) (.int i) (.int j) H (.int (i * j)) := rv_I (.inl h)
theorem rv_mod {i j : Int} (h : 0 < j) : RV (rI (fun _ j => 0 < j) fun i j => .int (i % j)) (.int i) (.int j) H (.int (i % j)) := rv_I h
theorem rv_pow {i j : Int} (h : CPow i j) : RV (rI CPow fun i j => .int (i ^ j.toNat)) (.int i) (.int j) H (.int (i ^ j.toNat)) := rv_I h
end
section
variable {P : Program} {w : World} {K : PySem.W.Frag} {mg : Str → Option Value} {base : Heap} {a : Ad}
/-! ### _law_bag -/
abbrev s_Lbag : Stmt := topS 30
abbrev N_Lbag : List Str := ["_law_script"]
theorem sc_Lbag : FnScope N_Lbag ["_law_script"] (defScope s_Lbag) := ⟨rfl, rfl, rfl, by decide +kernel, rfl, by decide +kernel, by decide +kernel⟩
def spBag : Sp := fun vs H Q _ => ∃ (p : Addr) (xs : List Int), vs = [.ref p] ∧ SqL K H p (intsV xs) ∧ xs.length ≤ 63 ∧ ∀ b H', H b = none → Ex H H' → Bag H' b → Q (.ref b) H'
theorem cal_bag (T : Txt K mg a) (D : DF K mg "_law_bag" s_Lbag) : Cal P w K mg base 1 "_law_bag" (spBag (K := K)) [] := by
  refine mkCal D sc_Lbag (fun _ _ _ _ _ _ us hl => match us, hl with | [_], _ => rfl) (fun vs H Q E h => ?_) (fun f cdv A outer s H vs Q E hr h => ?_)
  · obtain ⟨_, _, rfl, _⟩ := h
    rfl
  · obtain ⟨p, xs, rfl, hp, hz, k⟩ := h
    refine ⟨_, (pss_one (ps_ret (pe_lst (pa_cons (pe_callTy (call_list_of) (by rfl) T.list_ (by decide +kernel) (pa_cons (pv 0) pa_nil)) (pa_cons pe_int (pa_cons pe_int (pa_cons pe_int pa_nil))))))), ?_⟩
    refine ⟨.ref p, rfl, p, intsV xs, rfl, .inl hp, fun l hl => ⟨by show 4 ≤ sizeLine; decide, fun b hb => ?_⟩⟩
    have ne : l ≠ b := fun q => by
      rw [q, upd_same] at hb
      cases hb
    exact k b _ (fresh_back (Ex.new hl) hb) ((Ex.new hl).trans (Ex.new hb)) ⟨l, 0, 29, 0, xs, upd_same, by rw [upd_ne ne]; exact upd_same, hz⟩
/-! ### _law_draw -/
abbrev s_Ldraw : Stmt := topS 31
abbrev N_Ldraw : List Str := ["_law_bag_here", "_law_many", "_law_cell", "_law_digit", "_law_mixed_here"]
theorem sc_Ldraw : FnScope N_Ldraw ["_law_bag_here", "_law_many"] (defScope s_Ldraw) := ⟨rfl, rfl, rfl, by decide +kernel, rfl, by decide +kernel, by decide +kernel⟩
def spDraw : Sp := fun vs H Q _ => ∃ (b : Addr) (m : Int), vs = [.ref b, .int m] ∧ Bag H b ∧ 0 < m ∧ m < 1073741824 ∧ ∀ (d : Nat) H', (d : Int) < m → Bag H' b → ExG b H H' → Q (.int (d : Nat)) H'
theorem cal_draw (T : Txt K mg a) (D : DF K mg "_law_draw" s_Ldraw) : Cal P w K mg base 1 "_law_draw" spDraw [] := by
  refine mkCal D sc_Ldraw (fun _ _ _ _ _ _ us hl => match us, hl with | [_, _], _ => rfl) (fun vs H Q E h => ?_) (fun f cdv A outer s H vs Q E hr h => ?_)
  · obtain ⟨_, _, rfl, _⟩ := h
    rfl
  · obtain ⟨b, m, rfl, ⟨l, c, d, e, xs, hB⟩, hm0, hm1, k⟩ := h
    refine ⟨_, (Evl.pss_cut (ps_if (PW.pt (pw_and (pt_cmpR op_eq (pe_ix (ix_listK (K := K)) (pv 0) pe_int (fun _ _ => rfl)) pe_int (nomark _)) (pw_and1 (pt_cmpR (op_neD (by exact hr.units)) (pe_ix (ix_listK (K := K)) (pv 0) pe_int (fun _ _ => rfl)) (pe_lst pa_nil) (nomark _))))) (pss_cons (ps_set (i := 2) sc_Ldraw.nd rfl (Or.inl rfl) (pe_ix (ix_listK (K := K)) (pe_ix (ix_listK (K := K)) (pv 0) pe_int (fun _ _ => rfl)) pe_int (fun _ _ => rfl)))
    (pss_cons (ps_asg (pe_slice sl_list (pe_ix (ix_listK (K := K)) (pv 0) pe_int (fun _ _ => rfl)) (po_some pe_int) po_none) (pg_sub (pv 0) pe_int set_list))
    (pss_cons (ps_asg (pe_op op_mod (pe_callTy (call_int1) (by rfl) T.int_ (by decide +kernel) (pa_cons (pe_op op_add (pe_op op_add (pe_op op_mul (pe_ix (ix_listK (K := K)) (pv 0) pe_int (fun _ _ => rfl)) pe_int) (pe_op op_mul (pv 2) pe_int)) pe_int) pa_nil)) pe_int) (pg_sub (pv 0) pe_int set_list))
    (pss_one (ps_if (pt_cmpR op_ge (pe_callB (call_abs) (by rfl) T.abs_ (by decide +kernel) (pa_cons (pv 2) pa_nil)) (pe_op op_pow pe_int pe_int) (nomark _)) (pss_one (ps_asg (pe_callB (call_abs) (by rfl) T.abs_ (by decide +kernel) (pa_cons (pv 2) pa_nil)) (pg_sub (pv 0) pe_int set_list))) pss_nil))))) pss_nil)
    (pss_cons (ps_if (pt_cmpR op_gt (pe_ix (ix_listK (K := K)) (pv 0) pe_int (fun _ _ => rfl)) pe_int (nomark _)) (pss_cons (ps_set (i := 3) sc_Ldraw.nd rfl (Or.inl rfl) (pe_op op_mod (pe_callTy (call_int1) (by rfl) T.int_ (by decide +kernel) (pa_cons (pe_ix (ix_listK (K := K)) (pv 0) pe_int (fun _ _ => rfl)) pa_nil)) (pv 1)))
    (pss_cons (ps_asg (pe_op op_fdiv (pe_ix (ix_listK (K := K)) (pv 0) pe_int (fun _ _ => rfl)) (pv 1)) (pg_sub (pv 0) pe_int set_list))
    (pss_one (ps_ret (pv 3))))) pss_nil)
    (pss_cons (ps_asg (pe_op op_add (pe_ix (ix_listK (K := K)) (pv 0) pe_int (fun _ _ => rfl)) pe_int) (pg_sub (pv 0) pe_int set_list))
    (pss_cons (ps_set (i := 4) sc_Ldraw.nd rfl (Or.inl rfl) (pe_op op_mod (pe_callTy (call_int1) (by rfl) T.int_ (by decide +kernel) (pa_cons (pe_op op_add (pe_ix (ix_listK (K := K)) (pv 0) pe_int (fun _ _ => rfl)) (pe_op op_mul (pe_ix (ix_listK (K := K)) (pv 0) pe_int (fun _ _ => rfl)) pe_int)) pa_nil)) pe_int))
    (pss_cons (ps_set (i := 4) sc_Ldraw.nd rfl (Or.inl rfl) (pe_op op_mod (pe_callTy (call_int1) (by rfl) T.int_ (by decide +kernel) (pa_cons (pe_op op_add (pe_op op_add (pe_op op_pow (pv 4) pe_int) (pe_op op_mul (pe_ix (ix_listK (K := K)) (pv 0) pe_int (fun _ _ => rfl)) pe_int)) pe_int) pa_nil)) pe_int))
    (pss_one (ps_ret (pe_op op_mod (pe_op op_fdiv (pe_op op_mod (pe_callTy (call_int1) (by rfl) T.int_ (by decide +kernel) (pa_cons (pe_op op_add (pe_op op_pow (pv 4) pe_int) (pe_op op_mul pe_int (pv 4))) pa_nil)) pe_int) pe_int) (pv 1))))))))), ?_⟩
    have Rest : ∀ v H', 0 ≤ v → v < m → Bag H' b → ExG b H H' → Q (.int v) H' := fun v H' h0 h1 hB e => by
      obtain ⟨u, rfl⟩ := Int.eq_ofNat_of_zero_le h0
      exact k u H' h1 hB e
    refine q_cut (M := fun σ' H' => ∃ y, σ' = [some (.ref b), some (.int m), y, none, none] ∧ Bag H' b ∧ ExG b H H') ?_ fun σ' H' z => ?_
    · refine s_if (b := decide (V.int c = V.int 0) && !xs.isEmpty) (et_and (et_test (ev_op (ev_bagI (i := 1) (ev_var rfl) hB.1 rfl) ev_c (rv_eq rfl))) fun _ => et_test (ev_opL (ev_bagI (i := 0) (ev_var rfl) hB.1 rfl) (el_lst ea_nil (by decide)) fun p H1 hp e1 => rv_val fun H2 e2 Q q =>
        ⟨.list (xs.map PyData.int), .list [], .lst (sq_of (e2 _ _ (e1 _ _ hB.2.1))) (dp_ints xs), .lst (sq_of (e2 _ _ hp)) .nil, shaped_ints xs, by decide, by rw [eqv_nil]; exact q⟩)) (fun hb H1 e1 => ?_) fun hb H1 e1 => ⟨none, rfl, ⟨l, c, d, e, xs, hB.ex e1⟩, ExG.of e1⟩
      cases xs with
      | nil => simp at hb
      | cons x r =>
        have hB1 := hB.ex e1
        refine q_asg (v := .int x) (ev_bagI (i := 0) (ev_bagI (i := 0) (ev_var rfl) hB1.1 rfl) hB1.2.1 rfl) fun H2 e2 => ?_
        have hB2 := hB1.ex e2
        refine q_setLL (j := 0) (ys := intsV r) hB2.1 (by
          rw [← cut1 x r]
          exact el_sl (ev_bagI (i := 0) (ev_var rfl) hB2.1 rfl) (eo_some ev_c) eo_none (sq_of hB2.2.1)) (ev_var rfl) ev_c (by simp only [List.length_cons, List.length_nil]; decide) fun p H3 hp e3 h3 => ?_
        have hB3 : BagAt (upd H3 b (.lst [.ref p, .int c, .int d, .int e])) b p c d e r := by
          have hb3 := e3 _ _ hB2.1
          have ne : p ≠ b := (fresh_ne hB2.1 hp).symm
          exact ⟨upd_same, by rw [upd_ne ne]; exact h3, by have := hB2.2.2; simp only [List.length_cons] at this; omega⟩
        have x3 : ExG b H (upd H3 b (.lst [.ref p, .int c, .int d, .int e])) := (ExG.of (e1.trans e2)).trans (ExG.fresh e3 hp)
        show tSeq _ _ _ _ (upd H3 b (.lst [.ref p, .int c, .int d, .int e]))
        generalize upd H3 b (.lst [.ref p, .int c, .int d, .int e]) = H4 at hB3 x3 ⊢
        refine q_setL (j := 2) (v := .int ((d * 69069 + x * 48271 + 5) % 2147483647)) hB3.1 (ev_op (ev_cb (ea_cons (ev_op (ev_op (ev_op (ev_bagI (i := 2) (ev_var rfl) hB3.1 rfl) ev_c (rv_mulR (by decide))) (ev_op (ev_var rfl) ev_c (rv_mulR (by decide))) rv_I0) ev_c rv_I0) ea_nil) rc_int1) ev_c (rv_mod (by decide))) (ev_var rfl) ev_c (by simp only [List.length_cons, List.length_nil]; decide) fun H5 e5 => ?_
        have hB5 := (hB3.ex e5).set (c' := c) (d' := (d * 69069 + x * 48271 + 5) % 2147483647) (e' := e)
        have x5 := (x3.trans (ExG.of e5)).trans (ExG.set (r' := [.int c, .int ((d * 69069 + x * 48271 + 5) % 2147483647), .int e]) (e5 _ _ hB3.1))
        show tIfS _ _ _ _ _ (upd H5 b (.lst [.ref p, .int c, .int ((d * 69069 + x * 48271 + 5) % 2147483647), .int e]))
        generalize upd H5 b (.lst [.ref p, .int c, .int ((d * 69069 + x * 48271 + 5) % 2147483647), .int e]) = H6 at hB5 x5 ⊢
        generalize (d * 69069 + x * 48271 + 5) % 2147483647 = d' at hB5 ⊢
        refine s_when (b := decide ((10 : Int) ^ (18 : Int).toNat ≤ if x < 0 then -x else x)) (et_test (ev_op (ev_cb (ea_cons (ev_var rfl) ea_nil) rc_abs) (ev_op ev_c ev_c (rv_pow ⟨by decide, by decide, by decide⟩)) rv_I0)) (fun _ H7 e7 => ?_) fun _ H7 e7 => ⟨_, rfl, ⟨p, c, d', e, r, hB5.ex e7⟩, x5.trans (ExG.of e7)⟩
        refine s_setL (j := 1) (v := .int (if x < 0 then -x else x)) (e7 _ _ hB5.1) (ev_cb (ea_cons (ev_var rfl) ea_nil) rc_abs) (ev_var rfl) ev_c (by simp only [List.length_cons, List.length_nil]; decide) fun H8 e8 => ?_
        exact ⟨_, rfl, ⟨p, _, d', e, r, (hB5.ex (e7.trans e8)).set⟩, (x5.trans (ExG.of (e7.trans e8))).trans (ExG.set ((e7.trans e8) _ _ hB5.1))⟩
    · obtain ⟨y, rfl, ⟨l, c, d, e, xs, hB⟩, xH⟩ := z
      refine q_if (b := decide ((0 : Int) < c)) (et_test (ev_op (ev_bagI (i := 1) (ev_var rfl) hB.1 rfl) ev_c rv_I0)) (fun hb H1 e1 => ?_) fun hb H1 e1 => ?_
      · have hB1 := hB.ex e1
        refine q_asg (v := .int (c % m)) (ev_op (ev_cb (ea_cons (ev_bagI (i := 1) (ev_var rfl) hB1.1 rfl) ea_nil) rc_int1) (ev_var rfl) (rv_mod hm0)) fun H2 e2 => ?_
        have hB2 := hB1.ex e2
        refine q_setL (j := 1) (v := .int (c / m)) hB2.1 (ev_op (ev_bagI (i := 1) (ev_var rfl) hB2.1 rfl) (ev_var rfl) (rv_I ⟨hm0, hm1⟩)) (ev_var rfl) ev_c (by simp only [List.length_cons, List.length_nil]; decide) fun H3 e3 => ?_
        exact s_ret (ev_var rfl) fun H4 e4 => Rest _ _ (Int.emod_nonneg _ (by omega)) (Int.emod_lt_of_pos _ hm0) (Bag.ex e4 ⟨l, _, d, e, xs, (hB2.ex e3).set⟩) (((xH.trans (ExG.of ((e1.trans e2).trans e3))).trans (ExG.set (e3 _ _ hB2.1))).trans (ExG.of e4))
      · have hB1 := hB.ex e1
        refine q_setL (j := 3) (v := .int (e + 1)) hB1.1 (ev_op (ev_bagI (i := 3) (ev_var rfl) hB1.1 rfl) ev_c rv_I0) (ev_var rfl) ev_c (by simp only [List.length_cons, List.length_nil]; decide) fun H2 e2 => ?_
        have hB2 := (hB1.ex e2).set (c' := c) (d' := d) (e' := e + 1)
        have x2 := (xH.trans (ExG.of (e1.trans e2))).trans (ExG.set (r' := [.int c, .int d, .int (e + 1)]) (e2 _ _ hB1.1))
        show tSeq _ _ _ _ (upd H2 b (.lst [.ref l, .int c, .int d, .int (e + 1)]))
        generalize upd H2 b (.lst [.ref l, .int c, .int d, .int (e + 1)]) = H3 at hB2 x2 ⊢
        refine q_asg (v := .int ((d + (e + 1) * 40692) % 2147483647)) (ev_op (ev_cb (ea_cons (ev_op (ev_bagI (i := 2) (ev_var rfl) hB2.1 rfl) (ev_op (ev_bagI (i := 3) (ev_var rfl) hB2.1 rfl) ev_c (rv_mulR (by decide))) rv_I0) ea_nil) rc_int1) ev_c (rv_mod (by decide))) fun H4 e4 => ?_
        have b1 := Int.emod_nonneg (d + (e + 1) * 40692) (show (2147483647 : Int) ≠ 0 by decide)
        have b2 := Int.emod_lt_of_pos (d + (e + 1) * 40692) (show (0 : Int) < 2147483647 by decide)
        generalize (d + (e + 1) * 40692) % 2147483647 = g at b1 b2 ⊢
        have hB4 := hB2.ex e4
        refine q_asg (v := .int ((g ^ (3 : Int).toNat + (e + 1) * 16807 + 7) % 2147483629)) (ev_op (ev_cb (ea_cons (ev_op (ev_op (ev_op (ev_var rfl) ev_c (rv_pow ⟨by decide, by decide, by omega⟩)) (ev_op (ev_bagI (i := 3) (ev_var rfl) hB4.1 rfl) ev_c (rv_mulR (by decide))) rv_I0) ev_c rv_I0) ea_nil) rc_int1) ev_c (rv_mod (by decide))) fun H5 e5 => ?_
        have b3 := Int.emod_nonneg (g ^ (3 : Int).toNat + (e + 1) * 16807 + 7) (show (2147483629 : Int) ≠ 0 by decide)
        have b4 := Int.emod_lt_of_pos (g ^ (3 : Int).toNat + (e + 1) * 16807 + 7) (show (0 : Int) < 2147483629 by decide)
        generalize (g ^ (3 : Int).toNat + (e + 1) * 16807 + 7) % 2147483629 = g2 at b3 b4 ⊢
        refine s_ret (v := .int ((g2 ^ (2 : Int).toNat + 3 * g2) % 2147483587 / 8 % m)) (ev_op (ev_op (ev_op (ev_cb (ea_cons (ev_op (ev_op (ev_var rfl) ev_c (rv_pow ⟨by decide, by decide, by omega⟩)) (ev_op ev_c (ev_var rfl) (rv_mulL (by decide))) rv_I0) ea_nil) rc_int1) ev_c (rv_mod (by decide))) ev_c (rv_I ⟨by decide, by decide⟩)) (ev_var rfl) (rv_mod hm0)) fun H6 e6 =>
          Rest _ _ (Int.emod_nonneg _ (by omega)) (Int.emod_lt_of_pos _ hm0) (Bag.ex ((e4.trans e5).trans e6) ⟨l, _, _, _, xs, hB2⟩) (x2.trans (ExG.of ((e4.trans e5).trans e6)))
end
end LX


set_option Elab.async false
set_option linter.all false
set_option maxRecDepth 100000
set_option maxHeartbeats 4000000
/-! The law's small helpers. -/
namespace LX
open PySem PySem.Spec PyProof.Rows L2 TL Evl SX C8
theorem seqIndex_nat {i n : Nat} (h : i < n) : seqIndex? (i : Int) n = some i := by
  have h0 : ¬ ((i : Int) < 0) := by omega
  unfold seqIndex?
  simp only [h0, if_false]
  rw [if_pos (by simp; omega)]
  rfl
theorem ExG.mut {b : Addr} {H H' : Hp} {p : Addr} {o : HO} (e : ExG b H H') (h : H p = none) : ExG b H (L2.upd H' p o) := ⟨fun c u n hc => by
  rw [upd_ne (fun q => by rw [q, h] at hc; cases hc)]
  exact e.1 c u n hc, fun D u n hD g => by
  obtain ⟨l, r, h1, h2⟩ := e.2 D u n hD g
  refine ⟨l, r, ?_, h2⟩
  rw [upd_ne]
  · exact h1
  · intro q
    obtain ⟨_, _, h3, _⟩ := g
    rw [q, h] at h3
    cases h3⟩
theorem nats_ints (o : List Nat) : natsV o = intsV (o.map Int.ofNat) := by
  unfold natsV intsV
  rw [List.map_map]
  rfl
theorem erase_map {α β : Type} (f : α → β) : ∀ (l : List α) (i : Nat), (l.eraseIdx i).map f = (l.map f).eraseIdx i
  | [], _ => rfl
  | _ :: _, 0 => rfl
  | a :: l, i + 1 => by
    show f a :: (l.eraseIdx i).map f = f a :: (l.map f).eraseIdx i
    rw [erase_map f l i]
theorem nats_len (o : List Nat) : (natsV o).length = o.length := List.length_map _
theorem Bag.wr {H : Hp} {b q : Addr} {ys : List Nat} (h : Bag H b) (hq : q ≠ b) (hz : ys.length ≤ 63) : Bag (L2.upd H q (.lst (natsV ys))) b := by
  obtain ⟨l, c, d, e, xs, h1, h2, h3⟩ := h
  by_cases hl : l = q
  · subst hl
    exact ⟨l, c, d, e, ys.map Int.ofNat, by rw [upd_ne hq.symm]; exact h1, by rw [upd_same, nats_ints], by rw [List.length_map]; exact hz⟩
  · exact ⟨l, c, d, e, xs, by rw [upd_ne hq.symm]; exact h1, by rw [upd_ne hl]; exact h2, h3⟩
section
variable {P : Program} {w : World} {K : PySem.W.Frag} {mg : Str → Option Value} {base : Heap} {a : Ad}
/-! ### _law_mixed -/
abbrev s_Lmixed : Stmt := topS 32
abbrev N_Lmixed : List Str := ["_law_bag_here", "_law_items", "_law_left", "_law_found", "_law_k"]
theorem sc_Lmixed : FnScope N_Lmixed ["_law_bag_here", "_law_items"] (defScope s_Lmixed) := ⟨rfl, rfl, rfl, by decide +kernel, rfl, by decide +kernel, by decide +kernel⟩
def spMixed : Sp := fun vs H Q _ => ∃ (b p : Addr) (items : List Nat), vs = [.ref b, .ref p] ∧ Bag H b ∧ p ≠ b ∧ H p = some (.lst (natsV items)) ∧ items.length ≤ 6 ∧ ∀ r ys H', H r = none → ExG b H H' → Bag H' b → H' r = some (.lst (natsV ys)) → ys.length = items.length → (∀ y ∈ ys, y ∈ items) → Q (.ref r) H'
theorem cal_mixed (T : Txt K mg a) (D : DF K mg "_law_mixed" s_Lmixed) (C__law_draw : Cal P w K mg base 1 "_law_draw" spDraw []) : Cal P w K mg base 2 "_law_mixed" spMixed [] := by
  refine mkCal D sc_Lmixed (fun _ _ _ _ _ _ us hl => match us, hl with | [_, _], _ => rfl) (fun vs H Q E h => ?_) (fun f cdv A outer s H vs Q E hr h => ?_)
  · obtain ⟨_, _, _, rfl, _⟩ := h
    rfl
  · obtain ⟨b, p, items, rfl, hB, hpb, hp, hz, k⟩ := h
    refine ⟨_, (pss_cons (ps_set (i := 2) sc_Lmixed.nd rfl (Or.inl rfl) (pe_callTy (call_list_of) (by rfl) T.list_ (by decide +kernel) (pa_cons (pv 1) pa_nil)))
    (pss_cons (ps_set (i := 3) sc_Lmixed.nd rfl (Or.inl rfl) (pe_lst pa_nil))
    (pss_cons (ps_for PassesOwn.never rfl (pi_range1 rfl T.range_ (pa_cons (pe_callB (call_len_seqK (K := K)) (by rfl) T.len_ (by decide +kernel) (pa_cons (pv 1) pa_nil)) pa_nil)) (pg_name (i := 4) sc_Lmixed.nd rfl (Or.inl rfl)) (pss_one (ps_expr (pe_bm PySem.F.plainAttrs_list PySem.F.slot_list_append PySem.F.type_list_append mt_append (pv 3) (pa_cons (pe_bm PySem.F.plainAttrs_list PySem.F.slot_list_pop PySem.F.type_list_pop mt_popAt (pv 2) (pa_cons (pe_c C__law_draw hr (by decide) rfl (pa_cons (pv 0) (pa_cons (pe_callB (call_len_seqK (K := K)) (by rfl) T.len_ (by decide +kernel) (pa_cons (pv 2) pa_nil)) pa_nil))) pa_nil)) pa_nil)))))
    (pss_one (ps_ret (pv 3)))))), ?_⟩
    refine q_asgL (xs := natsV items) (el_list (ev_var rfl) (sq_of hp)) fun L H1 hL e1 h1 => ?_
    refine q_asgL (xs := []) (el_lst ea_nil (by decide)) fun F H2 hF e2 h2 => ?_
    have e12 := e1.trans e2
    have hbH : ∃ o, H b = some o := by
      obtain ⟨l, c, d, e, xs, h⟩ := hB
      exact ⟨_, h.1⟩
    obtain ⟨ob, hob⟩ := hbH
    have hLb : L ≠ b := (fresh_ne hob hL).symm
    have hFb : F ≠ b := (fresh_ne (e1 _ _ hob) hF).symm
    have hLF : L ≠ F := fresh_ne h1 hF
    refine q_forR1 (n := (items.length : Nat)) (ea_cons (ev_is (ev_len (ev_var rfl) (sq_of (e12 _ _ hp))) (by rw [nats_len])) ea_nil) (by omega)
      (fun i σ' H' => ∃ y xs ys, σ' = [some (.ref b), some (.ref p), some (.ref L), some (.ref F), y] ∧ ExG b H H' ∧ Bag H' b ∧ H' L = some (.lst (natsV xs)) ∧ H' F = some (.lst (natsV ys)) ∧ xs.length + i = items.length ∧ ys.length = i ∧ (∀ y ∈ xs, y ∈ items) ∧ ∀ y ∈ ys, y ∈ items)
      (fun H3 e3 => ⟨none, items, [], rfl, ExG.of (e12.trans e3), hB.ex (e12.trans e3), e3 _ _ (e2 _ _ h1), e3 _ _ h2, rfl, rfl, fun y h => h, fun y h => absurd h (by simp)⟩) (fun i σ' H' hi z => ?_) (fun σ' H' z => ?_)
    · obtain ⟨y, xs, ys, rfl, x1, x2, x3, x4, x5, x6, x7, x8⟩ := z
      have hxs : 0 < xs.length := by omega
      refine ⟨.ref F, rfl, .inl ⟨rfl, _, sq_of x4⟩, .ref L, rfl, .inl ⟨rfl, _, sq_of x3⟩, .ref b, rfl, .ref L, rfl, L, natsV xs, rfl, .inl (sq_of x3), b, (xs.length : Nat), by rw [nats_len]; rfl, x2, by omega, by omega, fun d H3 hd hB3 e3 => ?_⟩
      have l3 := e3.1 _ _ hLb x3
      have f3 := e3.1 _ _ hFb x4
      have hd' : d < xs.length := by omega
      refine ⟨L, natsV xs, (d : Nat), d, .int (xs[d] : Nat), rfl, rfl, l3, by omega, by omega, by rw [nats_len]; exact seqIndex_nat hd', by rw [natsV, List.getElem?_map, List.getElem?_eq_getElem hd']; rfl, F, natsV ys, .int (xs[d] : Nat), rfl, rfl, by rw [upd_ne hLF.symm]; exact f3, by rw [nats_len]; exact Nat.lt_of_lt_of_le (show ys.length < 100000 by omega) (szle (Nat.le_refl _)), ?_⟩
      refine ⟨_, xs.eraseIdx d, ys ++ [xs[d]], rfl, ((x1.trans e3).mut hL).mut (fresh_back e1 hF), ?_, ?_, ?_, ?_, ?_, ?_, ?_⟩
      · have n1 : natsV (xs.eraseIdx d) = (natsV xs).eraseIdx d := by rw [natsV, natsV, erase_map]
        have n2 : natsV (ys ++ [xs[d]]) = natsV ys ++ [V.int (xs[d] : Nat)] := by rw [natsV, natsV, List.map_append]; rfl
        rw [← n1, ← n2]
        refine (hB3.wr hLb ?_).wr hFb ?_
        · have := List.length_eraseIdx_le (l := xs) (i := d)
          omega
        · rw [List.length_append, List.length_singleton]
          omega
      · rw [upd_ne hLF, upd_same, natsV, natsV, erase_map]
      · rw [upd_same, natsV, natsV, List.map_append]
        rfl
      · rw [List.length_eraseIdx_of_lt hd']
        omega
      · rw [List.length_append, List.length_singleton]
        omega
      · exact fun y hy => x7 y (List.mem_of_mem_eraseIdx hy)
      · intro y hy
        rcases List.mem_append.mp hy with h | h
        · exact x8 y h
        · rw [List.mem_singleton.mp h]
          exact x7 _ (List.getElem_mem hd')
    · obtain ⟨y, xs, ys, rfl, x1, x2, x3, x4, x5, x6, x7, x8⟩ := z
      exact s_ret (ev_var rfl) fun H3 e3 => k F ys H3 (fresh_back e1 hF) (x1.trans (ExG.of e3)) (x2.ex e3) (e3 _ _ x4) (by omega) x8
end
end LX


set_option Elab.async false
set_option linter.all false
set_option maxRecDepth 100000
set_option maxHeartbeats 4000000
/-! The law's strings, inputs, patterns, put, open spots. -/
namespace LX
open PySem PySem.Spec PyProof.Rows L2 TL Evl SX C8
def signsV (sg : List Nat) : List V := sg.map fun c => V.str (S [c])
section
variable {K : PySem.W.Frag} {σ : L2St} {H : Hp} {ta tb te : TE} {D : Ends} {tz tu : TS}
theorem el_cat {p : Addr} {xs ys : List V} (h1 : Ev ta σ H (.ref p)) (hp : H p = some (.lst xs)) (h2 : EvL tb σ H ys) (hz : xs.length + ys.length ≤ 100000) : EvL (tOp rCat ta tb) σ H (xs ++ ys) := fun H1 e Q k =>
  h1 H1 e _ fun H2 e2 => h2 H2 (e.trans e2) _ fun q H3 hq e3 h3 => ⟨p, q, xs, ys, rfl, rfl, e3 _ _ (e2 _ _ (e _ _ hp)), h3, szle hz, fun r hr => k r _ (fresh_back (e2.trans e3) hr) ((e2.trans e3).trans (Ex.new hr)) upd_same⟩
end
def longer (sg : List Nat) (l : List (List Nat)) : List (List Nat) := l.flatMap fun t => sg.map fun s => t ++ [s]
theorem longer_len (sg : List Nat) : ∀ l : List (List Nat), (longer sg l).length = l.length * sg.length
  | [] => by simp [longer]
  | t :: l => by
    have h := longer_len sg l
    unfold longer at h ⊢
    rw [List.flatMap_cons, List.length_append, h, List.length_map, List.length_cons, Nat.add_mul]
    omega
theorem longer_next {sg : List Nat} {l : List (List Nat)} {i : Nat} (h : i < l.length) : longer sg (l.take (i + 1)) = longer sg (l.take i) ++ sg.map fun s => l[i] ++ [s] := by
  unfold longer
  rw [take_next h, List.flatMap_append]
  simp
theorem texts_app (x y : List (List Nat)) : texts (x ++ y) = texts x ++ texts y := List.map_append
section
variable {P : Program} {w : World} {K : PySem.W.Frag} {mg : Str → Option Value} {base : Heap} {a : Ad}
abbrev s_Lstrings : Stmt := topS 33
abbrev N_Lstrings : List Str := ["_law_many", "_law_signs", "_law_found", "_law_k", "_law_longer", "_law_text", "_law_sign"]
theorem sc_Lstrings : FnScope N_Lstrings ["_law_many", "_law_signs"] (defScope s_Lstrings) := ⟨rfl, rfl, rfl, by decide +kernel, rfl, by decide +kernel, by decide +kernel⟩
def spLstrings : Sp := fun vs H Q _ => ∃ (n : Nat) (p : Addr) (sg : List Nat), vs = [.int n, .ref p] ∧ H p = some (.lst (signsV sg)) ∧ n ≤ 6 ∧ sg.length ≤ 3 ∧ RetL (texts (strL sg n)) H Q
theorem cal_lstrings (T : Txt K mg a) (D : DF K mg "_law_strings" s_Lstrings) : Cal P w K mg base 1 "_law_strings" spLstrings [] := by
  refine mkCal D sc_Lstrings (fun _ _ _ _ _ _ us hl => match us, hl with | [_, _], _ => rfl) (fun vs H Q E h => ?_) (fun f cdv A outer s H vs Q E hr h => ?_)
  · obtain ⟨_, _, _, rfl, _⟩ := h
    rfl
  · obtain ⟨n, p, sg, rfl, hp, hn, hsg, k⟩ := h
    refine ⟨_, (pss_cons (ps_set (i := 2) sc_Lstrings.nd rfl (Or.inl rfl) (pe_lst (pa_cons pe_str pa_nil)))
    (pss_cons (ps_for PassesOwn.never rfl (pi_range1 rfl T.range_ (pa_cons (pv 0) pa_nil)) (pg_name (i := 3) sc_Lstrings.nd rfl (Or.inl rfl)) (pss_cons (ps_set (i := 4) sc_Lstrings.nd rfl (Or.inl rfl) (pe_lst pa_nil))
    (pss_cons (ps_for PassesOwn.never rfl (pi_listK (K := K) (pv 2)) (pg_name (i := 5) sc_Lstrings.nd rfl (Or.inr rfl)) (pss_one (ps_set (i := 4) sc_Lstrings.nd rfl (Or.inl rfl) (pe_op op_cat (pv 4) (pe_lc (own := [("_law_sign", 6)]) (g := (gName 6)) (tt := tYes) rfl sc_Lstrings.nd (pi_listK (K := K) (pv 1)) (blkOk_by (own := [("_law_sign", 6)]) (N := N_Lstrings) (sc := defScope s_Lstrings) (by decide +kernel)) (fun _ _ _ _ _ => (pg_name (i := 6) sc_Lstrings.nd rfl (Or.inl rfl))) (fun _ _ _ _ _ => pts_nil) (fun _ _ _ _ _ => (pe_op op_add_str (pv 5) (pv 6))))))))
    (pss_one (ps_set (i := 2) sc_Lstrings.nd rfl (Or.inl rfl) (pv 4))))))
    (pss_one (ps_ret (pv 2))))), ?_⟩
    refine q_asgL (xs := texts (strL sg 0)) (el_lst (ea_cons ev_c ea_nil) (by show 1 ≤ 100000; decide)) fun p0 H1 hp0 e1 h1 => ?_
    refine q_forR1 (n := n) (ea_cons (ev_var rfl) ea_nil) (by omega) (fun i σ' H' => ∃ (q : Addr) (x y z u : Option V), σ' = [some (.int n), some (.ref p), some (.ref q), x, y, z, u] ∧ H q = none ∧ Ex H H' ∧ H' q = some (.lst (texts (strL sg i)))) (fun H2 e2 => ⟨p0, none, none, none, none, rfl, hp0, e1.trans e2, e2 _ _ h1⟩) (fun i σ' H' hi z => ?_) (fun σ' H' z => ?_)
    · obtain ⟨q, x, y, z, u, rfl, hq, eH, hx⟩ := z
      have hi6 : i < 6 := by omega
      have hl : (strL sg i).length ≤ 243 := by
        rw [strL_len]
        exact Nat.le_trans (Nat.pow_le_pow_left hsg i) (Nat.le_trans (Nat.pow_le_pow_right (by decide) (by omega : i ≤ 5)) (by decide))
      refine q_asgL (xs := []) (el_lst ea_nil (by decide)) fun m H2 hm e2 h2 => ?_
      refine q_forLn (xs := texts (strL sg i)) (ev_var rfl) (sq_of (e2 _ _ hx)) (fun j σ' H' => ∃ (m' : Addr) (z u : Option V), σ' = [some (.int n), some (.ref p), some (.ref q), some (.int i), some (.ref m'), z, u] ∧ H m' = none ∧ Ex H H' ∧ H' q = some (.lst (texts (strL sg i))) ∧ H' m' = some (.lst (texts (longer sg ((strL sg i).take j)))))
        (fun H3 e3 => ⟨m, z, u, rfl, fresh_back eH hm, (eH.trans e2).trans e3, e3 _ _ (e2 _ _ hx), e3 _ _ h2⟩) (fun j σ' H' _ z => by
          obtain ⟨_, _, _, _, _, _, h, _⟩ := z
          exact sq_of h) (fun j t σ' H' ht z => ?_) (fun σ' H' z => ?_)
      · obtain ⟨m', z, u, rfl, hm', eH', hq', hmm⟩ := z
        have hj : j < (strL sg i).length := by
          have := (List.getElem?_eq_some_iff.mp ht).1
          rw [texts, List.length_map] at this
          exact this
        have et : t = V.str (S (strL sg i)[j]) := by
          rw [texts, List.getElem?_map, List.getElem?_eq_getElem hj] at ht
          exact (Option.some.inj ht).symm
        subst et
        have htl : (strL sg i)[j].length = i := strL_mem_len (List.getElem_mem hj)
        have hlen : (texts (longer sg ((strL sg i).take j))).length ≤ 729 := by
          rw [texts, List.length_map, longer_len, List.length_take]
          calc min j (strL sg i).length * sg.length ≤ 243 * 3 := Nat.mul_le_mul (by omega) hsg
            _ ≤ 729 := by decide
        refine s_asgL (xs := texts (longer sg ((strL sg i).take (j + 1)))) ?_ fun m2 H4 hm2 e4 h4 => ⟨m2, _, _, rfl, fresh_back eH' hm2, eH'.trans e4, e4 _ _ hq', h4⟩
        rw [longer_next hj, texts_app]
        have em : texts (sg.map fun s => (strL sg i)[j] ++ [s]) = sg.map fun s => V.str (S ((strL sg i)[j] ++ [s])) := by rw [texts, List.map_map]; rfl
        refine el_cat (ev_var rfl) hmm ?_ (by
          rw [em, List.length_map]
          omega)
        rw [em]
        exact el_map (en := fun c => V.str (S [c])) (es_list (ev_var rfl) (sq_of (eH' _ _ hp))) (by omega) (fun x => rfl) fun c _ H5 _ => ev_op (ev_var rfl) (ev_var rfl) (rv_addS (by
          simp only [List.length_singleton]
          omega))
      · obtain ⟨m', z, u, rfl, hm', eH', hq', hmm⟩ := z
        have hlt : (texts (strL sg i)).length = (strL sg i).length := by rw [texts, List.length_map]
        rw [hlt, List.take_length] at hmm
        exact s_asg (v := .ref m') (ev_var rfl) fun H4 e4 => ⟨m', _, _, _, _, rfl, hm', eH'.trans e4, e4 _ _ hmm⟩
    · obtain ⟨q, x, y, z, u, rfl, hq, eH, hx⟩ := z
      exact s_ret (ev_var rfl) fun H2 e2 => k q H2 hq (eH.trans e2) (e2 _ _ hx)
theorem ea_new {σ : L2St} {H : Hp} {te : TE} {sp : Sp} {E : XK} {t : TA} {v : V} {xs ys : List V} (h1 : Ev te σ H v) (h2 : EvA t σ H xs) (hz : xs.length ≤ 100000) (hs : ∀ p H1, Ex H H1 → H1 p = some (.lst xs) → SpL sp [v, .ref p] H1 ys) : EvL (tCall sp [] E (tCons te (tCons (tLst t) tNil))) σ H ys := fun H1 e Q k =>
  h1 H1 e _ fun H2 e2 => h2 H2 (e.trans e2) _ fun H3 e3 => ⟨szle hz, fun p hp => hs p _ (((e.trans e2).trans e3).trans (Ex.new hp)) upd_same _ (Ex.refl _) Q (fun r H4 hr e4 h4 => k r H4 (fresh_back ((e2.trans e3).trans (Ex.new hp)) hr) ((((e2.trans e3).trans (Ex.new hp))).trans e4) h4) E⟩
abbrev s_Linputs : Stmt := topS 34
abbrev N_Linputs : List Str := ["_law_many"]
theorem sc_Linputs : FnScope N_Linputs ["_law_many"] (defScope s_Linputs) := ⟨rfl, rfl, rfl, by decide +kernel, rfl, by decide +kernel, by decide +kernel⟩
def spLinputs : Sp := fun vs H Q _ => ∃ n : Nat, vs = [.int n] ∧ n ≤ 6 ∧ RetL (texts (ins n)) H Q
theorem cal_linputs (T : Txt K mg a) (D : DF K mg "_law_inputs" s_Linputs) (C__law_strings : Cal P w K mg base 1 "_law_strings" spLstrings []) : Cal P w K mg base 2 "_law_inputs" spLinputs [] := by
  refine mkCal D sc_Linputs (fun _ _ _ _ _ _ us hl => match us, hl with | [_], _ => rfl) (fun vs H Q E h => ?_) (fun f cdv A outer s H vs Q E hr h => ?_)
  · obtain ⟨_, rfl, _⟩ := h
    rfl
  · obtain ⟨n, rfl, hn, k⟩ := h
    refine ⟨_, (pss_one (ps_ret (pe_c C__law_strings hr (by decide) rfl (pa_cons (pv 0) (pa_cons (pe_lst (pa_cons pe_str (pa_cons pe_str pa_nil))) pa_nil))))), ?_⟩
    exact s_retL (ea_new (xs := signsV [48, 49]) (ev_var rfl) (ea_cons ev_c (ea_cons ev_c ea_nil)) (by decide) fun p H1 e1 h1 H2 e Q q E => ⟨n, p, [48, 49], rfl, e _ _ h1, hn, by decide, q⟩) k
abbrev s_Lpatterns : Stmt := topS 35
abbrev N_Lpatterns : List Str := ["_law_many"]
theorem sc_Lpatterns : FnScope N_Lpatterns ["_law_many"] (defScope s_Lpatterns) := ⟨rfl, rfl, rfl, by decide +kernel, rfl, by decide +kernel, by decide +kernel⟩
def spLpatterns : Sp := fun vs H Q _ => ∃ n : Nat, vs = [.int n] ∧ n ≤ 6 ∧ RetL (texts (pats n)) H Q
theorem cal_lpatterns (T : Txt K mg a) (D : DF K mg "_law_patterns" s_Lpatterns) (C__law_strings : Cal P w K mg base 1 "_law_strings" spLstrings []) : Cal P w K mg base 2 "_law_patterns" spLpatterns [] := by
  refine mkCal D sc_Lpatterns (fun _ _ _ _ _ _ us hl => match us, hl with | [_], _ => rfl) (fun vs H Q E h => ?_) (fun f cdv A outer s H vs Q E hr h => ?_)
  · obtain ⟨_, rfl, _⟩ := h
    rfl
  · obtain ⟨n, rfl, hn, k⟩ := h
    refine ⟨_, (pss_one (ps_ret (pe_c C__law_strings hr (by decide) rfl (pa_cons (pv 0) (pa_cons (pe_lst (pa_cons pe_str (pa_cons pe_str (pa_cons pe_str pa_nil)))) pa_nil))))), ?_⟩
    exact s_retL (ea_new (xs := signsV [45, 48, 49]) (ev_var rfl) (ea_cons ev_c (ea_cons ev_c (ea_cons ev_c ea_nil))) (by decide) fun p H1 e1 h1 H2 e Q q E => ⟨n, p, [45, 48, 49], rfl, e _ _ h1, hn, by decide, q⟩) k
abbrev s_Lput : Stmt := topS 36
abbrev N_Lput : List Str := ["_law_text", "_law_at", "_law_sign"]
theorem sc_Lput : FnScope N_Lput ["_law_text", "_law_at", "_law_sign"] (defScope s_Lput) := ⟨rfl, rfl, rfl, by decide +kernel, rfl, by decide +kernel, by decide +kernel⟩
theorem cal_lput (T : Txt K mg a) (D : DF K mg "_law_put" s_Lput) : Cal P w K mg base 1 "_law_put" spPut [] := by
  refine mkCal D sc_Lput (fun _ _ _ _ _ _ us hl => match us, hl with | [_, _, _], _ => rfl) (fun vs H Q E h => ?_) (fun f cdv A outer s H vs Q E hr h => ?_)
  · obtain ⟨_, _, _, rfl, _⟩ := h
    rfl
  · obtain ⟨z, i, c, rfl, hi, hz, k⟩ := h
    refine ⟨_, (pss_one (ps_ret (pe_op op_add_str (pe_op op_add_str (pe_slice sl_str (pv 0) po_none (po_some (pv 1))) (pv 2)) (pe_slice sl_str (pv 0) (po_some (pe_op op_add (pv 1) pe_int)) po_none)))), ?_⟩
    exact s_ret (ev_put hi hz (ev_var rfl) (ev_var rfl) (ev_var rfl) (ev_var rfl) (ev_var rfl)) k
abbrev s_Lopen_spots : Stmt := topS 37
abbrev N_Lopen_spots : List Str := ["_law_pattern", "_law_k"]
theorem sc_Lopen_spots : FnScope N_Lopen_spots ["_law_pattern"] (defScope s_Lopen_spots) := ⟨rfl, rfl, rfl, by decide +kernel, rfl, by decide +kernel, by decide +kernel⟩
def spotsOf (p : List Nat) : List Nat := (List.range p.length).filter fun k => decide (p.getD k 0 = 45)
def spLspots : Sp := fun vs H Q _ => ∃ z : List Nat, vs = [.str (S z)] ∧ z.length ≤ 1000 ∧ RetL (natsV (spotsOf z)) H Q
theorem dec_sign (c d : Nat) : decide (V.str (S [c]) = V.str (S [d])) = decide (c = d) := by
  by_cases h : c = d
  · rw [h, decide_eq_true rfl, decide_eq_true rfl]
  · rw [decide_eq_false h]
    exact decide_eq_false fun q => h (by
      have := S_inj (V.str.inj q)
      simpa using this)
theorem getD_at {z : List Nat} {i : Nat} (h : i < z.length) : z.getD i 0 = z[i] := by rw [List.getD_eq_getElem?_getD, List.getElem?_eq_getElem h]; rfl
/-- [k for k in range(n) if text[k] == c] -/
theorem el_marks {σ : L2St} {H : Hp} {ta : TA} {tx ty tk : TE} {z : List Nat} {c n j : Nat} {vs : List Nat} (h : EvA ta σ H [.int n]) (hn : n ≤ z.length) (hz : z.length ≤ 1000) (hw : ∀ x, wipe ((wipe σ vs).set j (some x)) vs = wipe σ vs)
    (h1 : ∀ k : Nat, ∀ H1, Ex H H1 → Ev tx ((wipe σ vs).set j (some (.int (k : Nat)))) H1 (.str (S z))) (h2 : ∀ k : Nat, ∀ H1, Ex H H1 → Ev ty ((wipe σ vs).set j (some (.int (k : Nat)))) H1 (.int (k : Nat))) (h3 : ∀ k : Nat, ∀ H1, Ex H H1 → Ev tk ((wipe σ vs).set j (some (.int (k : Nat)))) H1 (.int (k : Nat))) :
    EvL (tLc (iRng1 ta) (gName j) (tTest (tOp rEq (tOp rIxS tx ty) (tC (.str (S [c]))))) tk vs) σ H (natsV ((List.range n).filter fun k => decide (z.getD k 0 = c))) := by
  refine el_cmp (l := List.range n) (en := fun i => V.int (i : Nat)) (es_range h (by omega)) (by rw [List.length_range]; omega) hw (fun k hk H1 e => ?_) fun k hk H1 e _ => h3 k H1 e
  have hk' : k < z.length := by
    have := List.mem_range.mp hk
    omega
  refine et_test (ev_is (ev_op (ev_ixS (h1 k H1 e) (h2 k H1 e) (by omega) (List.getElem?_eq_getElem hk')) ev_c (rv_eq rfl)) ?_)
  rw [dec_sign, getD_at hk']
theorem cal_lspots (T : Txt K mg a) (D : DF K mg "_law_open_spots" s_Lopen_spots) : Cal P w K mg base 1 "_law_open_spots" spLspots [] := by
  refine mkCal D sc_Lopen_spots (fun _ _ _ _ _ _ us hl => match us, hl with | [_], _ => rfl) (fun vs H Q E h => ?_) (fun f cdv A outer s H vs Q E hr h => ?_)
  · obtain ⟨_, rfl, _⟩ := h
    rfl
  · obtain ⟨z, rfl, hz, k⟩ := h
    refine ⟨_, (pss_one (ps_ret (pe_lc (own := [("_law_k", 1)]) (g := (gName 1)) rfl sc_Lopen_spots.nd (pi_range1 rfl T.range_ (pa_cons (pe_callB (call_len_str) (by rfl) T.len_ (by decide +kernel) (pa_cons (pv 0) pa_nil)) pa_nil)) (blkOk_by (own := [("_law_k", 1)]) (N := N_Lopen_spots) (sc := defScope s_Lopen_spots) (by decide +kernel)) (fun _ _ _ _ _ => (pg_name (i := 1) sc_Lopen_spots.nd rfl (Or.inl rfl))) (fun _ _ _ _ _ => pts_one (pt_cmpR op_eq (pe_ix ix_str (pv 0) (pv 1) (fun _ _ => rfl)) pe_str (nomark _))) (fun _ _ _ _ _ => (pv 1))))), ?_⟩
    exact s_retL (el_marks (z := z) (n := z.length) (ea_cons (ev_cb (ea_cons (ev_var rfl) ea_nil) (rc_lenS (by omega))) ea_nil) (Nat.le_refl _) hz (fun x => rfl) (fun k H1 _ => ev_var rfl) (fun k H1 _ => ev_var rfl) fun k H1 _ => ev_var rfl) k
end
end LX


set_option Elab.async false
set_option linter.all false
set_option maxRecDepth 100000
set_option maxHeartbeats 4000000
/-! _law_rule. -/
namespace LX
open PySem PySem.Spec PyProof.Rows L2 TL Evl SX C8
theorem getLast_at {ys : List Nat} (h : ys ≠ []) : atI (natsV ys) (-1) = some (V.int (ys.getLast h : Nat)) := by
  have e : natsV ys = natsV ys.dropLast ++ [V.int (ys.getLast h : Nat)] := by
    conv => lhs; rw [← List.dropLast_concat_getLast h]
    rw [natsV, List.map_append]
    rfl
  rw [e]
  exact atI_last _ _
theorem cut_take (ys : List Nat) {j : Nat} (h : j ≤ ys.length) : cutV (natsV ys) none (some (j : Int)) = natsV (ys.take j) := by
  unfold cutV
  rw [HT.sIx_none, HT.sIx_nat, nats_len, List.drop_zero, Nat.sub_zero, Nat.min_eq_left h, natsV, natsV, List.map_take]
section
variable {K : PySem.W.Frag} {σ : L2St} {H : Hp} {ta tb te : TE}
theorem ev_pick {g : Bool} (h : Ev te σ H (.int (if g then 1 else 0))) : Ev (tOp (rIxL K) (tLst (tCons (tC (.str (S [48]))) (tCons (tC (.str (S [49]))) tNil))) te) σ H (.str (S [if g then 49 else 48])) :=
  ev_opL1 (el_lst (ea_cons ev_c (ea_cons ev_c ea_nil)) (by show 2 ≤ 100000; decide)) (fun H1 e => h.mono e) fun p H1 hp e => by
    cases g with
    | true => exact rv_ixL (i := ((1 : Nat) : Int)) (sq_of hp) (atI_nat rfl)
    | false => exact rv_ixL (i := ((0 : Nat) : Int)) (sq_of hp) (atI_nat rfl)
theorem ev_last {p : Addr} {ys : List Nat} (ha : Ev ta σ H (.ref p)) (hp : H p = some (.lst (natsV ys))) (h : ys ≠ []) : Ev (tOp (rIxL K) ta (tUn (rU fun i => .int (-i)) (tC (.int 1)))) σ H (.int (ys.getLast h : Nat)) :=
  ev_op ha (ev_un ev_c ru_neg) (rv_ixL (sq_of hp) (getLast_at h))
theorem ev_bitS {z : List Nat} {i : Nat} (ha : Ev ta σ H (.str (S z))) (hb : Ev tb σ H (.int (i : Nat))) (hz : z.length ≤ 1000) (hi : i < z.length) : Ev (tOp rEq (tOp rIxS ta tb) (tC (.str (S [49])))) σ H (.bl (decide (z[i] = 49))) := by
  rw [← dec_sign]
  exact ev_op (ev_ixS ha hb (by omega) (List.getElem?_eq_getElem hi)) ev_c (rv_eq rfl)
theorem ev_intS {c : Nat} (h : Ev te σ H (.str (S [c]))) (hc : c = 48 ∨ c = 49) : Ev (tCB (fun xs H Q => ∃ a n, xs = [.str a] ∧ PySem.intText? a = some n ∧ a.length ≤ 640 ∧ Q (.int n) H) (tCons te tNil)) σ H (.int ((c : Int) - 48)) :=
  ev_cb (ea_cons h ea_nil) fun H2 _ Q q => ⟨S [c], _, rfl, intText_bit hc, by show 1 ≤ 640; decide, q H2 (Ex.refl _)⟩
end
section
variable {P : Program} {w : World} {K : PySem.W.Frag} {mg : Str → Option Value} {base : Heap} {a : Ad}
abbrev s_Lrule : Stmt := topS 38
abbrev N_Lrule : List Str := ["_law_bag_here", "_law_many", "_law_way", "_law_some", "_law_cut", "_law_piece", "_law_table_here", "_law_text", "_law_ones", "_law_good", "_law_k"]
theorem sc_Lrule : FnScope N_Lrule ["_law_bag_here", "_law_many", "_law_way"] (defScope s_Lrule) := ⟨rfl, rfl, rfl, by decide +kernel, rfl, by decide +kernel, by decide +kernel⟩
def Bits (z : List Nat) : Prop := ∀ c ∈ z, c = 48 ∨ c = 49
def spTab : Sp := fun vs H Q _ => ∃ (b : Addr) (n : Nat), vs = [.ref b, .int n] ∧ Bag H b ∧ n ≤ 5 ∧ ∀ z H', IsTabN n z → ExG b H H' → Bag H' b → Q (.str (S z)) H'
def spRule : Sp := fun vs H Q _ => ∃ (b : Addr) (n way : Nat), vs = [.ref b, .int n, .int way] ∧ Bag H b ∧ 0 < n ∧ n ≤ 5 ∧ ∀ z H', IsTabN n z → ExG b H H' → Bag H' b → Q (.str (S z)) H'
theorem cal_rule (T : Txt K mg a) (D : DF K mg "_law_rule" s_Lrule) (C__law_draw : Cal P w K mg base 1 "_law_draw" spDraw []) (C__law_mixed : Cal P w K mg base 2 "_law_mixed" spMixed []) (C__law_inputs : Cal P w K mg base 2 "_law_inputs" spLinputs []) : Cal P w K mg base 3 "_law_rule" spRule [] := by
  refine mkCal D sc_Lrule (fun _ _ _ _ _ _ us hl => match us, hl with | [_, _, _], _ => rfl) (fun vs H Q E h => ?_) (fun f cdv A outer s H vs Q E hr h => ?_)
  · obtain ⟨_, _, _, rfl, _⟩ := h
    rfl
  · obtain ⟨b, n, way, rfl, hB, hn0, hn5, k⟩ := h
    obtain ⟨ob, hob⟩ : ∃ o, H b = some o := by
      obtain ⟨l, c, d, e, xs, h⟩ := hB
      exact ⟨_, h.1⟩
    refine ⟨_, (pss_cons (ps_set (i := 3) sc_Lrule.nd rfl (Or.inl rfl) (pe_c C__law_mixed hr (by decide) rfl (pa_cons (pv 0) (pa_cons (pe_listRg rfl (by rfl) T.list_ (prg_1 (by rfl) T.range_ (pv 1))) pa_nil))))
    (pss_cons (ps_set (i := 4) sc_Lrule.nd rfl (Or.inl rfl) (pe_c C__law_draw hr (by decide) rfl (pa_cons (pv 0) (pa_cons (pe_op op_add (pv 1) pe_int) pa_nil))))
    (pss_cons (ps_set (i := 5) sc_Lrule.nd rfl (Or.inl rfl) (pe_slice sl_list (pv 3) po_none (po_some (pe_op op_add pe_int (pe_c C__law_draw hr (by decide) rfl (pa_cons (pv 0) (pa_cons (pv 1) pa_nil)))))))
    (pss_cons (ps_set (i := 6) sc_Lrule.nd rfl (Or.inl rfl) pe_str)
    (pss_cons (ps_for PassesOwn.never rfl (pi_listK (K := K) (pe_c C__law_inputs hr (by decide) rfl (pa_cons (pv 1) pa_nil))) (pg_name (i := 7) sc_Lrule.nd rfl (Or.inr rfl)) (pss_cons (ps_setLc (i := 8) (own := [("_law_k", 10)]) (g := (gName 10)) rfl sc_Lrule.nd rfl rfl (sw_true rfl rfl rfl (by decide +kernel)) (pi_listK (K := K) (pv 5)) (blkOk_by (own := [("_law_k", 10)]) (N := N_Lrule) (sc := defScope s_Lrule) (by decide +kernel)) (fun _ _ _ _ _ => (pg_name (i := 10) sc_Lrule.nd rfl (Or.inl rfl))) (fun _ _ _ _ _ => pts_one (pt_cmpR op_eq (pe_ix ix_str (pv 7) (pv 10) (fun _ _ => rfl)) pe_str (nomark _))) (fun _ _ _ _ _ => (pv 10)))
    (pss_cons (ps_set (i := 9) sc_Lrule.nd rfl (Or.inl rfl) (pe_cmpR op_ge (pe_m1 PySem.F.slot_str_count PySem.F.type_str_count mt_count (pv 7) pe_str) (pv 4) (nomark _)))
    (Evl.pss_cut (ps_if (pt_cmpR op_eq (pv 2) pe_int (nomark _)) (pss_one (ps_set (i := 9) sc_Lrule.nd rfl (Or.inl rfl) (pe_cmpR op_eq (pe_op op_mod (pe_callB (call_len_seqK (K := K)) (by rfl) T.len_ (by decide +kernel) (pa_cons (pv 8) pa_nil)) pe_int) pe_int (nomark _)))) pss_nil)
    (Evl.pss_cut (ps_if (pt_cmpR op_eq (pv 2) pe_int (nomark _)) (pss_one (ps_set (i := 9) sc_Lrule.nd rfl (Or.inl rfl) (pe_or (pe_cmpR op_eq (pe_callB (call_len_seqK (K := K)) (by rfl) T.len_ (by decide +kernel) (pa_cons (pv 8) pa_nil)) (pe_callB (call_len_seqK (K := K)) (by rfl) T.len_ (by decide +kernel) (pa_cons (pv 5) pa_nil)) (nomark _)) (pe_one (pe_cmpR op_eq (pe_ix ix_str (pv 7) (pe_ix (ix_listK (K := K)) (pv 3) (pe_un un_neg pe_int) (fun _ _ => rfl)) (fun _ _ => rfl)) pe_str (nomark _)))))) pss_nil)
    (Evl.pss_cut (ps_if (pt_cmpR op_eq (pv 2) pe_int (nomark _)) (pss_one (ps_set (i := 9) sc_Lrule.nd rfl (Or.inl rfl) (pe_cmpR op_eq (pe_ix ix_str (pv 7) (pe_ix (ix_listK (K := K)) (pe_lst (pa_cons (pe_ix (ix_listK (K := K)) (pv 3) (pe_un un_neg pe_int) (fun _ _ => rfl)) (pa_cons (pe_ix (ix_listK (K := K)) (pv 3) (pe_op op_fdiv (pe_callB (call_len_seqK (K := K)) (by rfl) T.len_ (by decide +kernel) (pa_cons (pv 3) pa_nil)) pe_int) (fun _ _ => rfl)) pa_nil))) (pe_callTy (call_int_str) (by rfl) T.int_ (by decide +kernel) (pa_cons (pe_ix ix_str (pv 7) (pe_ix (ix_listK (K := K)) (pv 3) pe_int (fun _ _ => rfl)) (fun _ _ => rfl)) pa_nil)) (fun _ _ => rfl)) (fun _ _ => rfl)) pe_str (nomark _)))) pss_nil)
    (pss_one (ps_set (i := 6) sc_Lrule.nd rfl (Or.inl rfl) (pe_op op_add_str (pv 6) (pe_ix (ix_listK (K := K)) (pe_lst (pa_cons pe_str (pa_cons pe_str pa_nil))) (pe_callTy (call_int1) (by rfl) T.int_ (by decide +kernel) (pa_cons (pv 9) pa_nil)) (fun _ _ => rfl)))))))))))
    (pss_one (ps_ret (pv 6)))))))), ?_⟩
    -- some = mixed(bag, list(range(many)))
    refine ⟨.ref b, rfl, el_rg1 (n := n) (ev_var rfl) (by omega) H (Ex.refl _) _ fun p H1 hp e1 h1 => ?_⟩
    have hpb : p ≠ b := (fresh_ne hob hp).symm
    refine ⟨b, p, List.range n, rfl, hB.ex e1, hpb, h1, by rw [List.length_range]; omega, fun r ys H2 hr2 x2 hB2 hr hyl hym => ?_⟩
    rw [List.length_range] at hyl
    have hyn : ∀ y ∈ ys, y < n := fun y hy => List.mem_range.mp (hym y hy)
    have hy0 : ys ≠ [] := fun q => by rw [q] at hyl; simp at hyl; omega
    have hrb : r ≠ b := (fresh_ne (e1 _ _ hob) hr2).symm
    have hrH : H r = none := fresh_back e1 hr2
    -- cut
    refine ⟨.ref b, rfl, .int n, rfl, n, 2, rfl, rfl, b, (n : Int) + 2, rfl, hB2, by omega, by omega, fun c H3 hc hB3 x3 => ?_⟩
    -- piece
    refine ⟨.ref r, rfl, .ref b, rfl, .int n, rfl, b, n, rfl, hB3, by omega, by omega, fun d H4 hd hB4 x4 => ⟨1, (d : Nat), rfl, rfl, _, rfl, r, natsV ys, rfl, sq_of (x4.1 _ _ hrb (x3.1 _ _ hrb hr)), fun pc hpc => ?_⟩⟩
    have hdl : 1 + d ≤ ys.length := by omega
    have ed : (1 : Int) + (d : Nat) = ((1 + d : Nat) : Int) := by omega
    rw [ed, cut_take ys hdl]
    have x5 : ExG b H (L2.upd H4 pc (.lst (natsV (ys.take (1 + d))))) := (((ExG.of e1).trans x2).trans (x3.trans x4)).trans (ExG.of (Ex.new hpc))
    have hB5 : Bag (L2.upd H4 pc (.lst (natsV (ys.take (1 + d))))) b := hB4.ex (Ex.new hpc)
    have r5 : L2.upd H4 pc (.lst (natsV (ys.take (1 + d)))) r = some (.lst (natsV ys)) := Ex.new hpc _ _ (x4.1 _ _ hrb (x3.1 _ _ hrb hr))
    have p5 : L2.upd H4 pc (.lst (natsV (ys.take (1 + d)))) pc = some (.lst (natsV (ys.take (1 + d)))) := upd_same
    generalize hpn : ys.take (1 + d) = ps at p5 r5 x5 hB5 ⊢
    have hpm : ∀ y ∈ ps, y < n := fun y hy => hyn y (by rw [← hpn] at hy; exact List.mem_of_mem_take hy)
    have hpl : ps.length ≤ 5 := by rw [← hpn, List.length_take]; omega
    show tSeq _ _ _ _ (L2.upd H4 pc (.lst (natsV ps)))
    generalize L2.upd H4 pc (.lst (natsV ps)) = H5 at p5 r5 x5 hB5 ⊢
    refine q_asg (v := .str (S [])) ev_c fun H6 e6 => ?_
    refine q_forNLn (xs := texts (ins n)) (el_call (vs := [.int (n : Nat)]) (ea_cons (ev_var rfl) ea_nil) fun H7 e Q q E => ⟨n, rfl, by omega, q⟩)
      (fun q i σ' H' => ∃ z v7 v8 v9 v10, σ' = [some (.ref b), some (.int n), some (.int way), some (.ref r), some (.int (c : Nat)), some (.ref pc), some (.str (S z)), v7, v8, v9, v10] ∧ z.length = i ∧ Bits z ∧ Ex H5 H' ∧ H' q = some (.lst (texts (ins n))))
      (fun q H7 hq e7 h7 => ⟨[], none, none, none, none, rfl, rfl, fun c h => absurd h (by simp), e6.trans e7, h7⟩) (fun q i σ' H' _ z => by
        obtain ⟨_, _, _, _, _, _, _, _, _, h⟩ := z
        exact sq_of h) (fun q i x σ' H' hx z => ?_) (fun q σ' H' z => ?_)
    · obtain ⟨z, v7, v8, v9, v10, rfl, hzl, hzb, eH, hq⟩ := z
      have hi : i < (ins n).length := by
        have := (List.getElem?_eq_some_iff.mp hx).1
        rw [texts, List.length_map] at this
        exact this
      have ex : x = V.str (S (ins n)[i]) := by
        rw [texts, List.getElem?_map, List.getElem?_eq_getElem hi] at hx
        exact (Option.some.inj hx).symm
      subst ex
      have htm : (ins n)[i] ∈ ins n := List.getElem_mem hi
      generalize (ins n)[i] = t at htm ⊢
      obtain ⟨htl, htb⟩ := mem_strL.mp htm
      have htb' : ∀ c ∈ t, c = 48 ∨ c = 49 := fun c hc => by simpa using htb c hc
      refine q_asgL (xs := natsV (ps.filter fun k => decide (t.getD k 0 = 49))) ?_ fun o H7 ho e7 h7 => ?_
      · refine el_cmp (l := ps) (en := fun i => V.int (i : Nat)) (es_list (ev_var rfl) (sq_of (eH _ _ p5))) (by omega) (fun x => rfl) (fun k hk H7 e => ?_) fun k hk H7 e _ => ev_var rfl
        have hk' : k < t.length := by have := hpm k hk; omega
        refine et_test ?_
        rw [getD_at hk']
        exact ev_bitS (ev_var rfl) (ev_var rfl) (by omega) hk'
      generalize (ps.filter fun k => decide (t.getD k 0 = 49)) = onesL at h7
      have e57 := eH.trans e7
      refine q_asg (v := .bl (decide ((c : Int) ≤ Txt.count (S t) "1"))) (ev_op (x := .int (Txt.count (S t) "1")) (fun H8 e Q q => ⟨_, rfl, ⟨_, rfl⟩, ⟨S t, "1", rfl, rfl, q H8 (Ex.refl _)⟩⟩) (ev_var rfl) rv_I0) fun H8 e8 => ?_
      generalize decide ((c : Int) ≤ Txt.count (S t) "1") = g0
      have e58 := e57.trans e8
      refine q_cut (M := fun σ' H' => ∃ g : Bool, σ' = [some (.ref b), some (.int n), some (.int way), some (.ref r), some (.int (c : Nat)), some (.ref pc), some (.str (S z)), some (.str (S t)), some (.ref o), some (.bl g), v10] ∧ Ex H8 H') ?_ fun σ' H9 z9 => ?_
      · refine s_when (b := decide (V.int (way : Nat) = V.int 1)) (et_test (ev_op (ev_var rfl) ev_c (rv_eq rfl))) (fun _ H9 e9 => ?_) fun _ H9 e9 => ⟨g0, rfl, e9⟩
        exact s_asg (v := .bl (decide (V.int (((natsV onesL).length : Int) % 2) = V.int 1))) (ev_op (ev_op (ev_len (ev_var rfl) (sq_of (e9 _ _ (e8 _ _ h7)))) ev_c (rv_mod (by decide))) ev_c (rv_eq rfl)) fun H10 e10 => ⟨_, rfl, e9.trans e10⟩
      obtain ⟨g1, rfl, e9⟩ := z9
      refine q_cut (M := fun σ' H' => ∃ g : Bool, σ' = [some (.ref b), some (.int n), some (.int way), some (.ref r), some (.int (c : Nat)), some (.ref pc), some (.str (S z)), some (.str (S t)), some (.ref o), some (.bl g), v10] ∧ Ex H9 H') ?_ fun σ' H10 z10 => ?_
      · refine s_when (b := decide (V.int (way : Nat) = V.int 2)) (et_test (ev_op (ev_var rfl) ev_c (rv_eq rfl))) (fun _ H10 e10 => ?_) fun _ H10 e10 => ⟨g1, rfl, e10⟩
        have e510 := e58.trans (e9.trans e10)
        have hlt : ys.getLast hy0 < t.length := by rw [htl]; exact hyn _ (List.getLast_mem hy0)
        exact s_asg (v := .bl (decide (V.int ((natsV onesL).length : Nat) = V.int ((natsV ps).length : Nat)) || decide (t[ys.getLast hy0] = 49))) (ev_orV (ev_op (ev_len (ev_var rfl) (sq_of ((e9.trans e10) _ _ (e8 _ _ h7)))) (ev_len (ev_var rfl) (sq_of (e510 _ _ p5))) (rv_eq rfl)) fun _ =>
          ev_bitS (ev_var rfl) (ev_last (ev_var rfl) (e510 _ _ r5) hy0) (by omega) hlt) fun H11 e11 => ⟨_, rfl, e10.trans e11⟩
      obtain ⟨g2, rfl, e10⟩ := z10
      refine q_cut (M := fun σ' H' => ∃ g : Bool, σ' = [some (.ref b), some (.int n), some (.int way), some (.ref r), some (.int (c : Nat)), some (.ref pc), some (.str (S z)), some (.str (S t)), some (.ref o), some (.bl g), v10] ∧ Ex H10 H') ?_ fun σ' H11 z11 => ?_
      · refine s_when (b := decide (V.int (way : Nat) = V.int 3)) (et_test (ev_op (ev_var rfl) ev_c (rv_eq rfl))) (fun _ H11 e11 => ?_) fun _ H11 e11 => ⟨g2, rfl, e11⟩
        have e511 := e58.trans (e9.trans (e10.trans e11))
        have y0 : 0 < ys.length := by omega
        have yh : ys.length / 2 < ys.length := by omega
        have h0 : ys[0] < t.length := by rw [htl]; exact hyn _ (List.getElem_mem y0)
        have c0 := htb' _ (List.getElem_mem h0)
        have A1 := hyn _ (List.getLast_mem hy0)
        have A2 := hyn _ (List.getElem_mem yh)
        have h3 : (if t[ys[0]] = 49 then ys[ys.length / 2] else ys.getLast hy0) < t.length := by
          rw [htl]
          split
          · exact A2
          · exact A1
        refine s_asg (v := .bl (decide (t[if t[ys[0]] = 49 then ys[ys.length / 2] else ys.getLast hy0] = 49))) (ev_bitS (ev_var rfl) (ev_opL1 (xs := [.int (ys.getLast hy0 : Nat), .int (ys[ys.length / 2] : Nat)]) (y := .int ((t[ys[0]] : Int) - 48)) (el_lst (ea_cons (ev_last (ev_var rfl) (e511 _ _ r5) hy0) (ea_cons (ev_op (y := .int (ys.length / 2 : Nat)) (ev_var rfl) (ev_is (ev_op (ev_len (ev_var rfl) (sq_of (e511 _ _ r5))) ev_c (rv_I ⟨by decide, by decide⟩)) ?_) (rv_ixL (sq_of (e511 _ _ r5)) (atI_nat ?_))) ea_nil)) (by show 2 ≤ 100000; decide))
          (fun H12 e12 => ev_intS (ev_ixS (ev_var rfl) (ev_bagI (i := 0) (ev_var rfl) ((e511.trans e12) _ _ r5) ?_) (by omega) (List.getElem?_eq_getElem h0)) c0) fun p2 H12 hp2 e12 => ?_) (by omega) h3) fun H12 e12 => ⟨_, rfl, e11.trans e12⟩
        · rw [nats_len]
          rfl
        · rw [natsV, List.getElem?_map, List.getElem?_eq_getElem yh]
          rfl
        · rw [natsV, List.getElem?_map, List.getElem?_eq_getElem y0]
          rfl
        · rcases c0 with q | q
          · rw [q, if_neg (by decide)]
            exact rv_ixL (i := ((0 : Nat) : Int)) (sq_of hp2) (atI_nat rfl)
          · rw [q, if_pos rfl]
            exact rv_ixL (i := ((1 : Nat) : Int)) (sq_of hp2) (atI_nat rfl)
      obtain ⟨g3, rfl, e11⟩ := z11
      refine s_asg (v := .str (S (z ++ [if g3 then 49 else 48]))) (ev_op (ev_var rfl) (ev_pick (g := g3) (ev_cb (ea_cons (ev_var rfl) ea_nil) rc_intb)) (rv_addS ?_)) fun H12 e12 => ⟨_, _, _, _, _, rfl, by rw [List.length_append, hzl]; rfl, fun c hc => ?_, e58.trans (e9.trans (e10.trans (e11.trans e12))), ((e7.trans e8).trans (e9.trans (e10.trans (e11.trans e12)))) _ _ hq⟩
      · have h32 : (ins n).length ≤ 32 := by
          rw [ins_len]
          exact Nat.le_trans (Nat.pow_le_pow_right (by decide) hn5) (by decide)
        simp only [List.length_singleton]
        omega
      · rcases List.mem_append.mp hc with h | h
        · exact hzb c h
        · rw [List.mem_singleton.mp h]
          split
          · exact .inr rfl
          · exact .inl rfl
    · obtain ⟨z, v7, v8, v9, v10, rfl, hzl, hzb, eH, hq⟩ := z
      refine s_ret (ev_var rfl) fun H7 e7 => k z H7 ⟨by omega, ?_, hzb⟩ (x5.trans (ExG.of (eH.trans e7))) (hB5.ex (eH.trans e7))
      rw [hzl, texts, List.length_map, ins_len]
end
end LX


set_option Elab.async false
set_option linter.all false
set_option maxRecDepth 100000
set_option maxHeartbeats 4000000
/-! _law_table. -/
namespace LX
open PySem PySem.Spec PyProof.Rows L2 TL Evl SX C8
section
variable {K : PySem.W.Frag} {σ : L2St} {H : Hp} {ta tb te : TE} {D : Ends} {tz tu tw : TS} {b : Addr} {m : Int} {E : XK}
abbrev tDraw (E : XK) (te : TE) : TE := tCall spDraw [] E (tCons (tVar 0) (tCons te tNil))
theorem dr {Q : VK} (hs : σ[0]? = some (some (.ref b))) (hm : Ev te σ H (.int m)) (hB : Bag H b) (h0 : 0 < m) (h1 : m < 1073741824) (k : ∀ (d : Nat) H', (d : Int) < m → Bag H' b → ExG b H H' → Q (.int (d : Nat)) H') : tDraw E te σ H Q :=
  ⟨.ref b, hs, hm H (Ex.refl _) _ fun H1 e1 => ⟨b, m, rfl, hB.ex e1, h0, h1, fun d H2 hd hB2 x2 => k d H2 hd hB2 ((ExG.of e1).trans x2)⟩⟩
theorem q_dr {i : Nat} (hs : σ[0]? = some (some (.ref b))) (hm : Ev te σ H (.int m)) (hB : Bag H b) (h0 : 0 < m) (h1 : m < 1073741824) (k : ∀ (d : Nat) H', (d : Int) < m → Bag H' b → ExG b H H' → tz D (σ.set i (some (.int (d : Nat)))) H') : tSeq (tAsg (tDraw E te) (gName i)) tz D σ H :=
  dr (Q := fun v H' => tz D (σ.set i (some v)) H') hs hm hB h0 h1 k
theorem s_ifDr (hs : σ[0]? = some (some (.ref b))) (hm : Ev te σ H (.int m)) (hB : Bag H b) (h0 : 0 < m) (h1 : m < 1073741824) (k : ∀ (d : Nat) H', (d : Int) < m → Bag H' b → ExG b H H' → (d = 0 → tu D σ H') ∧ (d ≠ 0 → tw D σ H')) : tIfS (tTest (tOp rEq (tDraw E te) (tC (.int 0)))) tu tw D σ H :=
  dr (Q := fun x H' => rEq x (.int 0) H' fun v H' => ∃ b, v = .bl b ∧ if b = true then tu D σ H' else tw D σ H') hs hm hB h0 h1 fun d H' hd hB' x => ⟨rfl, _, rfl, by
    obtain ⟨k1, k2⟩ := k d H' hd hB' x
    by_cases h : d = 0
    · subst h
      rw [decide_eq_true (show V.int ((0 : Nat) : Int) = V.int 0 from rfl), if_pos rfl]
      exact k1 rfl
    · rw [decide_eq_false (fun q => h (by have := V.int.inj q; omega)), if_neg Bool.false_ne_true]
      exact k2 h⟩
theorem q_forDr {j : Nat} (hs : σ[0]? = some (some (.ref b))) (hm : Ev te σ H (.int m)) (hB : Bag H b) (h0 : 0 < m) (h1 : m ≤ 1000) (k : ∀ (d : Nat) H1, (d : Int) < m → Bag H1 b → ExG b H H1 → ∃ Pv : Nat → L2St → Hp → Prop, Pv 0 σ H1 ∧
    (∀ i σ' H', i < d → Pv i σ' H' → tu { D with nx := Pv (i + 1), ct := Pv (i + 1), bk := tz D } (σ'.set j (some (.int (i : Nat)))) H') ∧ ∀ σ' H', Pv d σ' H' → tz D σ' H') : tSeq (tFor (iRng1 (tCons (tDraw E te) tNil)) (gName j) tu) tz D σ H :=
  dr (Q := fun v H1 => ∃ j' : Int, [v] = [.int j'] ∧ -(2 ^ 62) ≤ j' ∧ j' < 2 ^ 62 ∧ ∃ W : Nat → Nat → L2.St → Hp → Prop, (∃ m, W 0 m σ H1) ∧ ∀ i m σ H, W i m σ H →
      ((Itr 0 j'.toNat).stop i H ∧ tz D σ H) ∨ ((Itr 0 j'.toNat).go i H ∧ ∃ N : L2.St → Hp → Prop, (∀ σ' H', N σ' H' → ∃ m', m' < m ∧ W (i + 1) m' σ' H') ∧ ∀ x H', (Itr 0 j'.toNat).yld i H x H' → gName j x σ H' fun σ2 H2 => tu { D with nx := N, ct := N, bk := tz D } σ2 H2)) hs hm hB h0 (by omega) fun d H1 hd hB1 x1 => by
    obtain ⟨Pv, p0, ps, pd⟩ := k d H1 hd hB1 x1
    refine ⟨d, rfl, by omega, by omega, for_range (D := { D with nx := tz D }) (lo := 0) (n := d) Pv p0 (fun i σ' H' hi p => ?_) pd⟩
    have e0 : (0 : Int) + (i : Int) = (i : Int) := Int.zero_add _
    show tu { D with nx := Pv (i + 1), ct := Pv (i + 1), bk := tz D } (σ'.set j (some (.int ((0 : Int) + (i : Int))))) H'
    rw [e0]
    exact ps i σ' H' hi p
theorem pickDr {Q : VK} {x0 x1 : V} (hs : σ[0]? = some (some (.ref b))) (hB : Bag H b) (k : ∀ (d : Nat) H', d < 2 → Bag H' b → ExG b H H' → Q (if d = 0 then x0 else x1) H') : tOp (rIxL K) (tLst (tCons (tC x0) (tCons (tC x1) tNil))) (tDraw E (tC (.int 2))) σ H Q :=
  ⟨by show 2 ≤ sizeLine; decide, fun p hp => by
    obtain ⟨ob, hob⟩ : ∃ o, H b = some o := by
      obtain ⟨l, c, d, e, xs, h⟩ := hB
      exact ⟨_, h.1⟩
    have pb : p ≠ b := (fresh_ne hob hp).symm
    refine dr (m := 2) hs ev_c (hB.ex (Ex.new hp)) (by decide) (by decide) fun d H' hd hB' x => ⟨p, [x0, x1], (d : Nat), if d = 0 then x0 else x1, rfl, rfl, sq_of (x.1 _ _ pb upd_same), ?_, k d H' (by omega) hB' ((ExG.of (Ex.new hp)).trans x)⟩
    have : d = 0 ∨ d = 1 := by omega
    rcases this with h | h <;> subst h <;> exact atI_nat rfl⟩
theorem lc_rgX {ta : TA} {n j : Nat} {vs : List Nat} {Q : VK} (h : EvA ta σ H [.int (n : Nat)]) (hn : n ≤ 100000) (hw : ∀ x, wipe ((wipe σ vs).set j (some x)) vs = wipe σ vs) (Pv : Addr → Nat → Hp → Prop) (h0 : ∀ D H1, Ex H H1 → H1 D = none → Pv D 0 (L2.upd H1 D (.lst [])))
    (hs : ∀ D i H', i < n → Pv D i H' → te ((wipe σ vs).set j (some (.int (i : Nat)))) H' fun y H4 => ∃ acc, H4 D = some (.lst acc) ∧ acc.length < sizeLine ∧ Pv D (i + 1) (L2.upd H4 D (.lst (acc ++ [y])))) (hd : ∀ D H', Pv D n H' → Q (.ref D) H') : tLc (iRng1 ta) (gName j) tYes te vs σ H Q :=
  h H (Ex.refl _) _ fun H1 e1 => ⟨n, rfl, by omega, by omega, fun Dl hD => lc_it (walk_range (lo := 0) (n := n)) (Pv Dl) (h0 Dl H1 e1 hD) (fun _ _ _ _ => trivial) (fun i x Ha Hb hi z y => by
    obtain ⟨rfl, rfl⟩ := y
    refine ⟨hw _, ?_⟩
    have e0 : (0 : Int) + (i : Nat) = (i : Nat) := Int.zero_add _
    have k := hs Dl i _ hi z
    rw [← e0] at k
    exact k) (fun H' z => hd Dl H' z)⟩
theorem dr_step {z : List Nat} {i c : Nat} (hi : i < z.length) : z.take i ++ [c] ++ z.drop (i + 1) = z.set i c := by
  rw [List.set_eq_take_append_cons_drop, if_pos hi, List.append_assoc]
  rfl
end
theorem Bag.obj {H : Hp} {b : Addr} (h : Bag H b) : ∃ o, H b = some o := by
  obtain ⟨l, c, d, e, xs, h⟩ := h
  exact ⟨_, h.1⟩
section
variable {P : Program} {w : World} {K : PySem.W.Frag} {mg : Str → Option Value} {base : Heap} {a : Ad}
abbrev s_Ltable : Stmt := topS 39
abbrev N_Ltable : List Str := ["_law_bag_here", "_law_many", "_law_way", "_law_table_here", "_law_share", "_law_bits", "_law_k", "_law_at"]
theorem sc_Ltable : FnScope N_Ltable ["_law_bag_here", "_law_many"] (defScope s_Ltable) := ⟨rfl, rfl, rfl, by decide +kernel, rfl, by decide +kernel, by decide +kernel⟩
theorem cal_table (T : Txt K mg a) (D : DF K mg "_law_table" s_Ltable) (C__law_draw : Cal P w K mg base 1 "_law_draw" spDraw []) (C__law_rule : Cal P w K mg base 3 "_law_rule" spRule []) (C__law_inputs : Cal P w K mg base 2 "_law_inputs" spLinputs []) : Cal P w K mg base 4 "_law_table" spTab [] := by
  refine mkCal D sc_Ltable (fun _ _ _ _ _ _ us hl => match us, hl with | [_, _], _ => rfl) (fun vs H Q E h => ?_) (fun f cdv A outer s H vs Q E hr h => ?_)
  · obtain ⟨_, _, rfl, _⟩ := h
    rfl
  · obtain ⟨b, n, rfl, hB, hn5, k⟩ := h
    have h32 : 2 ^ n ≤ 32 := Nat.le_trans (Nat.pow_le_pow_right (by decide) hn5) (by decide)
    have h1n : 0 < 2 ^ n := Nat.pow_pos (by decide)
    refine ⟨_, (pss_cons (ps_set (i := 2) sc_Ltable.nd rfl (Or.inl rfl) (pe_c C__law_draw hr (by decide) rfl (pa_cons (pv 0) (pa_cons pe_int pa_nil))))
    (Evl.pss_cut (ps_if (PW.pt (pw_and (pt_cmpR op_gt (pv 1) pe_int (nomark _)) (pw_and1 (pt_cmpR op_lt (pv 2) pe_int (nomark _))))) (pss_one (ps_set (i := 3) sc_Ltable.nd rfl (Or.inl rfl) (pe_c C__law_rule hr (by decide) rfl (pa_cons (pv 0) (pa_cons (pv 1) (pa_cons (pv 2) pa_nil)))))) (pss_cons (ps_set (i := 4) sc_Ltable.nd rfl (Or.inr rfl) (pe_ix (ix_listK (K := K)) (pe_lst (pa_cons pe_int (pa_cons pe_int (pa_cons pe_int (pa_cons pe_int pa_nil))))) (pe_op op_mod (pe_callTy (call_int1) (by rfl) T.int_ (by decide +kernel) (pa_cons (pv 2) pa_nil)) pe_int) (fun _ _ => rfl)))
    (pss_cons (ps_set (i := 5) sc_Ltable.nd rfl (Or.inr rfl) (pe_ix (ix_listK (K := K)) (pe_lst (pa_cons pe_str (pa_cons pe_str pa_nil))) (pe_c C__law_draw hr (by decide) rfl (pa_cons (pv 0) (pa_cons pe_int pa_nil))) (fun _ _ => rfl)))
    (pss_one (ps_set (i := 3) sc_Ltable.nd rfl (Or.inl rfl) (pe_join pe_str (pe_lc (own := [("_law_k", 6)]) (g := (gName 6)) (tt := tYes) rfl sc_Ltable.nd (pi_range1 rfl T.range_ (pa_cons (pe_callB (call_len_seqK (K := K)) (by rfl) T.len_ (by decide +kernel) (pa_cons (pe_c C__law_inputs hr (by decide) rfl (pa_cons (pv 1) pa_nil)) pa_nil)) pa_nil)) (blkOk_by (own := [("_law_k", 6)]) (N := N_Ltable) (sc := defScope s_Ltable) (by decide +kernel)) (fun _ _ _ _ _ => (pg_name (i := 6) sc_Ltable.nd rfl (Or.inl rfl))) (fun _ _ _ _ _ => pts_nil) (fun _ _ _ _ _ => (pe_ix ix_str (pv 5) (pe_callTy (call_int1) (by rfl) T.int_ (by decide +kernel) (pa_cons (pe_cmpR op_eq (pe_c C__law_draw hr (by decide) rfl (pa_cons (pv 0) (pa_cons (pv 4) pa_nil))) pe_int (nomark _)) pa_nil)) (fun _ _ => rfl))))))))))
    (pss_cons (ps_for PassesOwn.never rfl (pi_range1 rfl T.range_ (pa_cons (pe_c C__law_draw hr (by decide) rfl (pa_cons (pv 0) (pa_cons pe_int pa_nil))) pa_nil)) (pg_name (i := 6) sc_Ltable.nd rfl (Or.inl rfl)) (pss_cons (ps_set (i := 7) sc_Ltable.nd rfl (Or.inl rfl) (pe_c C__law_draw hr (by decide) rfl (pa_cons (pv 0) (pa_cons (pe_callB (call_len_str) (by rfl) T.len_ (by decide +kernel) (pa_cons (pv 3) pa_nil)) pa_nil))))
    (pss_one (ps_if (pt_cmpR op_eq (pe_c C__law_draw hr (by decide) rfl (pa_cons (pv 0) (pa_cons pe_int pa_nil))) pe_int (nomark _)) (pss_one (ps_set (i := 3) sc_Ltable.nd rfl (Or.inl rfl) (pe_op op_add_str (pe_op op_add_str (pe_slice sl_str (pv 3) po_none (po_some (pv 7))) (pe_ix (ix_listK (K := K)) (pe_lst (pa_cons pe_str (pa_cons pe_str pa_nil))) (pe_c C__law_draw hr (by decide) rfl (pa_cons (pv 0) (pa_cons pe_int pa_nil))) (fun _ _ => rfl))) (pe_slice sl_str (pv 3) (po_some (pe_op op_add (pv 7) pe_int)) po_none)))) pss_nil))))
    (pss_one (ps_ret (pv 3)))))), ?_⟩
    refine q_dr (m := 8) rfl ev_c hB (by decide) (by decide) fun way H1 hway hB1 x1 => ?_
    refine q_cut (M := fun σ' H' => ∃ z v4 v5 v6 v7, σ' = [some (.ref b), some (.int n), some (.int way), some (.str (S z)), v4, v5, v6, v7] ∧ IsTabN n z ∧ ExG b H H' ∧ Bag H' b) ?_ fun σ' H' z => ?_
    · refine s_if (b := decide ((0 : Int) < n) && decide ((way : Int) < 4)) (et_and (et_test (ev_op (ev_var rfl) ev_c rv_I0)) fun _ => et_test (ev_op (ev_var rfl) ev_c rv_I0)) (fun hb H2 e2 => ?_) fun hb H2 e2 => ?_
      · rw [Bool.and_eq_true, decide_eq_true_eq, decide_eq_true_eq] at hb
        exact ⟨.ref b, rfl, .int n, rfl, .int way, rfl, b, n, way, rfl, hB1.ex e2, by omega, hn5, fun z H3 hz x3 hB3 => ⟨z, _, _, _, _, rfl, hz, (x1.trans (ExG.of e2)).trans x3, hB3⟩⟩
      · obtain ⟨share, hsh, hs0, hs5⟩ : ∃ share : Int, ([2, 2, 3, 5] : List Int)[way % 4]? = some share ∧ 0 < share ∧ share ≤ 5 := by
          have h4 : way % 4 < 4 := Nat.mod_lt _ (by decide)
          generalize way % 4 = r at h4
          match r, h4 with
          | 0, _ => exact ⟨2, rfl, by decide, by decide⟩
          | 1, _ => exact ⟨2, rfl, by decide, by decide⟩
          | 2, _ => exact ⟨3, rfl, by decide, by decide⟩
          | 3, _ => exact ⟨5, rfl, by decide, by decide⟩
          | r + 4, h => omega
        refine q_asg (v := .int share) (ev_opL1 (xs := [.int 2, .int 2, .int 3, .int 5]) (y := .int ((way : Int) % 4)) (el_lst (ea_cons ev_c (ea_cons ev_c (ea_cons ev_c (ea_cons ev_c ea_nil)))) (by show 4 ≤ 100000; decide)) (fun H3 e3 => ev_op (ev_cb (ea_cons (ev_var rfl) ea_nil) rc_int1) ev_c (rv_mod (by decide))) fun p H3 hp e3 => rv_ixL (i := ((way % 4 : Nat) : Int)) (sq_of hp) (atI_nat ?_)) fun H3 e3 => ?_
        · have : ([V.int 2, V.int 2, V.int 3, V.int 5] : List V) = ([2, 2, 3, 5] : List Int).map V.int := rfl
          rw [this, List.getElem?_map, hsh]
          rfl
        refine pickDr (b := b) rfl (hB1.ex (e2.trans e3)) fun db H4 hdb hB4 x4 => ?_
        obtain ⟨bl, hbl⟩ : ∃ bl : List Nat, (if db = 0 then V.str (S [48, 49]) else V.str (S [49, 48])) = V.str (S bl) ∧ (bl = [48, 49] ∨ bl = [49, 48]) := by
          by_cases h : db = 0
          · exact ⟨[48, 49], by rw [if_pos h], .inl rfl⟩
          · exact ⟨[49, 48], by rw [if_neg h], .inr rfl⟩
        obtain ⟨hbl, hbc⟩ := hbl
        have pick : ∀ g : Bool, ∃ c, atI bl (if g = true then 1 else 0) = some c ∧ (c = 48 ∨ c = 49) := by
          intro g
          rcases hbc with h | h <;> subst h <;> cases g
          · exact ⟨48, atI_nat (j := 0) rfl, .inl rfl⟩
          · exact ⟨49, atI_nat (j := 1) rfl, .inr rfl⟩
          · exact ⟨49, atI_nat (j := 0) rfl, .inr rfl⟩
          · exact ⟨48, atI_nat (j := 1) rfl, .inl rfl⟩
        have hbz : bl.length ≤ 2 := by rcases hbc with h | h <;> subst h <;> decide
        have x4' := (x1.trans (ExG.of (e2.trans e3))).trans x4
        have nin : (texts (ins n)).length = 2 ^ n := by rw [texts, List.length_map, ins_len]
        obtain ⟨ob, hob⟩ := hB4.obj
        refine ⟨⟨_, rfl⟩, lc_rgX (n := 2 ^ n) ?_ (by omega) (fun x => rfl) (fun Dl i H' => H Dl = none ∧ Dl ≠ b ∧ ∃ z, H' Dl = some (.lst (signsV z)) ∧ z.length = i ∧ Bits z ∧ ExG b H H' ∧ Bag H' b ∧ BagNo Dl H' b) (fun Dl H5 e5 hDl => ?_) (fun Dl i Hb hi z => ?_) (fun Dl H' z => ?_)⟩
        · exact ea_cons (ev_is (ev_lenN (xs := texts (ins n)) (el_call (vs := [.int (n : Nat)]) (ea_cons (ev_var rfl) ea_nil) fun H7 e Q q E => ⟨n, rfl, by omega, q⟩)) (by rw [nin])) ea_nil
        · have Db : Dl ≠ b := (fresh_ne (e5 _ _ hob) hDl).symm
          have DH : H Dl = none := by
            rcases h : H Dl with _ | o
            · rfl
            · rw [e5 _ _ (x4'.1 _ _ Db h)] at hDl
              cases hDl
          exact ⟨DH, Db, [], upd_same, rfl, fun c h => absurd h (by simp), (x4'.trans (ExG.of e5)).mut DH, hB4.ex (e5.trans (Ex.new hDl)), by
            obtain ⟨l, c1, d1, e1, xs, b1, b2, b3⟩ := hB4
            exact ⟨l, _, Ex.new hDl _ _ (e5 _ _ b1), fresh_ne (e5 _ _ b2) hDl⟩⟩
        · obtain ⟨DH, Db, z, z1, z2, z3, z4, z5, z6⟩ := z
          refine ⟨.str (S bl), by rw [← hbl]; rfl, dr (m := share) rfl (ev_var rfl) z5 hs0 (by omega) fun d H6 hd hB6 x6 => ⟨rfl, .inr ⟨_, rfl, ?_⟩⟩⟩
          obtain ⟨c, hc1, hc2⟩ := pick (decide (V.int (d : Nat) = V.int 0))
          refine ⟨S bl, _, c, rfl, rfl, by rw [S_len]; exact szle (by omega), hc1, _, x6.1 _ _ Db z1, ?_, DH, Db, z ++ [c], ?_, ?_, ?_, (z4.trans x6).mut DH, ?_⟩
          · rw [signsV, List.length_map]
            have := szl
            omega
          · rw [upd_same, signsV, signsV, List.map_append]
            rfl
          · rw [List.length_append, List.length_singleton, z2]
          · intro c' h
            rcases List.mem_append.mp h with h | h
            · exact z3 c' h
            · rw [List.mem_singleton.mp h]
              exact hc2
          · obtain ⟨l, c1, d1, e1, xs, b1, b2, b3⟩ := hB6
            obtain ⟨l', r', g1, g2⟩ := x6.2 _ _ Db z1 z6
            rw [b1] at g1
            cases g1
            exact ⟨⟨l, c1, d1, e1, xs, by rw [upd_ne Db.symm]; exact b1, by rw [upd_ne g2]; exact b2, b3⟩, l, _, by rw [upd_ne Db.symm]; exact b1, g2⟩
        · obtain ⟨DH, Db, z, z1, z2, z3, z4, z5, z6⟩ := z
          refine ⟨S [], Dl, z.map fun c => S [c], rfl, rfl, .inl (sq_of (by rw [z1, List.map_map]; rfl)), ?_, ?_⟩
          · rw [sum_ones]
            show z.length + _ * 0 ≤ _
            omega
          · rw [join_signs]
            exact ⟨z, _, _, _, _, rfl, ⟨by omega, z2, z3⟩, z4, z5⟩
    · obtain ⟨z, v4, v5, v6, v7, rfl, hz, x2, hB2⟩ := z
      refine q_forDr (m := 3) rfl ev_c hB2 (by decide) (by decide) fun d H3 hd hB3 x3 => ⟨fun i σ' H' => ∃ z v6 v7, σ' = [some (.ref b), some (.int n), some (.int way), some (.str (S z)), v4, v5, v6, v7] ∧ IsTabN n z ∧ ExG b H H' ∧ Bag H' b, ⟨z, v6, v7, rfl, hz, x2.trans x3, hB3⟩, fun i σ' H' hi zz => ?_, fun σ' H' zz => ?_⟩
      · obtain ⟨z, v6, v7, rfl, hz, x4, hB4⟩ := zz
        have hzl := hz.2.1
        refine q_dr (m := (z.length : Nat)) rfl (ev_cb (ea_cons (ev_var rfl) ea_nil) (rc_lenS (by omega))) hB4 (by omega) (by omega) fun at_ H5 hat hB5 x5 => ?_
        have hat' : at_ < z.length := by omega
        refine s_ifDr (m := 3) rfl ev_c hB5 (by decide) (by decide) fun d3 H6 hd3 hB6 x6 => ⟨fun _ => ?_, fun _ => ⟨z, _, _, rfl, hz, (x4.trans x5).trans x6, hB6⟩⟩
        refine ev_slS (z := S z) (lo := none) (hi := some (at_ : Int)) (ev_var rfl) (by rw [S_len]; omega) eo_none (eo_some (ev_var rfl)) H6 (Ex.refl _) _ fun H7 e7 => pickDr (b := b) rfl (hB6.ex e7) fun d4 H8 hd4 hB8 x8 => ?_
        obtain ⟨c, hcv, hcb⟩ : ∃ c, (if d4 = 0 then V.str (S [48]) else V.str (S [49])) = V.str (S [c]) ∧ (c = 48 ∨ c = 49) := by
          by_cases h : d4 = 0
          · exact ⟨48, by rw [if_pos h], .inl rfl⟩
          · exact ⟨49, by rw [if_neg h], .inr rfl⟩
        refine ⟨S (z.take at_), S [c], by rw [cutS_lo (Nat.le_of_lt hat')], hcv, by rw [S_len, S_len, List.length_take]; exact szle (by simp only [List.length_singleton]; omega), ev_slS (z := S z) (lo := some ((at_ + 1 : Nat) : Int)) (hi := none) (ev_var rfl) (by rw [S_len]; omega) (eo_some (ev_op (ev_var rfl) ev_c rv_I0)) eo_none H8 (Ex.refl _) _ fun H9 e9 => ⟨S (z.take at_ ++ [c]), S (z.drop (at_ + 1)), by rw [S_cat], by rw [cutS_hi (by omega)], ?_, z.set at_ c, some (.int (i : Nat)), some (.int (at_ : Nat)), ?_, ⟨hz.1, by rw [List.length_set]; exact hzl, fun c' h => ?_⟩, (((x4.trans x5).trans x6).trans (ExG.of e7)).trans (x8.trans (ExG.of e9)), hB8.ex e9⟩⟩
        · rw [S_len, S_len]
          exact szle (by simp only [List.length_append, List.length_take, List.length_drop, List.length_singleton]; omega)
        · rw [S_cat, dr_step hat']
          rfl
        · rcases List.mem_or_eq_of_mem_set h with h | h
          · exact hz.2.2 c' h
          · rw [h]
            exact hcb
      · obtain ⟨z, v6, v7, rfl, hz, x4, hB4⟩ := zz
        exact s_ret (ev_var rfl) fun H5 e5 => k z H5 hz (x4.trans (ExG.of e5)) (hB4.ex e5)
end
end LX


set_option Elab.async false
set_option linter.all false
set_option maxRecDepth 100000
set_option maxHeartbeats 4000000
/-! _law_ring. -/
namespace LX
open PySem PySem.Spec PyProof.Rows L2 TL Evl SX C8
def spinAt (t : List Nat) (k : Nat) : Str := S (t.drop k ++ t.take k)
def spins (t : List Nat) (n : Nat) : List Str := (List.range (n + 1)).map (spinAt t)
def leastOf (x : Str) (xs : List Str) : Str := match PySem.W.minD (.str x) (xs.map PyData.str) with | .str z => z | _ => x
theorem least_of {x z : Str} {xs : List Str} (h : MinS x xs z) : leastOf x xs = z := by
  unfold leastOf
  unfold MinS at h
  rw [h]
def least (t : List Nat) (n : Nat) : Str := leastOf (spinAt t 0) ((List.range n).map fun k => spinAt t (k + 1))
theorem spins_cons (t : List Nat) (n : Nat) : spins t n = spinAt t 0 :: (List.range n).map fun k => spinAt t (k + 1) := by
  unfold spins
  rw [List.range_succ_eq_map, List.map_cons, List.map_map]
  rfl
section
variable {K : PySem.W.Frag} {σ : L2St} {H : Hp} {ta tb te td : TE}
theorem rc_min {p : Addr} {t : List Nat} {n : Nat} (h : H p = some (.lst ((spins t n).map V.str))) : RC (rMinS K) [.ref p] H (.str (least t n)) := fun H1 e Q q =>
  ⟨p, spinAt t 0, _, rfl, sq_of (by rw [← spins_cons]; exact e _ _ h), fun z _ hm => by
    have := least_of hm
    rw [← this]
    exact q H1 (Ex.refl _)⟩
/-- min([text[k:] + text[:k] for k in range(n + 1)]) -/
theorem ev_least {ta : TA} {j n : Nat} {vs : List Nat} {t : List Nat} {tx ty tx2 ty2 : TE} (h : EvA ta σ H [.int ((n + 1 : Nat) : Int)]) (hn : n ≤ 10) (ht : t.length = n) (hw : ∀ x, wipe ((wipe σ vs).set j (some x)) vs = wipe σ vs)
    (h1 : ∀ k : Nat, ∀ H1, Ex H H1 → Ev tx ((wipe σ vs).set j (some (.int (k : Nat)))) H1 (.str (S t))) (h2 : ∀ k : Nat, ∀ H1, Ex H H1 → Ev ty ((wipe σ vs).set j (some (.int (k : Nat)))) H1 (.int (k : Nat)))
    (h3 : ∀ k : Nat, ∀ H1, Ex H H1 → Ev tx2 ((wipe σ vs).set j (some (.int (k : Nat)))) H1 (.str (S t))) (h4 : ∀ k : Nat, ∀ H1, Ex H H1 → Ev ty2 ((wipe σ vs).set j (some (.int (k : Nat)))) H1 (.int (k : Nat))) :
    EvL (tLc (iRng1 ta) (gName j) tYes (tOp (fun x y H Q => ∃ i j, x = .str i ∧ y = .str j ∧ i.length + j.length ≤ sizeLine ∧ Q (.str (i ++ j)) H) (tSl rSlS tx (tPart ty) tNoPart) (tSl rSlS tx2 tNoPart (tPart ty2))) vs) σ H ((spins t n).map V.str) := by
  unfold spins
  rw [List.map_map]
  refine el_map (l := List.range (n + 1)) (en := fun i => V.int (i : Nat)) (es_range h (by omega)) (by rw [List.length_range]; omega) hw fun k hk H1 e => ?_
  have hk' : k ≤ t.length := by
    have := List.mem_range.mp hk
    omega
  refine ev_op (x := .str (S (t.drop k))) (y := .str (S (t.take k))) ?_ ?_ (rv_addS (by rw [List.length_drop, List.length_take]; omega))
  · rw [← cutS_hi hk']
    exact ev_slS (h1 k H1 e) (by rw [S_len]; omega) (eo_some (h2 k H1 e)) eo_none
  · rw [← cutS_lo hk']
    exact ev_slS (h3 k H1 e) (by rw [S_len]; omega) eo_none (eo_some (h4 k H1 e))
end
theorem s_dputDr {σ : L2St} {H : Hp} {b Df : Addr} {D : Ends} {key : Key} {i j : Nat} {E : XK} (hs : σ[0]? = some (some (.ref b))) (h2 : σ[i]? = some (some (.ref Df))) (h3 : σ[j]? = some (some (kV key))) (hB : Bag H b)
    (k : ∀ (d : Nat) H', (d : Int) < 2 → Bag H' b → ExG b H H' → ∃ kvs, H' Df = some (.dK kvs) ∧ kvs.length < 100000 ∧ D.nx σ (L2.upd H' Df (.dK (putK kvs key (.int (d : Nat)))))) : sDPut (tVar i) (tVar j) (tDraw E (tC (.int 2))) D σ H :=
  dr (Q := fun v H1 => tVar i σ H1 fun x H2 => tVar j σ H2 fun y H3 => ∃ a H4, x = .ref a ∧ DPut H3 a y v H4 ∧ D.nx σ H4) hs ev_c hB (by decide) (by decide) fun d H' hd hB' x' => by
    obtain ⟨kvs, h4, h5, h6⟩ := k d H' hd hB' x'
    exact ⟨.ref Df, h2, kV key, h3, Df, _, rfl, .inl ⟨kvs, key, h4, rfl, sz_lt h5, rfl⟩, h6⟩
theorem Bag.wrD {H : Hp} {b D : Addr} {kvs kvs' : List (Key × V)} (h : Bag H b) (hD : H D = some (.dK kvs)) : Bag (L2.upd H D (.dK kvs')) b := by
  obtain ⟨l, c, d, e, xs, h1, h2, h3⟩ := h
  have n1 : b ≠ D := fun q => by rw [q, hD] at h1; cases h1
  have n2 : l ≠ D := fun q => by rw [q, hD] at h2; cases h2
  exact ⟨l, c, d, e, xs, by rw [upd_ne n1]; exact h1, by rw [upd_ne n2]; exact h2, h3⟩
section
variable {P : Program} {w : World} {K : PySem.W.Frag} {mg : Str → Option Value} {base : Heap} {a : Ad}
abbrev s_Lring : Stmt := topS 46
abbrev N_Lring : List Str := ["_law_bag_here", "_law_many", "_law_found", "_law_text", "_law_spins", "_law_least", "_law_table_here", "_law_k"]
theorem sc_Lring : FnScope N_Lring ["_law_bag_here", "_law_many"] (defScope s_Lring) := ⟨rfl, rfl, rfl, by decide +kernel, rfl, by decide +kernel, by decide +kernel⟩
theorem cal_ring (T : Txt K mg a) (D : DF K mg "_law_ring" s_Lring) (C__law_draw : Cal P w K mg base 1 "_law_draw" spDraw []) (C__law_inputs : Cal P w K mg base 2 "_law_inputs" spLinputs []) : Cal P w K mg base 3 "_law_ring" spTab [] := by
  refine mkCal D sc_Lring (fun _ _ _ _ _ _ us hl => match us, hl with | [_, _], _ => rfl) (fun vs H Q E h => ?_) (fun f cdv A outer s H vs Q E hr h => ?_)
  · obtain ⟨_, _, rfl, _⟩ := h
    rfl
  · obtain ⟨b, n, rfl, hB, hn5, k⟩ := h
    have h32 : 2 ^ n ≤ 32 := Nat.le_trans (Nat.pow_le_pow_right (by decide) hn5) (by decide)
    have hu := hu_of hr
    obtain ⟨ob, hob⟩ := hB.obj
    have nin : (texts (ins n)).length = 2 ^ n := by rw [texts, List.length_map, ins_len]
    refine ⟨_, (pss_cons (ps_set (i := 2) sc_Lring.nd rfl (Or.inl rfl) pe_dnewK)
    (pss_cons (ps_for PassesOwn.never rfl (pi_listK (K := K) (pe_c C__law_inputs hr (by decide) rfl (pa_cons (pv 1) pa_nil))) (pg_name (i := 3) sc_Lring.nd rfl (Or.inr rfl)) (pss_cons (ps_setLc (i := 4) (own := [("_law_k", 7)]) (g := (gName 7)) (tt := tYes) rfl sc_Lring.nd rfl rfl (sw_true rfl rfl rfl (by decide +kernel)) (pi_range1 rfl T.range_ (pa_cons (pe_op op_add (pv 1) pe_int) pa_nil)) (blkOk_by (own := [("_law_k", 7)]) (N := N_Lring) (sc := defScope s_Lring) (by decide +kernel)) (fun _ _ _ _ _ => (pg_name (i := 7) sc_Lring.nd rfl (Or.inl rfl))) (fun _ _ _ _ _ => pts_nil) (fun _ _ _ _ _ => (pe_op op_add_str (pe_slice sl_str (pv 3) (po_some (pv 7)) po_none) (pe_slice sl_str (pv 3) po_none (po_some (pv 7))))))
    (pss_cons (ps_set (i := 5) sc_Lring.nd rfl (Or.inl rfl) (pe_callB (cr_minS rfl (by exact hu)) (by rfl) T.min_ (by decide +kernel) (pa_cons (pv 4) pa_nil)))
    (pss_one (ps_if (pt_cmp (pc_dnotin (by exact hu) (pv 5) (pv 2))) (pss_one (ps_dput (by exact hu) (pv 2) (pv 5) (pe_c C__law_draw hr (by decide) rfl (pa_cons (pv 0) (pa_cons pe_int pa_nil))) rfl)) pss_nil)))))
    (pss_cons (ps_set (i := 6) sc_Lring.nd rfl (Or.inl rfl) pe_str)
    (pss_cons (ps_for PassesOwn.never rfl (pi_listK (K := K) (pe_c C__law_inputs hr (by decide) rfl (pa_cons (pv 1) pa_nil))) (pg_name (i := 3) sc_Lring.nd rfl (Or.inr rfl)) (pss_one (ps_set (i := 6) sc_Lring.nd rfl (Or.inl rfl) (pe_op op_add_str (pv 6) (pe_callTy (call_str_int) (by rfl) T.str_ (by decide +kernel) (pa_cons (pe_dget (by exact hu) (pv 2) (pe_callB (cr_minS rfl (by exact hu)) (by rfl) T.min_ (by decide +kernel) (pa_cons (pe_lc (own := [("_law_k", 7)]) (g := (gName 7)) (tt := tYes) rfl sc_Lring.nd (pi_range1 rfl T.range_ (pa_cons (pe_op op_add (pv 1) pe_int) pa_nil)) (blkOk_by (own := [("_law_k", 7)]) (N := N_Lring) (sc := defScope s_Lring) (by decide +kernel)) (fun _ _ _ _ _ => (pg_name (i := 7) sc_Lring.nd rfl (Or.inl rfl))) (fun _ _ _ _ _ => pts_nil) (fun _ _ _ _ _ => (pe_op op_add_str (pe_slice sl_str (pv 3) (po_some (pv 7)) po_none) (pe_slice sl_str (pv 3) po_none (po_some (pv 7)))))) pa_nil)) (fun _ _ => rfl)) pa_nil))))))
    (pss_one (ps_ret (pv 6))))))), ?_⟩
    refine fun Df hDf => ?_
    have Db : Df ≠ b := (fresh_ne hob hDf).symm
    refine q_forNLn (xs := texts (ins n)) (el_call (vs := [.int (n : Nat)]) (ea_cons (ev_var rfl) ea_nil) fun H7 e Q q E => ⟨n, rfl, by omega, q⟩)
      (fun q i σ' H' => ∃ kvs x3 x4 x5 x7, σ' = [some (.ref b), some (.int n), some (.ref Df), x3, x4, x5, none, x7] ∧ H' q = some (.lst (texts (ins n))) ∧ H' Df = some (.dK kvs) ∧ kvs.length ≤ i ∧ (∀ j v, valV kvs j = some v → v = .int 0 ∨ v = .int 1) ∧ (∀ t ∈ (ins n).take i, ∃ v, valV kvs (.inr (least t n)) = some v) ∧ ExG b H H' ∧ Bag H' b ∧ q ≠ b)
      (fun q H7 hq e7 h7 => ⟨[], none, none, none, none, rfl, h7, e7 _ _ upd_same, Nat.le_refl _, (fun j v h => by cases h), (fun t h => absurd h (by simp)), ExG.of ((Ex.new hDf).trans e7), hB.ex ((Ex.new hDf).trans e7), (fresh_ne (Ex.new hDf _ _ hob) hq).symm⟩) (fun q i σ' H' _ z => by
        obtain ⟨_, _, _, _, _, _, h, _⟩ := z
        exact sq_of h) (fun q i x σ' H' hx z => ?_) (fun q σ' H' z => ?_)
    · obtain ⟨kvs, x3, x4, x5, x7, rfl, hq, hD, hkl, hkv, hkt, xG, hB', hqb⟩ := z
      have hi : i < (ins n).length := by
        have := (List.getElem?_eq_some_iff.mp hx).1
        rw [texts, List.length_map] at this
        exact this
      have ex : x = V.str (S (ins n)[i]) := by
        rw [texts, List.getElem?_map, List.getElem?_eq_getElem hi] at hx
        exact (Option.some.inj hx).symm
      subst ex
      have htm : (ins n)[i] ∈ ins n := List.getElem_mem hi
      have htl : (ins n)[i].length = n := (mem_strL.mp htm).1
      have hlt := take_next hi
      have hi32 : (ins n).length ≤ 32 := by rw [ins_len]; exact h32
      generalize (ins n)[i] = t at htm htl hlt ⊢
      refine q_asgL (xs := (spins t n).map V.str) (ev_least (n := n) (t := t) (ea_cons (ev_op (ev_var rfl) ev_c rv_I0) ea_nil) (by omega) htl (fun x => rfl) (fun k H1 _ => ev_var rfl) (fun k H1 _ => ev_var rfl) (fun k H1 _ => ev_var rfl) (fun k H1 _ => ev_var rfl)) fun p H3 hp e3 h3 => ?_
      refine q_asg (v := .str (least t n)) (ev_cb (ea_cons (ev_var rfl) ea_nil) (rc_min h3)) fun H4 e4 => ?_
      have e34 := e3.trans e4
      refine s_when (b := !(valV kvs (.inr (least t n))).isSome) (et_B ?_) (fun hb H5 e5 => ?_) (fun hb H5 e5 => ?_)
      · exact fun H5 e5 Q q => ⟨.str (least t n), rfl, .ref Df, rfl, Df, _, rfl, DGet.k (k := .inr (least t n)) ((e34.trans e5) _ _ hD), q H5 (Ex.refl _)⟩
      · have e35 := e34.trans e5
        refine s_dputDr (key := .inr (least t n)) rfl rfl rfl (hB'.ex e35) fun d H6 hd hB6 x6 => ⟨kvs, x6.1 _ _ Db (e35 _ _ hD), by omega, putK kvs (.inr (least t n)) (.int (d : Nat)), _, _, _, _, rfl, ?_, upd_same, ?_, fun j v hj => ?_, fun u hu => ?_, ((xG.trans (ExG.of e35)).trans x6).mut hDf, hB6.wrD (x6.1 _ _ Db (e35 _ _ hD)), hqb⟩
        · have hq6 := x6.1 _ _ hqb (e35 _ _ hq)
          rw [upd_ne (fun q' => by rw [q', x6.1 _ _ Db (e35 _ _ hD)] at hq6; cases hq6)]
          exact hq6
        · have : valV kvs (.inr (least t n)) = none := by
            cases hv : valV kvs (.inr (least t n)) with
            | none => rfl
            | some v => rw [hv] at hb; cases hb
          rw [putK_new _ this, List.length_append, List.length_singleton]
          omega
        · rw [L2.valV_put] at hj
          split at hj
          · have : d = 0 ∨ d = 1 := by omega
            rcases this with h | h <;> subst h
            · exact .inl (Option.some.inj hj).symm
            · exact .inr (Option.some.inj hj).symm
          · exact hkv j v hj
        · rw [L2.valV_put]
          split
          · exact ⟨_, rfl⟩
          · rename_i hne
            rw [hlt] at hu
            rcases List.mem_append.mp hu with h | h
            · exact hkt u h
            · exact absurd (by rw [List.mem_singleton.mp h]) hne
      · have e35 := e34.trans e5
        refine ⟨kvs, _, _, _, _, rfl, e35 _ _ hq, e35 _ _ hD, by omega, hkv, fun u hu => ?_, xG.trans (ExG.of e35), hB'.ex e35, hqb⟩
        rw [hlt] at hu
        rcases List.mem_append.mp hu with h | h
        · exact hkt u h
        · rw [List.mem_singleton.mp h]
          cases hv : valV kvs (.inr (least t n)) with
          | none => rw [hv] at hb; cases hb
          | some v => exact ⟨v, rfl⟩
    · obtain ⟨kvs, x3, x4, x5, x7, rfl, hq, hD, hkl, hkv, hkt, xG, hB', hqb⟩ := z
      rw [nin, ← ins_len n, List.take_length] at hkt
      refine q_asg (v := .str (S [])) ev_c fun H3 e3 => ?_
      refine q_forNLn (xs := texts (ins n)) (el_call (vs := [.int (n : Nat)]) (ea_cons (ev_var rfl) ea_nil) fun H7 e Q q E => ⟨n, rfl, by omega, q⟩)
        (fun q i σ' H4 => ∃ z x3 x7, σ' = [some (.ref b), some (.int n), some (.ref Df), x3, x4, x5, some (.str (S z)), x7] ∧ z.length = i ∧ Bits z ∧ Ex H' H4 ∧ H4 q = some (.lst (texts (ins n))))
        (fun q H7 hq e7 h7 => ⟨[], x3, x7, rfl, rfl, fun c h => absurd h (by simp), e3.trans e7, h7⟩) (fun q i σ' H' _ z => by
          obtain ⟨_, _, _, _, _, _, _, h⟩ := z
          exact sq_of h) (fun q i x σ' H4 hx z => ?_) (fun q σ' H4 z => ?_)
      · obtain ⟨z, x3, x7, rfl, hzl, hzb, eH, hq⟩ := z
        have hi : i < (ins n).length := by
          have := (List.getElem?_eq_some_iff.mp hx).1
          rw [texts, List.length_map] at this
          exact this
        have ex : x = V.str (S (ins n)[i]) := by
          rw [texts, List.getElem?_map, List.getElem?_eq_getElem hi] at hx
          exact (Option.some.inj hx).symm
        subst ex
        have htm : (ins n)[i] ∈ ins n := List.getElem_mem hi
        have htl : (ins n)[i].length = n := (mem_strL.mp htm).1
        have hi32 : (ins n).length ≤ 32 := by rw [ins_len]; exact h32
        generalize (ins n)[i] = t at htm htl ⊢
        obtain ⟨v, hv⟩ := hkt t htm
        obtain ⟨c, hc, hvc⟩ : ∃ c, (c = 48 ∨ c = 49) ∧ v = .int ((c : Nat) - 48 : Int) := by
          rcases hkv _ _ hv with h | h
          · exact ⟨48, .inl rfl, h⟩
          · exact ⟨49, .inr rfl, h⟩
        refine s_asg (v := .str (S (z ++ [c]))) (ev_op (ev_var rfl) (ev_cb (ea_cons (ev_dget (k := .inr (least t n)) (ev_var rfl) (ev_cbL (ev_least (n := n) (t := t) (ea_cons (ev_op (ev_var rfl) ev_c rv_I0) ea_nil) (by omega) htl (fun x => rfl) (fun k H1 _ => ev_var rfl) (fun k H1 _ => ev_var rfl) (fun k H1 _ => ev_var rfl) (fun k H1 _ => ev_var rfl)) fun p H1 _ hp => rc_min hp) (eH _ _ hD) hv) ea_nil) ?_) (rv_addS ?_)) fun H5 e5 => ⟨_, _, _, rfl, by rw [List.length_append, hzl]; rfl, fun c' h => ?_, eH.trans e5, e5 _ _ hq⟩
        · subst hvc
          intro H1 e1 Q q
          refine ⟨_, rfl, ?_, ?_⟩
          · rcases hc with h | h <;> subst h <;> decide +kernel
          · have : (toString ((c : Nat) - 48 : Int) : Str) = S [c] := by rcases hc with h | h <;> subst h <;> decide +kernel
            rw [this]
            exact q H1 (Ex.refl _)
        · simp only [List.length_singleton]
          omega
        · rcases List.mem_append.mp h with h | h
          · exact hzb c' h
          · rw [List.mem_singleton.mp h]
            exact hc
      · obtain ⟨z, x3, x7, rfl, hzl, hzb, eH, hq⟩ := z
        exact s_ret (ev_var rfl) fun H7 e7 => k z H7 ⟨by omega, by rw [hzl, nin], hzb⟩ (xG.trans (ExG.of (eH.trans e7))) (hB'.ex (eH.trans e7))
end
end LX


set_option Elab.async false
set_option linter.all false
set_option maxRecDepth 100000
set_option maxHeartbeats 4000000
/-! _law_worths. -/
namespace LX
open PySem PySem.Spec PyProof.Rows L2 TL Evl SX C8
theorem paired_of {K : PySem.W.Frag} {H : Hp} {kvs : List (Key × V)} : ∀ {l : List (Key × V)} {us : List V}, Each (fun (p : Key × V) v H => At (.tup [kV p.1, p.2]) v H) H l us → ∃ ps : List Addr, us = ps.map V.ref ∧ Paired (fun p (kv : Key × V) => SqT K H p [kV kv.1, kv.2]) ps l
  | [], [], _ => ⟨[], rfl, .nil⟩
  | a :: l, u :: us, h => by
    obtain ⟨ps, h1, h2⟩ := paired_of (kvs := kvs) h.2
    obtain ⟨t, rfl, ht⟩ := h.1
    exact ⟨t :: ps, by rw [h1]; rfl, .cons (st_of ht) h2⟩
  | [], _ :: _, h => h.elim
  | _ :: _, [], h => h.elim
theorem kvs_range {n : Nat} {z : List Nat} (hz : z.length = 2 ^ n) : kvsOf n z = (List.range (2 ^ n)).map fun k => (keyT ((ins n).getD k []), V.int ((z.getD k 0 : Int) - 48)) := by
  refine List.ext_getElem (by rw [kvs_len hz, List.length_map, List.length_range]) fun i h1 h2 => ?_
  have hi : i < 2 ^ n := by rwa [kvs_len hz] at h1
  have hii : i < (ins n).length := by rw [ins_len]; exact hi
  have hiz : i < z.length := by rw [hz]; exact hi
  rw [List.getElem_map, List.getElem_range, getD_at hiz, List.getD_eq_getElem?_getD, List.getElem?_eq_getElem hii]
  obtain ⟨t, c, e1, e2, e3⟩ := kvs_key (List.getElem?_eq_getElem h1)
  rw [List.getElem?_eq_getElem hii] at e1
  rw [List.getElem?_eq_getElem hiz] at e2
  rw [e3, ← Option.some.inj e1, ← Option.some.inj e2]
  rfl
theorem idx_tab {n : Nat} (h : n ≤ 6) : ([1, 2, 4, 8, 16, 32, 64] : List Int)[n]? = some ((2 ^ n : Nat) : Int) ∧ ∀ (m : Nat) (x : Int), m < n → ([1, 2, 4, 8, 16, 32, 64] : List Int)[m]? = some x → x ≠ ((2 ^ n : Nat) : Int) := by
  have small : ∀ (m : Nat) (x : Int), ([1, 2, 4, 8, 16, 32, 64] : List Int)[m]? = some x → x = ((2 ^ m : Nat) : Int) := by
    intro m x hx
    match m with
    | 0 => exact (Option.some.inj hx).symm
    | 1 => exact (Option.some.inj hx).symm
    | 2 => exact (Option.some.inj hx).symm
    | 3 => exact (Option.some.inj hx).symm
    | 4 => exact (Option.some.inj hx).symm
    | 5 => exact (Option.some.inj hx).symm
    | 6 => exact (Option.some.inj hx).symm
    | m + 7 => cases hx
  constructor
  · match n, h with
    | 0, _ => rfl
    | 1, _ => rfl
    | 2, _ => rfl
    | 3, _ => rfl
    | 4, _ => rfl
    | 5, _ => rfl
    | 6, _ => rfl
    | n + 7, h => omega
  · intro m x hm hx e
    rw [small m x hx] at e
    have h1 : 2 ^ m < 2 ^ n := Nat.pow_lt_pow_right (by decide) hm
    omega
theorem ret_cb1 {σ : L2St} {H : Hp} {te : TE} {r : List V → Hp → VK → Prop} {D : Ends} (h : te σ H fun v H1 => r [v] H1 D.rt) : tRet (tCB r (tCons te tNil)) D σ H := h
section
variable {P : Program} {w : World} {K : PySem.W.Frag} {mg : Str → Option Value} {base : Heap} {a : Ad}
abbrev s_Lworths : Stmt := topS 40
abbrev N_Lworths : List Str := ["_law_table_here", "_law_many", "_law_texts", "_law_k"]
theorem sc_Lworths : FnScope N_Lworths ["_law_table_here"] (defScope s_Lworths) := ⟨rfl, rfl, rfl, by decide +kernel, rfl, by decide +kernel, by decide +kernel⟩
def spWorths : Sp := fun vs H Q _ => ∃ (n : Nat) (z : List Nat), vs = [.str (S z)] ∧ IsTabN n z ∧ ∀ p H', H p = none → Ex H H' → H' p = some (.dK (kvsOf n z)) → Q (.ref p) H'
theorem cal_worths (T : Txt K mg a) (D : DF K mg "_law_worths" s_Lworths) (C__law_inputs : Cal P w K mg base 2 "_law_inputs" spLinputs []) : Cal P w K mg base 3 "_law_worths" spWorths [] := by
  refine mkCal D sc_Lworths (fun _ _ _ _ _ _ us hl => match us, hl with | [_], _ => rfl) (fun vs H Q E h => ?_) (fun f cdv A outer s H vs Q E hr h => ?_)
  · obtain ⟨_, _, rfl, _⟩ := h
    rfl
  · obtain ⟨n, z, rfl, hz, k⟩ := h
    have hn6 := hz.1
    have hzl := hz.2.1
    have h64 := hz.tab.le
    refine ⟨_, (pss_cons (ps_set (i := 1) sc_Lworths.nd rfl (Or.inl rfl) (pe_bm PySem.F.plainAttrs_list PySem.F.slot_list_index PySem.F.type_list_index mt_index (pe_lst (pa_cons pe_int (pa_cons pe_int (pa_cons pe_int (pa_cons pe_int (pa_cons pe_int (pa_cons pe_int (pa_cons pe_int pa_nil)))))))) (pa_cons (pe_callB (call_len_str) (by rfl) T.len_ (by decide +kernel) (pa_cons (pv 0) pa_nil)) pa_nil)))
    (pss_cons (ps_set (i := 2) sc_Lworths.nd rfl (Or.inr rfl) (pe_c C__law_inputs hr (by decide) rfl (pa_cons (pv 1) pa_nil)))
    (pss_one (ps_ret (pe_callTy (call_dictP rfl) (by rfl) T.dict_ (by decide +kernel) (pa_cons (pe_lc (own := [("_law_k", 3)]) (g := (gName 3)) (tt := tYes) rfl sc_Lworths.nd (pi_range1 rfl T.range_ (pa_cons (pe_callB (call_len_str) (by rfl) T.len_ (by decide +kernel) (pa_cons (pv 0) pa_nil)) pa_nil)) (blkOk_by (own := [("_law_k", 3)]) (N := N_Lworths) (sc := defScope s_Lworths) (by decide +kernel)) (fun _ _ _ _ _ => (pg_name (i := 3) sc_Lworths.nd rfl (Or.inl rfl))) (fun _ _ _ _ _ => pts_nil) (fun _ _ _ _ _ => (pe_tup (pa_cons (pe_ix (ix_listK (K := K)) (pv 2) (pv 3) (fun _ _ => rfl)) (pa_cons (pe_callTy (call_int_str) (by rfl) T.int_ (by decide +kernel) (pa_cons (pe_ix ix_str (pv 0) (pv 3) (fun _ _ => rfl)) pa_nil)) pa_nil))))) pa_nil)))))), ?_⟩
    refine q_asg (v := .int (n : Nat)) (fun H1 e1 Q q => ?_) fun H1 e1 => ?_
    · refine el_lst (vs := ([1, 2, 4, 8, 16, 32, 64] : List Int).map V.int) (ea_cons ev_c (ea_cons ev_c (ea_cons ev_c (ea_cons ev_c (ea_cons ev_c (ea_cons ev_c (ea_cons ev_c ea_nil))))))) (by decide) H1 e1 _ fun p H2 hp e2 hp2 => ⟨.inl ⟨rfl, _, sq_of hp2⟩, .str (S z), rfl, S z, rfl, by rw [S_len]; exact szle (by omega), p, _, _, n, .int ((2 ^ n : Nat) : Int), rfl, rfl, sq_of hp2, rfl, rfl, ?_, ?_, ?_, q H2 e2⟩
      · rw [List.getElem?_map, (idx_tab hn6).1]
        rfl
      · rw [S_len, hzl]
        exact beq_self_eq_true _
      · intro m z' hm hz'
        rw [List.getElem?_map] at hz'
        cases hx : ([1, 2, 4, 8, 16, 32, 64] : List Int)[m]? with
        | none => rw [hx] at hz'; cases hz'
        | some x =>
          rw [hx] at hz'
          cases hz'
          rw [S_len, hzl]
          exact beq_eq_false_iff_ne.mpr ((idx_tab hn6).2 m x hm hx)
    refine q_asgL (xs := texts (ins n)) (el_call (vs := [.int (n : Nat)]) (ea_cons (ev_var rfl) ea_nil) fun H7 e Q q E => ⟨n, rfl, hn6, q⟩) fun p H2 hp e2 hp2 => ?_
    have nin : (texts (ins n)).length = 2 ^ n := by rw [texts, List.length_map, ins_len]
    refine ret_cb1 (el_mapO (l := List.range (2 ^ n)) (en := fun i => V.int (i : Nat)) (ob := fun k => .tup [V.str (S ((ins n).getD k [])), V.int ((z.getD k 0 : Int) - 48)]) ?_ (by rw [List.length_range]; omega) ?_ (fun k hk H3 e3 => ?_) H2 (Ex.refl _) _ fun r us H3 hr3 e3 hr hE => ?_)
    · exact es_range (ea_cons (ev_is (ev_cb (ea_cons (ev_var rfl) ea_nil) (rc_lenS (z := z) (by omega))) (by rw [hzl])) ea_nil) (by omega)
    · exact fun x => rfl
    · have hk' := List.mem_range.mp hk
      have hkz : k < z.length := by omega
      have hki : k < (ins n).length := by rw [ins_len]; exact hk'
      have e1 : (ins n).getD k [] = (ins n)[k] := by rw [List.getD_eq_getElem?_getD, List.getElem?_eq_getElem hki]; rfl
      rw [e1, getD_at hkz]
      exact eu_tup (ea_cons (ev_op (ev_var rfl) (ev_var rfl) (rv_ixL (sq_of (e3 _ _ hp2)) (atI_nat (by rw [texts, List.getElem?_map, List.getElem?_eq_getElem hki]; rfl)))) (ea_cons (ev_intS (ev_ixS (ev_var rfl) (ev_var rfl) (by omega) (List.getElem?_eq_getElem hkz)) (hz.2.2 _ (List.getElem_mem hkz))) ea_nil)) (by show 2 ≤ 100000; decide)
    · have h4 := each_map (E := fun (p : Key × V) v H => At (.tup [kV p.1, p.2]) v H) (g := fun k => (keyT ((ins n).getD k []), V.int ((z.getD k 0 : Int) - 48))) hE
      rw [← kvs_range hzl] at h4
      obtain ⟨ps, eus, hps⟩ := paired_of (K := K) (kvs := []) h4
      refine ⟨r, ps, kvsOf n z, rfl, sq_of (by rw [hr, eus]), hps, fun d hd => k d _ (fresh_back ((e1.trans e2).trans e3) hd) (((e1.trans e2).trans e3).trans (Ex.new hd)) ?_⟩
      rw [upd_same, merge_self (by rw [kvs_keys hzl]; exact keys_nodup hn6)]
end
end LX


set_option Elab.async false
set_option linter.all false
set_option maxRecDepth 100000
set_option maxHeartbeats 4000000
/-! _law_settling. -/
namespace LX
open PySem PySem.Spec PyProof.Rows L2 TL Evl SX C8
def optV : Option Int → V
  | none => .non
  | some b => .int b
theorem optV_inj {a b : Option Int} : decide (optV a = optV b) = decide (a = b) := by
  cases a <;> cases b <;> simp [optV]
theorem scal_opt (a b : Option Int) : scal (optV a) (optV b) = true := by
  cases a <;> cases b <;> rfl
theorem putK_le (c : List (Key × V)) (k : Key) (x : V) : (putK c k x).length ≤ c.length + 1 := by
  unfold putK
  split
  · rw [List.length_map]
    omega
  · rw [List.length_append, List.length_singleton]
    exact Nat.le_refl _
theorem mem_spots {p : List Nat} {j : Nat} : j ∈ spotsOf p ↔ p[j]? = some 45 := by
  unfold spotsOf
  rw [List.mem_filter, List.mem_range]
  constructor
  · rintro ⟨h1, h2⟩
    rw [getD_at h1] at h2
    rw [List.getElem?_eq_getElem h1, of_decide_eq_true h2]
  · intro h
    obtain ⟨h1, h2⟩ := List.getElem?_eq_some_iff.mp h
    refine ⟨h1, ?_⟩
    rw [getD_at h1, h2]
    rfl
theorem spots_nil {p : List Nat} (h : spotsOf p = []) : 45 ∉ p := fun hm => by
  obtain ⟨j, hj⟩ := List.getElem?_of_mem hm
  have := mem_spots.mpr hj
  rw [h] at this
  cases this
theorem spots_ne {p : List Nat} (h : 45 ∈ p) : spotsOf p ≠ [] := fun e => spots_nil e h
section
variable {K : PySem.W.Frag} {σ : L2St} {H : Hp} {ta tb te td ty tv : TE} {D : Ends}
theorem el_rev {xs : List V} (h : EvL te σ H xs) : EvL (tRevL K te) σ H xs.reverse := fun H1 e Q q =>
  h H1 e _ fun p H2 hp e2 hp2 => ⟨p, xs, rfl, sq_of hp2, fun r hr => q r _ (fresh_back e2 hr) (e2.trans (Ex.new hr)) upd_same⟩
theorem q_newK {tz : TS} {i : Nat} (h : ∀ p, H p = none → tz D (σ.set i (some (.ref p))) (L2.upd H p (.dK []))) : tSeq (tAsg tDNewK (gName i)) tz D σ H := h
theorem q_newT {tz : TS} {i : Nat} (h : ∀ p, H p = none → tz D (σ.set i (some (.ref p))) (L2.upd H p (.dT []))) : tSeq (tAsg tDNewT (gName i)) tz D σ H := h
theorem s_dput {Df : Addr} {kvs : List (Key × V)} {key : Key} {v : V} (h : Ev tv σ H v) (hd : Ev td σ H (.ref Df)) (hy : Ev ty σ H (kV key)) (hD : H Df = some (.dK kvs)) (hz : kvs.length < 100000) (k : ∀ H1, Ex H H1 → D.nx σ (L2.upd H1 Df (.dK (putK kvs key v)))) : sDPut td ty tv D σ H :=
  h H (Ex.refl _) _ fun H1 e1 => hd H1 e1 _ fun H2 e2 => hy H2 (e1.trans e2) _ fun H3 e3 => ⟨Df, _, rfl, .inl ⟨kvs, key, ((e1.trans e2).trans e3) _ _ hD, rfl, sz_lt hz, rfl⟩, k H3 ((e1.trans e2).trans e3)⟩
theorem q_dput {tz : TS} {Df : Addr} {kvs : List (Key × V)} {key : Key} {v : V} (h : Ev tv σ H v) (hd : Ev td σ H (.ref Df)) (hy : Ev ty σ H (kV key)) (hD : H Df = some (.dK kvs)) (hz : kvs.length < 100000) (k : ∀ H1, Ex H H1 → tz D σ (L2.upd H1 Df (.dK (putK kvs key v)))) : tSeq (sDPut td ty tv) tz D σ H :=
  s_dput (D := { D with nx := tz D }) h hd hy hD hz k
theorem rv_eqNil {o : List Nat} {p q : Addr} (hp : H p = some (.lst (natsV o))) (hq : H q = some (.lst [])) : RV (rEqD K) (.ref p) (.ref q) H (.bl o.isEmpty) := fun H2 e2 Q k => by
  refine ⟨.list ((o.map Int.ofNat).map PyData.int), .list [], .lst (sq_of (by rw [← nats_ints]; exact e2 _ _ hp)) (dp_ints _), .lst (sq_of (e2 _ _ hq)) .nil, shaped_ints _, by decide, ?_⟩
  rw [eqv_nil]
  have : (o.map Int.ofNat).isEmpty = o.isEmpty := by cases o <;> rfl
  rw [this]
  exact k H2 (Ex.refl _)
end
def SetTab (n : Nat) (f : List Nat → Int) (kvs : List (Key × V)) : Prop := ∀ t ∈ pats n, ∃ o, valV kvs (keyT t) = some (optV o) ∧ SetOk f t o
section
variable {P : Program} {w : World} {K : PySem.W.Frag} {mg : Str → Option Value} {base : Heap} {a : Ad}
abbrev s_Lsettling : Stmt := topS 41
abbrev N_Lsettling : List Str := ["_law_worths_here", "_law_many", "_law_found", "_law_pattern", "_law_spots", "_law_low"]
theorem sc_Lsettling : FnScope N_Lsettling ["_law_worths_here", "_law_many"] (defScope s_Lsettling) := ⟨rfl, rfl, rfl, by decide +kernel, rfl, by decide +kernel, by decide +kernel⟩
def spSettling : Sp := fun vs H Q _ => ∃ (wd : Addr) (n : Nat) (z : List Nat), vs = [.ref wd, .int n] ∧ H wd = some (.dK (kvsOf n z)) ∧ IsTabN n z ∧ n ≤ 5 ∧ ∀ p kvs H', H p = none → Ex H H' → H' p = some (.dK kvs) → SetTab n (ansOf n z) kvs → Q (.ref p) H'
theorem cal_settling (T : Txt K mg a) (D : DF K mg "_law_settling" s_Lsettling) (C__law_patterns : Cal P w K mg base 2 "_law_patterns" spLpatterns []) (C__law_put : Cal P w K mg base 1 "_law_put" spPut []) (C__law_open_spots : Cal P w K mg base 1 "_law_open_spots" spLspots []) : Cal P w K mg base 3 "_law_settling" spSettling [] := by
  refine mkCal D sc_Lsettling (fun _ _ _ _ _ _ us hl => match us, hl with | [_, _], _ => rfl) (fun vs H Q E h => ?_) (fun f cdv A outer s H vs Q E hr h => ?_)
  · obtain ⟨_, _, _, rfl, _⟩ := h
    rfl
  · obtain ⟨wd, n, z, rfl, hw, hz, hn5, k⟩ := h
    have hu := hu_of hr
    have hpl := pats_len hn5
    refine ⟨_, (pss_cons (ps_set (i := 2) sc_Lsettling.nd rfl (Or.inl rfl) pe_dnewK)
    (pss_cons (ps_for PassesOwn.never rfl (pi_listK (K := K) (pe_revL (pe_c C__law_patterns hr (by decide) rfl (pa_cons (pv 1) pa_nil)))) (pg_name (i := 3) sc_Lsettling.nd rfl (Or.inl rfl)) (pss_cons (ps_set (i := 4) sc_Lsettling.nd rfl (Or.inl rfl) (pe_c C__law_open_spots hr (by decide) rfl (pa_cons (pv 3) pa_nil)))
    (pss_one (ps_if (pt_cmpR (op_eqD (by exact hr.units)) (pv 4) (pe_lst pa_nil) (nomark _)) (pss_one (ps_dput (by exact hu) (pv 2) (pv 3) (pe_dget (by exact hu) (pv 0) (pv 3) (fun _ _ => rfl)) rfl)) (pss_cons (ps_set (i := 5) sc_Lsettling.nd rfl (Or.inl rfl) (pe_dget (by exact hu) (pv 2) (pe_c C__law_put hr (by decide) rfl (pa_cons (pv 3) (pa_cons (pe_ix (ix_listK (K := K)) (pv 4) pe_int (fun _ _ => rfl)) (pa_cons pe_str pa_nil)))) (fun _ _ => rfl)))
    (pss_one (ps_dput (by exact hu) (pv 2) (pv 3) (pe_ifExp (pt_cmpR op_eq (pv 5) (pe_dget (by exact hu) (pv 2) (pe_c C__law_put hr (by decide) rfl (pa_cons (pv 3) (pa_cons (pe_ix (ix_listK (K := K)) (pv 4) pe_int (fun _ _ => rfl)) (pa_cons pe_str pa_nil)))) (fun _ _ => rfl)) (nomark _)) (pv 5) pe_non) rfl)))))))
    (pss_one (ps_ret (pv 2))))), ?_⟩
    refine q_newK fun Df hDf => ?_
    refine q_forNLn (K := K) (xs := texts (pats n).reverse) ?_
      (fun q i σ' H' => ∃ kvs x3 x4 x5, σ' = [some (.ref wd), some (.int n), some (.ref Df), x3, x4, x5] ∧ H' q = some (.lst (texts (pats n).reverse)) ∧ H' Df = some (.dK kvs) ∧ kvs.length ≤ i ∧ (∀ t ∈ (pats n).reverse.take i, ∃ o, valV kvs (keyT t) = some (optV o) ∧ SetOk (ansOf n z) t o) ∧ Ex H H')
      (fun q H7 hq e7 h7 => ⟨[], none, none, none, rfl, h7, e7 _ _ upd_same, Nat.le_refl _, (fun t h => absurd h (by simp)), (Ex.new hDf).trans e7⟩) (fun q i σ' H' _ z => by
        obtain ⟨_, _, _, _, _, h, _⟩ := z
        exact sq_of h) (fun q i x σ' H' hx z => ?_) (fun q σ' H' z => ?_)
    · have e : texts (pats n).reverse = (texts (pats n)).reverse := by rw [texts, texts, List.map_reverse]
      rw [e]
      exact el_rev (el_call (vs := [.int (n : Nat)]) (ea_cons (ev_var rfl) ea_nil) fun H7 e Q q E => ⟨n, rfl, by omega, q⟩)
    · obtain ⟨kvs, x3, x4, x5, rfl, hq, hD, hkl, hkt, eH⟩ := z
      have hi : i < (pats n).reverse.length := by
        have := (List.getElem?_eq_some_iff.mp hx).1
        rw [texts, List.length_map] at this
        exact this
      have ex : x = V.str (S (pats n).reverse[i]) := by
        rw [texts, List.getElem?_map, List.getElem?_eq_getElem hi] at hx
        exact (Option.some.inj hx).symm
      subst ex
      have hat : (pats n).reverse[i]? = some (pats n).reverse[i] := List.getElem?_eq_getElem hi
      have htm : (pats n).reverse[i] ∈ pats n := List.mem_reverse.mp (List.getElem_mem hi)
      have hlt := take_next hi
      have hi243 : i < 243 := by
        rw [List.length_reverse] at hi
        omega
      generalize (pats n).reverse[i] = t at htm hlt hat ⊢
      obtain ⟨htl, htb⟩ := mem_strL.mp htm
      -- what holds behind the turn
      have put : ∀ (o : Option Int) H5 x4' x5', Ex H' H5 → SetOk (ansOf n z) t o → ∃ kvs' y3 y4 y5, [some (V.ref wd), some (.int n), some (.ref Df), some (.str (S t)), x4', x5'] = [some (.ref wd), some (.int n), some (.ref Df), y3, y4, y5] ∧ L2.upd H5 Df (.dK (putK kvs (keyT t) (optV o))) q = some (.lst (texts (pats n).reverse)) ∧ L2.upd H5 Df (.dK (putK kvs (keyT t) (optV o))) Df = some (.dK kvs') ∧ kvs'.length ≤ i + 1 ∧
          (∀ t ∈ (pats n).reverse.take (i + 1), ∃ o, valV kvs' (keyT t) = some (optV o) ∧ SetOk (ansOf n z) t o) ∧ Ex H (L2.upd H5 Df (.dK (putK kvs (keyT t) (optV o)))) := by
        intro o H5 x4' x5' e5 ho
        refine ⟨_, _, _, _, rfl, ?_, upd_same, Nat.le_trans (putK_le _ _ _) (by omega), fun u hu => ?_, (eH.trans e5).mut hDf⟩
        · rw [upd_ne (fun q' => by rw [q', hD] at hq; cases hq)]
          exact e5 _ _ hq
        · rw [L2.valV_put]
          by_cases hut : keyT u = keyT t
          · rw [if_pos hut, keyT_inj hut]
            exact ⟨o, rfl, ho⟩
          · rw [if_neg hut]
            rw [hlt] at hu
            rcases List.mem_append.mp hu with h | h
            · exact hkt u h
            · exact absurd (by rw [List.mem_singleton.mp h]) hut
      refine q_asgL (xs := natsV (spotsOf t)) (el_call (vs := [.str (S t)]) (ea_cons (ev_var rfl) ea_nil) fun H7 e Q q E => ⟨t, rfl, by omega, q⟩) fun sp H3 hsp e3 h3 => ?_
      refine s_if (b := (spotsOf t).isEmpty) (et_test (ev_opL (ev_var rfl) (el_lst ea_nil (by decide)) fun p H4 hp e4 => rv_eqNil (e4 _ _ h3) hp)) (fun hb H4 e4 => ?_) (fun hb H4 e4 => ?_)
      · have h45 : 45 ∉ t := spots_nil (List.isEmpty_iff.mp hb)
        have hti : t ∈ ins n := mem_strL.mpr ⟨htl, fun c hc => by
          have := htb c hc
          simp only [List.mem_cons, List.not_mem_nil, or_false] at this ⊢
          rcases this with h | h | h
          · exact absurd (h ▸ hc) h45
          · exact .inl h
          · exact .inr h⟩
        have e34 := e3.trans e4
        refine s_dput (v := optV (some (ansOf n z t))) (ev_dget (k := keyT t) (ev_var rfl) (ev_var rfl) ((eH.trans e34) _ _ hw) (kvs_val hz.2.1 hti)) (ev_var rfl) (key := keyT t) (ev_var rfl) (e34 _ _ hD) (by omega) fun H5 e5 => ?_
        exact put _ H5 _ _ (e34.trans e5) (setOk_leaf h45)
      · obtain ⟨j, js, hj⟩ : ∃ j js, spotsOf t = j :: js := by
          cases h : spotsOf t with
          | nil => rw [h] at hb; cases hb
          | cons j js => exact ⟨j, js, rfl⟩
        have hj45 : t[j]? = some 45 := mem_spots.mp (by rw [hj]; exact List.mem_cons_self)
        have hjl : j < t.length := (List.getElem?_eq_some_iff.mp hj45).1
        have e34 := e3.trans e4
        obtain ⟨lo, hlo, hlo2⟩ := hkt _ (pat_before hn5 hat hj45 (.inl rfl))
        obtain ⟨hi', hhi, hhi2⟩ := hkt _ (pat_before hn5 hat hj45 (.inr rfl))
        have get : ∀ (c : Nat) (v : V) (σ : L2St) H5, Ex H3 H5 → valV kvs (keyT (t.set j c)) = some v → σ[2]? = some (some (.ref Df)) → σ[3]? = some (some (.str (S t))) → σ[4]? = some (some (.ref sp)) → Ev (tDGet (tVar 2) (tCall spPut [] C8.E0 (tCons (tVar 3) (tCons (tOp (rIxL K) (tVar 4) (tC (.int 0))) (tCons (tC (.str (S [c]))) tNil))))) σ H5 v := fun c v σ H5 e5 hv s2 s3 s4 =>
          ev_dget (k := keyT (t.set j c)) (ev_var s2) (ev_call (vs := [.str (S t), .int (j : Nat), .str (S [c])]) (ea_cons (ev_var s3) (ea_cons (ev_bagI (i := 0) (ev_var s4) (e5 _ _ h3) (by rw [hj]; rfl)) (ea_cons ev_c ea_nil))) fun H6 e Q q E => ⟨t, j, c, rfl, hjl, by omega, q⟩) (e5 _ _ (e3 _ _ hD)) hv
        refine q_asg (v := optV lo) (get 48 _ _ H4 e4 hlo rfl rfl rfl) fun H5 e5 => ?_
        refine s_dput (v := optV (if lo = hi' then lo else none)) (ev_if (b := decide (lo = hi')) (et_test (ev_is (ev_op (ev_var rfl) (get 49 _ _ H5 (e4.trans e5) hhi rfl rfl rfl) (rv_eq (scal_opt _ _))) (by rw [optV_inj]))) (fun hb => ?_) (fun hb => ?_)) (ev_var rfl) (key := keyT t) (ev_var rfl) ((e34.trans e5) _ _ hD) (by omega) fun H6 e6 => ?_
        · rw [if_pos (of_decide_eq_true hb)]
          exact ev_var rfl
        · rw [if_neg (of_decide_eq_false hb)]
          exact ev_c
        · exact put _ H6 _ _ ((e34.trans e5).trans e6) (setOk_node hj45 hlo2 hhi2)
    · obtain ⟨kvs, x3, x4, x5, rfl, hq, hD, hkl, hkt, eH⟩ := z
      have hlen : (texts (pats n).reverse).length = (pats n).reverse.length := by rw [texts, List.length_map]
      rw [hlen, List.take_length] at hkt
      exact s_ret (ev_var rfl) fun H3 e3 => k Df kvs H3 hDf (eH.trans e3) (e3 _ _ hD) fun t ht => hkt t (List.mem_reverse.mpr ht)
end
end LX


set_option Elab.async false
set_option linter.all false
set_option maxRecDepth 100000
set_option maxHeartbeats 4000000
/-! _law_needs. -/
namespace LX
open PySem PySem.Spec PyProof.Rows L2 TL Evl SX C8
theorem putK_old {kvs : List (Key × V)} {k : Key} {v x : V} (h : valV kvs k = some v) : (putK kvs k x).length = kvs.length := by
  unfold putK
  rw [valV_any, h, if_pos (by rfl), List.length_map]
def NeedTab (n : Nat) (f : List Nat → Int) (kvs : List (Key × V)) : Prop := ∀ t ∈ pats n, ∃ v, valV kvs (keyT t) = some (.int v) ∧ NeedOk f t v
section
variable {P : Program} {w : World} {K : PySem.W.Frag} {mg : Str → Option Value} {base : Heap} {a : Ad}
abbrev s_Lneeds : Stmt := topS 42
abbrev N_Lneeds : List Str := ["_law_settling_here", "_law_many", "_law_found", "_law_pattern", "_law_rows", "_law_at"]
theorem sc_Lneeds : FnScope N_Lneeds ["_law_settling_here", "_law_many"] (defScope s_Lneeds) := ⟨rfl, rfl, rfl, by decide +kernel, rfl, by decide +kernel, by decide +kernel⟩
def spNeeds (f : List Nat → Int) : Sp := fun vs H Q _ => ∃ (sd : Addr) (n : Nat) (skvs : List (Key × V)), vs = [.ref sd, .int n] ∧ H sd = some (.dK skvs) ∧ SetTab n f skvs ∧ n ≤ 5 ∧ ∀ p kvs H', H p = none → Ex H H' → H' p = some (.dK kvs) → NeedTab n f kvs → Q (.ref p) H'
def spNeeds' : Sp := fun vs H Q E => ∃ fn, spNeeds fn vs H Q E
theorem cal_needs (T : Txt K mg a) (D : DF K mg "_law_needs" s_Lneeds) (C__law_patterns : Cal P w K mg base 2 "_law_patterns" spLpatterns []) (C__law_put : Cal P w K mg base 1 "_law_put" spPut []) (C__law_open_spots : Cal P w K mg base 1 "_law_open_spots" spLspots []) : Cal P w K mg base 3 "_law_needs" spNeeds' [] := by
  refine mkCal D sc_Lneeds (fun _ _ _ _ _ _ us hl => match us, hl with | [_, _], _ => rfl) (fun vs H Q E h => ?_) (fun f cdv A outer s H vs Q E hr h => ?_)
  · obtain ⟨_, _, _, _, rfl, _⟩ := h
    rfl
  · obtain ⟨fn, sd, n, skvs, rfl, hs, hst, hn5, k⟩ := h
    have hu := hu_of hr
    have hpl := pats_len hn5
    refine ⟨_, (pss_cons (ps_set (i := 2) sc_Lneeds.nd rfl (Or.inl rfl) pe_dnewK)
    (pss_cons (ps_for PassesOwn.never rfl (pi_listK (K := K) (pe_revL (pe_c C__law_patterns hr (by decide) rfl (pa_cons (pv 1) pa_nil)))) (pg_name (i := 3) sc_Lneeds.nd rfl (Or.inl rfl)) (pss_cons (ps_dput (by exact hu) (pv 2) (pv 3) pe_int rfl)
    (pss_one (ps_if (pt_cmpR op_isN (pe_dget (by exact hu) (pv 0) (pv 3) (fun _ _ => rfl)) pe_non (nomark _)) (pss_cons (ps_set (i := 4) sc_Lneeds.nd rfl (Or.inl rfl) (pe_lst pa_nil))
    (pss_cons (ps_for PassesOwn.never rfl (pi_listK (K := K) (pe_c C__law_open_spots hr (by decide) rfl (pa_cons (pv 3) pa_nil))) (pg_name (i := 5) sc_Lneeds.nd rfl (Or.inl rfl)) (pss_one (ps_expr (pe_bm PySem.F.plainAttrs_list PySem.F.slot_list_append PySem.F.type_list_append mt_append (pv 4) (pa_cons (pe_op op_add pe_int (pe_callB (call_max2 rfl) (by rfl) T.max_ (by decide +kernel) (pa_cons (pe_dget (by exact hu) (pv 2) (pe_c C__law_put hr (by decide) rfl (pa_cons (pv 3) (pa_cons (pv 5) (pa_cons pe_str pa_nil)))) (fun _ _ => rfl)) (pa_cons (pe_dget (by exact hu) (pv 2) (pe_c C__law_put hr (by decide) rfl (pa_cons (pv 3) (pa_cons (pv 5) (pa_cons pe_str pa_nil)))) (fun _ _ => rfl)) pa_nil)))) pa_nil)))))
    (pss_one (ps_dput (by exact hu) (pv 2) (pv 3) (pe_callB (cr_min rfl) (by rfl) T.min_ (by decide +kernel) (pa_cons (pv 4) pa_nil)) rfl)))) pss_nil))))
    (pss_one (ps_ret (pv 2))))), ?_⟩
    refine q_newK fun Df hDf => ?_
    refine q_forNLn (K := K) (xs := texts (pats n).reverse) ?_
      (fun q i σ' H' => ∃ kvs x3 x4 x5, σ' = [some (.ref sd), some (.int n), some (.ref Df), x3, x4, x5] ∧ H' q = some (.lst (texts (pats n).reverse)) ∧ H' Df = some (.dK kvs) ∧ kvs.length ≤ i ∧ (∀ t ∈ (pats n).reverse.take i, ∃ v, valV kvs (keyT t) = some (.int v) ∧ NeedOk fn t v) ∧ Ex H H')
      (fun q H7 hq e7 h7 => ⟨[], none, none, none, rfl, h7, e7 _ _ upd_same, Nat.le_refl _, (fun t h => absurd h (by simp)), (Ex.new hDf).trans e7⟩) (fun q i σ' H' _ z => by
        obtain ⟨_, _, _, _, _, h, _⟩ := z
        exact sq_of h) (fun q i x σ' H' hx z => ?_) (fun q σ' H' z => ?_)
    · have e : texts (pats n).reverse = (texts (pats n)).reverse := by rw [texts, texts, List.map_reverse]
      rw [e]
      exact el_rev (el_call (vs := [.int (n : Nat)]) (ea_cons (ev_var rfl) ea_nil) fun H7 e Q q E => ⟨n, rfl, by omega, q⟩)
    · obtain ⟨kvs, x3, x4, x5, rfl, hq, hD, hkl, hkt, eH⟩ := z
      have hi : i < (pats n).reverse.length := by
        have := (List.getElem?_eq_some_iff.mp hx).1
        rw [texts, List.length_map] at this
        exact this
      have ex : x = V.str (S (pats n).reverse[i]) := by
        rw [texts, List.getElem?_map, List.getElem?_eq_getElem hi] at hx
        exact (Option.some.inj hx).symm
      subst ex
      have hat : (pats n).reverse[i]? = some (pats n).reverse[i] := List.getElem?_eq_getElem hi
      have htm : (pats n).reverse[i] ∈ pats n := List.mem_reverse.mp (List.getElem_mem hi)
      have hlt := take_next hi
      have hi243 : i < 243 := by
        rw [List.length_reverse] at hi
        omega
      generalize (pats n).reverse[i] = t at htm hlt hat ⊢
      obtain ⟨htl, htb⟩ := mem_strL.mp htm
      -- what holds behind the turn
      have fin : ∀ (kvs' : List (Key × V)) (v : Int), (∀ j, valV kvs' j = if j = keyT t then some (.int v) else valV kvs j) → NeedOk fn t v → ∀ u ∈ (pats n).reverse.take (i + 1), ∃ v, valV kvs' (keyT u) = some (.int v) ∧ NeedOk fn u v := by
        intro kvs' v hk hv u hu
        rw [hk]
        by_cases hut : keyT u = keyT t
        · rw [if_pos hut, keyT_inj hut]
          exact ⟨v, rfl, hv⟩
        · rw [if_neg hut]
          rw [hlt] at hu
          rcases List.mem_append.mp hu with h | h
          · exact hkt u h
          · exact absurd (by rw [List.mem_singleton.mp h]) hut
      obtain ⟨o, ho1, ho2⟩ := hst t htm
      refine q_dput (v := .int 0) ev_c (ev_var rfl) (key := keyT t) (ev_var rfl) hD (by omega) fun H3 e3 => ?_
      have hq3 : L2.upd H3 Df (.dK (putK kvs (keyT t) (.int 0))) q = some (.lst (texts (pats n).reverse)) := by
        rw [upd_ne (fun q' => by rw [q', hD] at hq; cases hq)]
        exact e3 _ _ hq
      have x3' : Ex H (L2.upd H3 Df (.dK (putK kvs (keyT t) (.int 0)))) := (eH.trans e3).mut hDf
      have d3 := upd_same (H := H3) (a := Df) (o := .dK (putK kvs (keyT t) (.int 0)))
      have l3 := putK_le kvs (keyT t) (.int 0)
      have v3 := fun j => L2.valV_put kvs (keyT t) j (.int 0)
      show tIfS _ _ _ _ _ (L2.upd H3 Df (.dK (putK kvs (keyT t) (.int 0))))
      generalize L2.upd H3 Df (.dK (putK kvs (keyT t) (.int 0))) = H4 at hq3 x3' d3 ⊢
      generalize putK kvs (keyT t) (.int 0) = kvs1 at d3 l3 v3
      refine s_when (b := decide (optV o = .non)) (et_test (ev_op (ev_dget (k := keyT t) (ev_var rfl) (ev_var rfl) (x3' _ _ hs) ho1) ev_c (rv_val fun H5 _ Q q => ⟨rfl, q⟩))) (fun hb H5 e5 => ?_) (fun hb H5 e5 => ?_)
      · have h45 : 45 ∈ t := by
          cases o with
          | none => exact ho2
          | some b => simp [optV] at hb
        have d5 := e5 _ _ d3
        refine q_asgL (xs := []) (el_lst ea_nil (by decide)) fun R H6 hR e6 h6 => ?_
        have e56 := e5.trans e6
        have rDf : R ≠ Df := fun q' => by rw [q', d5] at hR; cases hR
        have rq : R ≠ q := fun q' => by rw [q', e5 _ _ hq3] at hR; cases hR
        refine q_forNLn (K := K) (xs := natsV (spotsOf t)) (el_call (vs := [.str (S t)]) (ea_cons (ev_var rfl) ea_nil) fun H7 e Q q E => ⟨t, rfl, by omega, q⟩)
          (fun sp j σ' H' => ∃ rs x5, σ' = [some (.ref sd), some (.int n), some (.ref Df), some (.str (S t)), some (.ref R), x5] ∧ H' sp = some (.lst (natsV (spotsOf t))) ∧ sp ≠ R ∧ H' R = some (.lst (intsV rs)) ∧ rs.length = j ∧ (∀ r ∈ rs, NeedOk fn t r) ∧ H' Df = some (.dK kvs1) ∧ H' q = some (.lst (texts (pats n).reverse)) ∧ Ex H H')
          (fun sp H7 hsp e7 h7 => ⟨[], x5, rfl, h7, (fresh_ne h6 hsp).symm, e7 _ _ h6, rfl, (fun r h => absurd h (by simp)), e7 _ _ (e6 _ _ d5), e7 _ _ (e56 _ _ hq3), (x3'.trans e56).trans e7⟩) (fun sp j σ' H' _ z => by
            obtain ⟨_, _, _, h, _⟩ := z
            exact sq_of h) (fun sp j x σ' H7 hx z => ?_) (fun sp σ' H7 z => ?_)
        · obtain ⟨rs, x5, rfl, hsp, hspR, hRs, hrl, hrn, d7, q7, x7⟩ := z
          obtain ⟨jj, hjj, rfl⟩ := nats_get hx
          have hj45 := mem_spots.mp (List.mem_of_getElem? hjj)
          have hjl : jj < t.length := (List.getElem?_eq_some_iff.mp hj45).1
          have hjs : j < (spotsOf t).length := (List.getElem?_eq_some_iff.mp hjj).1
          have hsl : (spotsOf t).length ≤ t.length := by
            unfold spotsOf
            have := List.length_filter_le (fun k => decide (t.getD k 0 = 45)) (List.range t.length)
            rw [List.length_range] at this
            exact this
          obtain ⟨lo, hlo, hlo2⟩ := hkt _ (pat_before hn5 hat hj45 (.inl rfl))
          obtain ⟨hh, hhi, hhi2⟩ := hkt _ (pat_before hn5 hat hj45 (.inr rfl))
          have old : ∀ (c : Nat) (v : V), c ≠ 45 → valV kvs (keyT (t.set jj c)) = some v → valV kvs1 (keyT (t.set jj c)) = some v := fun c v hc hv => by
            rw [v3, if_neg]
            · exact hv
            · intro e
              have := keyT_inj e
              rw [← this, List.getElem?_set_self hjl] at hj45
              exact hc (Option.some.inj hj45)
          have get : ∀ (c : Nat) (v : V), valV kvs1 (keyT (t.set jj c)) = some v → Ev (tDGet (tVar 2) (tCall spPut [] C8.E0 (tCons (tVar 3) (tCons (tVar 5) (tCons (tC (.str (S [c]))) tNil))))) [some (.ref sd), some (.int n), some (.ref Df), some (.str (S t)), some (.ref R), some (.int (jj : Nat))] H7 v := fun c v hv =>
            ev_dget (k := keyT (t.set jj c)) (ev_var rfl) (ev_call (vs := [.str (S t), .int (jj : Nat), .str (S [c])]) (ea_cons (ev_var rfl) (ea_cons (ev_var rfl) (ea_cons ev_c ea_nil))) fun H6 e Q q E => ⟨t, jj, c, rfl, hjl, by omega, q⟩) d7 hv
          refine s_app (v := .int (1 + if hh > lo then hh else lo)) hRs (ev_var rfl) (ev_op ev_c (ev_max2 (get 48 _ (old 48 _ (by decide) hlo)) (get 49 _ (old 49 _ (by decide) hhi))) rv_I0) (by rw [intsV, List.length_map]; omega) fun H8 e8 => ⟨rs ++ [1 + if hh > lo then hh else lo], _, rfl, ?_, hspR, ?_, ?_, fun r hr => ?_, ?_, ?_, ?_⟩
          · rw [upd_ne hspR]
            exact e8 _ _ hsp
          · rw [upd_same, intsV, intsV, List.map_append]
            rfl
          · rw [List.length_append, hrl]
            rfl
          · rcases List.mem_append.mp hr with h | h
            · exact hrn r h
            · rw [List.mem_singleton.mp h]
              exact needOk_node hj45 hlo2 hhi2
          · rw [upd_ne rDf.symm]
            exact e8 _ _ d7
          · rw [upd_ne rq.symm]
            exact e8 _ _ q7
          · exact (x7.trans e8).mut (fresh_back (x3'.trans e5) hR)
        · obtain ⟨rs, x5, rfl, hsp, hspR, hRs, hrl, hrn, d7, q7, x7⟩ := z
          have hpos : 0 < rs.length := by
            rw [hrl, nats_len]
            exact List.length_pos_iff.mpr (spots_ne h45)
          refine ⟨.ref R, rfl, R, rs, rfl, sq_of hRs, hpos, fun m hm _ => ⟨.ref Df, rfl, .str (S t), rfl, Df, _, rfl, .inl ⟨kvs1, keyT t, d7, rfl, sz_lt (by omega), rfl⟩, putK kvs1 (keyT t) (.int m), _, _, _, rfl, ?_, upd_same, ?_, fin _ m (fun j => ?_) (hrn m hm), x7.mut hDf⟩⟩
          · rw [upd_ne (fun q' => by rw [q', d7] at q7; cases q7)]
            exact q7
          · rw [putK_old (v := .int 0) (by rw [v3, if_pos rfl])]
            omega
          · rw [L2.valV_put, v3]
            split
            · rfl
            · rfl
      · refine ⟨kvs1, _, _, _, rfl, e5 _ _ hq3, e5 _ _ d3, by omega, fin _ 0 v3 ?_, x3'.trans e5⟩
        cases o with
        | none => exact absurd rfl (of_decide_eq_false hb)
        | some b => exact needOk_set ho2
    · obtain ⟨kvs, x3, x4, x5, rfl, hq, hD, hkl, hkt, eH⟩ := z
      have hlen : (texts (pats n).reverse).length = (pats n).reverse.length := by rw [texts, List.length_map]
      rw [hlen, List.take_length] at hkt
      exact s_ret (ev_var rfl) fun H3 e3 => k Df kvs H3 hDf (eH.trans e3) (e3 _ _ hD) fun t ht => hkt t (List.mem_reverse.mpr ht)
end
end LX


set_option Elab.async false
set_option linter.all false
set_option maxRecDepth 100000
set_option maxHeartbeats 4000000
/-! _law_blocks. -/
namespace LX
open PySem PySem.Spec PyProof.Rows L2 TL Evl SX C8
section
variable {K : PySem.W.Frag} {σ : L2St} {H : Hp} {ta tb te : TE} {D : Ends} {tz tu : TS}
theorem eu_tupOf {xs : List V} (h : EvL te σ H xs) : EvU (tCB (fun xs H Q => ∃ p ys, xs = [.ref p] ∧ ((SqL K H p ys ∧ ∀ l, H l = none → Q (.ref l) (L2.upd H l (.tup ys))) ∨ (SqT K H p ys ∧ Q (.ref p) H))) (tCons te tNil)) σ H xs := fun H1 e Q k =>
  h H1 e _ fun p H2 hp e2 hp2 => ⟨p, xs, rfl, .inl ⟨sq_of hp2, fun l hl => k l _ (fresh_back e2 hl) (e2.trans (Ex.new hl)) upd_same⟩⟩
theorem rv_neNilT {o : List Nat} {p q : Addr} (hp : H p = some (.tup (natsV o))) (hq : H q = some (.tup [])) : RV (rNeD K) (.ref p) (.ref q) H (.bl (!o.isEmpty)) := fun H2 e2 Q k => by
  refine ⟨.tuple ((o.map Int.ofNat).map PyData.int), .tuple [], .tup (st_of (by rw [← nats_ints]; exact e2 _ _ hp)) (dp_ints _), .tup (st_of (e2 _ _ hq)) .nil, shaped_intsT _, by decide, ?_⟩
  rw [eqv_nilT]
  have : (o.map Int.ofNat).isEmpty = o.isEmpty := by cases o <;> rfl
  rw [this]
  exact k H2 (Ex.refl _)
theorem q_asgU' {i : Nat} {xs : List V} (h : EvU te σ H xs) (k : ∀ p H1, H p = none → Ex H H1 → H1 p = some (.tup xs) → tz D (σ.set i (some (.ref p))) H1) : tSeq (tAsg te (gName i)) tz D σ H := q_asgU h k
end
/-- the blocks that stand at the values us -/
abbrev BL (H : Hp) (us : List V) (bl : List (List Nat)) : Prop := Each (fun (o : List Nat) v H => At (.tup (natsV o)) v H) H bl us
theorem BL.ex {Ha Hb : Hp} {us : List V} {os : List (List Nat)} (e : Ex Ha Hb) (h : BL Ha us os) : BL Hb us os := Each.ex (E := fun (o : List Nat) v H => At (.tup (natsV o)) v H) (fun a v _ _ e h => At.ex e h) e h
theorem BL.upd {H : Hp} {us : List V} {os : List (List Nat)} {F : Addr} {xs : List V} {o : HO} (h : BL H us os) (hF : H F = some (.lst xs)) : BL (L2.upd H F o) us os := by
  have : ∀ {os : List (List Nat)} {us : List V}, BL H us os → BL (L2.upd H F o) us os := by
    intro os
    induction os with
    | nil => intro us h; cases us with | nil => trivial | cons _ _ => exact h.elim
    | cons b os ih =>
      intro us h
      cases us with
      | nil => exact h.elim
      | cons u us =>
        obtain ⟨⟨t, h1, h2⟩, h3⟩ := h
        exact ⟨⟨t, h1, by rw [upd_ne (fun q => by rw [q, hF] at h2; cases h2)]; exact h2⟩, ih h3⟩
  exact this h
theorem bl_addrs {H : Hp} : ∀ {bl : List (List Nat)} {us : List V}, BL H us bl → ∃ bs : List (Addr × List Nat), us = bs.map (fun p => V.ref p.1) ∧ bl = bs.map (·.2) ∧ ∀ p ∈ bs, H p.1 = some (.tup (natsV p.2))
  | [], [], _ => ⟨[], rfl, rfl, fun p h => absurd h (by simp)⟩
  | b :: bl, u :: us, h => by
    obtain ⟨bs, h1, h2, h3⟩ := bl_addrs h.2
    obtain ⟨t, rfl, ht⟩ := h.1
    exact ⟨(t, b) :: bs, by rw [h1]; rfl, by rw [h2]; rfl, fun p hp => by
      rcases List.mem_cons.mp hp with e | e
      · rw [e]; exact ht
      · exact h3 p e⟩
  | [], _ :: _, h => h.elim
  | _ :: _, [], h => h.elim
def encI (p : Addr × List Nat) : Addr × List Int := (p.1, p.2.map Int.ofNat)
theorem toNat_nats (b : List Nat) : (b.map Int.ofNat).map Int.toNat = b := by
  rw [List.map_map]
  conv => rhs; rw [← List.map_id b]
  exact List.map_congr_left fun _ _ => rfl
theorem bl_back {H : Hp} {bs : List (Addr × List Nat)} (hb : ∀ p ∈ bs, H p.1 = some (.tup (natsV p.2))) : ∀ {cs : List (Addr × List Int)}, (∀ c ∈ cs, c ∈ bs.map encI) → BL H (cs.map fun p => V.ref p.1) (cs.map fun p => p.2.map Int.toNat)
  | [], _ => trivial
  | c :: cs, h => by
    refine ⟨?_, bl_back hb fun d hd => h d (List.mem_cons_of_mem _ hd)⟩
    obtain ⟨p, hp, e⟩ := List.mem_map.mp (h c List.mem_cons_self)
    rw [← e]
    exact ⟨p.1, rfl, by
      show H p.1 = some (.tup (natsV ((p.2.map Int.ofNat).map Int.toNat)))
      rw [toNat_nats]
      exact hb p hp⟩
section
variable {P : Program} {w : World} {K : PySem.W.Frag} {mg : Str → Option Value} {base : Heap} {a : Ad}
abbrev s_Lblocks : Stmt := topS 43
abbrev N_Lblocks : List Str := ["_law_many", "_law_found", "_law_text", "_law_block", "_law_k"]
theorem sc_Lblocks : FnScope N_Lblocks ["_law_many"] (defScope s_Lblocks) := ⟨rfl, rfl, rfl, by decide +kernel, rfl, by decide +kernel, by decide +kernel⟩
def spBlocks : Sp := fun vs H Q _ => ∃ n : Nat, vs = [.int n] ∧ n ≤ 5 ∧ ∀ r us bl H', H r = none → Ex H H' → H' r = some (.lst us) → BL H' us bl → bl.length ≤ 32 → (∀ b ∈ bl, ∃ t ∈ ins n, b = onesOf n t) → (0 < n → List.range n ∈ bl) → Q (.ref r) H'
theorem cal_blocks (T : Txt K mg a) (D : DF K mg "_law_blocks" s_Lblocks) (C__law_inputs : Cal P w K mg base 2 "_law_inputs" spLinputs []) : Cal P w K mg base 3 "_law_blocks" spBlocks [] := by
  refine mkCal D sc_Lblocks (fun _ _ _ _ _ _ us hl => match us, hl with | [_], _ => rfl) (fun vs H Q E h => ?_) (fun f cdv A outer s H vs Q E hr h => ?_)
  · obtain ⟨_, rfl, _⟩ := h
    rfl
  · obtain ⟨n, rfl, hn5, k⟩ := h
    have h32 : (ins n).length ≤ 32 := by
      rw [ins_len]
      exact Nat.le_trans (Nat.pow_le_pow_right (by decide) hn5) (by decide)
    refine ⟨_, (pss_cons (ps_set (i := 1) sc_Lblocks.nd rfl (Or.inl rfl) (pe_lst pa_nil))
    (pss_cons (ps_for PassesOwn.never rfl (pi_listK (K := K) (pe_c C__law_inputs hr (by decide) rfl (pa_cons (pv 0) pa_nil))) (pg_name (i := 2) sc_Lblocks.nd rfl (Or.inr rfl)) (pss_cons (ps_set (i := 3) sc_Lblocks.nd rfl (Or.inl rfl) (pe_callTy (call_tuple_of) (by rfl) T.tuple_ (by decide +kernel) (pa_cons (pe_lc (own := [("_law_k", 4)]) (g := (gName 4)) rfl sc_Lblocks.nd (pi_range1 rfl T.range_ (pa_cons (pv 0) pa_nil)) (blkOk_by (own := [("_law_k", 4)]) (N := N_Lblocks) (sc := defScope s_Lblocks) (by decide +kernel)) (fun _ _ _ _ _ => (pg_name (i := 4) sc_Lblocks.nd rfl (Or.inl rfl))) (fun _ _ _ _ _ => pts_one (pt_cmpR op_eq (pe_ix ix_str (pv 2) (pv 4) (fun _ _ => rfl)) pe_str (nomark _))) (fun _ _ _ _ _ => (pv 4))) pa_nil)))
    (pss_one (ps_if (pt_cmpR (op_neD (by exact hr.units)) (pv 3) (pe_tup pa_nil) (nomark _)) (pss_one (ps_expr (pe_bm PySem.F.plainAttrs_list PySem.F.slot_list_append PySem.F.type_list_append mt_append (pv 1) (pa_cons (pv 3) pa_nil)))) pss_nil))))
    (pss_one (ps_ret (pe_callB (cr_sortM (by exact hr.units)) (by rfl) T.sorted_ (by decide +kernel) (pa_cons (pv 1) pa_nil)))))), ?_⟩
    refine q_asgL (xs := []) (el_lst ea_nil (by decide)) fun F H1 hF e1 h1 => ?_
    refine q_forNLn (K := K) (xs := texts (ins n)) (el_call (vs := [.int (n : Nat)]) (ea_cons (ev_var rfl) ea_nil) fun H7 e Q q E => ⟨n, rfl, by omega, q⟩)
      (fun q i σ' H' => ∃ us bl x2 x3 x4, σ' = [some (.int n), some (.ref F), x2, x3, x4] ∧ H' q = some (.lst (texts (ins n))) ∧ q ≠ F ∧ H' F = some (.lst us) ∧ BL H' us bl ∧ bl.length ≤ i ∧ (∀ b ∈ bl, b ≠ [] ∧ ∃ t ∈ ins n, b = onesOf n t) ∧ (∀ t ∈ (ins n).take i, onesOf n t ≠ [] → onesOf n t ∈ bl) ∧ Ex H H')
      (fun q H7 hq e7 h7 => ⟨[], [], none, none, none, rfl, h7, (fresh_ne h1 hq).symm, e7 _ _ h1, trivial, Nat.le_refl _, (fun b h => absurd h (by simp)), (fun t h => absurd h (by simp)), e1.trans e7⟩) (fun q i σ' H' _ z => by
        obtain ⟨_, _, _, _, _, _, h, _⟩ := z
        exact sq_of h) (fun q i x σ' H' hx z => ?_) (fun q σ' H' z => ?_)
    · obtain ⟨us, bl, x2, x3, x4, rfl, hq, hqF, hFF, hBL, hbl, hbm, hbt, eH⟩ := z
      have hi : i < (ins n).length := by
        have := (List.getElem?_eq_some_iff.mp hx).1
        rw [texts, List.length_map] at this
        exact this
      have ex : x = V.str (S (ins n)[i]) := by
        rw [texts, List.getElem?_map, List.getElem?_eq_getElem hi] at hx
        exact (Option.some.inj hx).symm
      subst ex
      have htm : (ins n)[i] ∈ ins n := List.getElem_mem hi
      have hlt := take_next hi
      generalize (ins n)[i] = t at htm hlt ⊢
      have htl := (mem_strL.mp htm).1
      refine q_asgU (xs := natsV (onesOf n t)) (eu_tupOf (el_marks (z := t) (n := n) (ea_cons (ev_var rfl) ea_nil) (by omega) (by omega) (fun x => rfl) (fun k H1 _ => ev_var rfl) (fun k H1 _ => ev_var rfl) fun k H1 _ => ev_var rfl)) fun B H3 hB e3 h3 => ?_
      refine s_when (b := !(onesOf n t).isEmpty) (et_test (ev_opU (ev_var rfl) (eu_tup ea_nil (by decide)) fun p H4 hp e4 => rv_neNilT (e4 _ _ h3) hp)) (fun hb H4 e4 => ?_) (fun hb H4 e4 => ?_)
      · have hne : onesOf n t ≠ [] := fun q' => by rw [q'] at hb; cases hb
        have e34 := e3.trans e4
        refine s_app (v := .ref B) (e34 _ _ hFF) (ev_var rfl) (ev_var rfl) (by rw [← hBL.len]; omega) fun H5 e5 => ?_
        have e35 := e34.trans e5
        refine ⟨us ++ [.ref B], bl ++ [onesOf n t], _, _, _, rfl, ?_, hqF, upd_same, ?_, ?_, fun b hb' => ?_, fun u hu hu' => ?_, (eH.trans e35).mut hF⟩
        · rw [upd_ne hqF]
          exact e35 _ _ hq
        · have k1 : BL H5 (us ++ [.ref B]) (bl ++ [onesOf n t]) := Each.snoc (E := fun (o : List Nat) v H => At (.tup (natsV o)) v H) ⟨B, rfl, (e4.trans e5) _ _ h3⟩ (hBL.ex e35)
          exact k1.upd (e35 _ _ hFF)
        · rw [List.length_append, List.length_singleton]
          omega
        · rcases List.mem_append.mp hb' with h | h
          · exact hbm b h
          · rw [List.mem_singleton.mp h]
            exact ⟨hne, t, htm, rfl⟩
        · rw [hlt] at hu
          rcases List.mem_append.mp hu with h | h
          · exact List.mem_append_left _ (hbt u h hu')
          · rw [List.mem_singleton.mp h]
            exact List.mem_append_right _ (List.mem_singleton.mpr rfl)
      · have e34 := e3.trans e4
        refine ⟨us, bl, _, _, _, rfl, e34 _ _ hq, hqF, e34 _ _ hFF, hBL.ex e34, by omega, hbm, fun u hu hu' => ?_, eH.trans e34⟩
        rw [hlt] at hu
        rcases List.mem_append.mp hu with h | h
        · exact hbt u h hu'
        · rw [List.mem_singleton.mp h] at hu'
          cases ho : onesOf n t with
          | nil => exact absurd ho hu'
          | cons c r => rw [ho] at hb; cases hb
    · obtain ⟨us, bl, x2, x3, x4, rfl, hq, hqF, hFF, hBL, hbl, hbm, hbt, eH⟩ := z
      have hlen : (texts (ins n)).length = (ins n).length := by rw [texts, List.length_map]
      rw [hlen, List.take_length] at hbt
      rw [hlen] at hbl
      obtain ⟨bs, hb1, hb2, hb3⟩ := bl_addrs hBL
      have hbz : bs.length ≤ 32 := by
        have := congrArg List.length hb2
        rw [List.length_map] at this
        omega
      refine ⟨.ref F, rfl, F, bs.map encI, rfl, sq_of ?_, by rw [List.length_map]; omega, fun p hp => ?_, fun cs r hcs hr' => ?_⟩
      · rw [hFF, hb1, List.map_map]
        rfl
      · obtain ⟨p', hp', rfl⟩ := List.mem_map.mp hp
        refine ⟨st_of ?_, ?_⟩
        · show H' p'.1 = some (.tup (intsV (p'.2.map Int.ofNat)))
          rw [← nats_ints]
          exact hb3 p' hp'
        · intro e
          have : p'.2 ∈ bl := by rw [hb2]; exact List.mem_map.mpr ⟨p', hp', rfl⟩
          exact (hbm _ this).1 (List.map_eq_nil_iff.mp e)
      · have hmem : ∀ c ∈ cs, c ∈ bs.map encI := fun c hc => hcs.mem_iff.mp hc
        refine k r _ (cs.map fun p => p.2.map Int.toNat) _ (fresh_back eH hr') (eH.trans (Ex.new hr')) upd_same ((bl_back hb3 hmem).ex (Ex.new hr')) ?_ (fun b hb => ?_) (fun h0 => ?_)
        · rw [List.length_map, hcs.length_eq, List.length_map]
          exact hbz
        · obtain ⟨c, hc, rfl⟩ := List.mem_map.mp hb
          obtain ⟨p, hp, rfl⟩ := List.mem_map.mp (hmem c hc)
          rw [show (encI p).2.map Int.toNat = p.2 from toNat_nats p.2]
          exact (hbm _ (by rw [hb2]; exact List.mem_map.mpr ⟨p, hp, rfl⟩)).2
        · obtain ⟨f1, f2⟩ := blk_full hn5
          have hin := hbt _ f1 (by rw [f2]; intro e; have := congrArg List.length e; rw [List.length_range] at this; simp at this; omega)
          rw [f2, hb2] at hin
          obtain ⟨p, hp, e⟩ := List.mem_map.mp hin
          refine List.mem_map.mpr ⟨encI p, hcs.mem_iff.mpr (List.mem_map.mpr ⟨p, hp, rfl⟩), ?_⟩
          rw [show (encI p).2.map Int.toNat = p.2 from toNat_nats p.2]
          exact e
end
end LX


set_option Elab.async false
set_option linter.all false
set_option maxRecDepth 100000
set_option maxHeartbeats 4000000
/-! _law_products. -/
namespace LX
open PySem PySem.Spec PyProof.Rows L2 TL Evl SX C8
section
variable {κ : Type} [DecidableEq κ]
theorem putK_keys (kvs : List (κ × V)) (k : κ) (v : V) : (putK kvs k v).map (·.1) = if (kvs.any fun kv => decide (kv.1 = k)) = true then kvs.map (·.1) else kvs.map (·.1) ++ [k] := by
  unfold putK
  split
  · rw [List.map_map]
    refine List.map_congr_left fun p _ => ?_
    show (if p.1 = k then (p.1, v) else p).1 = p.1
    split <;> rfl
  · rw [List.map_append]
    rfl
theorem putK_sub {kvs : List (κ × V)} {k : κ} {v : V} {p : κ × V} (h : p ∈ putK kvs k v) : p.1 = k ∨ p.1 ∈ kvs.map (·.1) := by
  have h1 : p.1 ∈ (putK kvs k v).map (·.1) := List.mem_map.mpr ⟨p, h, rfl⟩
  rw [putK_keys] at h1
  split at h1
  · exact .inr h1
  · rcases List.mem_append.mp h1 with h | h
    · exact .inr h
    · exact .inl (List.mem_singleton.mp h)
theorem putK_has (kvs : List (κ × V)) (k : κ) (v : V) : k ∈ (putK kvs k v).map (·.1) := by
  rw [putK_keys]
  split
  · rename_i h
    obtain ⟨p, hp, e⟩ := List.any_eq_true.mp h
    exact List.mem_map.mpr ⟨p, hp, of_decide_eq_true e⟩
  · exact List.mem_append_right _ (List.mem_singleton.mpr rfl)
theorem putK_keep {kvs : List (κ × V)} {k j : κ} {v : V} (h : j ∈ kvs.map (·.1)) : j ∈ (putK kvs k v).map (·.1) := by
  rw [putK_keys]
  split
  · exact h
  · exact List.mem_append_left _ h
theorem putK_leG (c : List (κ × V)) (k : κ) (x : V) : (putK c k x).length ≤ c.length + 1 := by
  unfold putK
  split
  · rw [List.length_map]
    omega
  · rw [List.length_append, List.length_singleton]
    exact Nat.le_refl _
end
def keyB (b : List Nat) : List Key := b.map fun i => .inl (Int.ofNat i)
theorem keyB_V (b : List Nat) : (keyB b).map kV = natsV b := by
  unfold keyB natsV
  rw [List.map_map]
  rfl
theorem keyB_len (b : List Nat) : (keyB b).length = b.length := List.length_map _
section
variable {K : PySem.W.Frag} {σ : L2St} {H : Hp} {ta tb te tl : TE} {D : Ends} {tz tu : TS}
theorem q_forV {j : Nat} (h : tl σ H fun v H1 => ∃ a, v = .ref a ∧ (∃ xs, SqL K H1 a xs) ∧ tSeq (tFor (fun _ H R => R (Itl K a) H) (gName j) tu) tz D σ H1) : tSeq (tFor (iList K tl) (gName j) tu) tz D σ H := h
theorem q_forAt {a : Addr} {xs : List V} {j : Nat} (Pv : Nat → L2St → Hp → Prop) (h0 : Pv 0 σ H) (hl : ∀ i σ' H', Pv i σ' H' → SqL K H' a xs)
    (hs : ∀ i x σ' H', xs[i]? = some x → Pv i σ' H' → tu { D with nx := Pv (i + 1), ct := Pv (i + 1), bk := tz D } (σ'.set j (some x)) H') (hd : ∀ σ' H', Pv xs.length σ' H' → tz D σ' H') : tSeq (tFor (fun _ H R => R (Itl K a) H) (gName j) tu) tz D σ H :=
  for_it (D := { D with nx := tz D }) walk_list Pv h0 (fun i σ' H' _ p => hl i σ' H' p) (fun i x σ' Ha Hb hi p y => by
    obtain ⟨rfl, hx⟩ := y
    exact hs i x σ' _ hx p) hd
theorem ev_lenT {p : Addr} {xs : List V} (ha : Ev ta σ H (.ref p)) (h : H p = some (.tup xs)) : Ev (tCB (rLenS K) (tCons ta tNil)) σ H (.int (xs.length : Int)) := fun H1 e Q q =>
  ha H1 e _ fun H2 e2 => ⟨p, xs, rfl, .inr (st_of (e2 _ _ (e _ _ h))), q H2 e2⟩
theorem ev_opLN {xs : List V} {r : R2} {z : V} (ha : EvL ta σ H xs) (hr : ∀ p q H1, H1 p = some (.lst xs) → H1 q = some (.lst []) → RV r (.ref p) (.ref q) H1 z) : Ev (tOp r ta (tLst tNil)) σ H z := fun H1 e Q k =>
  ha H1 e _ fun p H2 hp e2 hp2 => ⟨by decide, fun q hq => hr p q _ (Ex.new hq _ _ hp2) upd_same _ (Ex.refl _) Q fun H3 e3 => k H3 ((e2.trans (Ex.new hq)).trans e3)⟩
end
theorem BL.upd2 {H : Hp} {F : Addr} {o : HO} (hF : ∀ xs, H F ≠ some (.tup xs)) : ∀ {os : List (List Nat)} {us : List V}, BL H us os → BL (L2.upd H F o) us os
  | [], [], _ => trivial
  | b :: os, u :: us, h => by
    obtain ⟨⟨t, h1, h2⟩, h3⟩ := h
    exact ⟨⟨t, h1, by rw [upd_ne (fun q => by rw [q] at h2; exact hF _ h2)]; exact h2⟩, BL.upd2 hF h3⟩
  | [], _ :: _, h => h.elim
  | _ :: _, [], h => h.elim
def prT (n : Nat) (f : List Nat → Int) (kvs : List (List Key × V)) : Prop := (∀ e ∈ kvs, e.1.length ≤ n) ∧ (0 < n → total n f (List.range n) ≠ 0 → ∃ e ∈ kvs, e.1.length = n)
section
variable {P : Program} {w : World} {K : PySem.W.Frag} {mg : Str → Option Value} {base : Heap} {a : Ad}
abbrev s_Lproducts : Stmt := topS 44
abbrev N_Lproducts : List Str := ["_law_worths_here", "_law_many", "_law_found", "_law_block", "_law_total", "_law_text", "_law_ones", "_law_k"]
theorem sc_Lproducts : FnScope N_Lproducts ["_law_worths_here", "_law_many"] (defScope s_Lproducts) := ⟨rfl, rfl, rfl, by decide +kernel, rfl, by decide +kernel, by decide +kernel⟩
def spProducts : Sp := fun vs H Q _ => ∃ (wd : Addr) (n : Nat) (z : List Nat), vs = [.ref wd, .int n] ∧ H wd = some (.dK (kvsOf n z)) ∧ IsTabN n z ∧ n ≤ 5 ∧ ∀ p kvs H', H p = none → Ex H H' → H' p = some (.dT kvs) → kvs.length ≤ 40 → prT n (ansOf n z) kvs → Q (.ref p) H'
theorem cal_products (T : Txt K mg a) (D : DF K mg "_law_products" s_Lproducts) (C__law_inputs : Cal P w K mg base 2 "_law_inputs" spLinputs []) (C__law_blocks : Cal P w K mg base 3 "_law_blocks" spBlocks []) : Cal P w K mg base 4 "_law_products" spProducts [] := by
  refine mkCal D sc_Lproducts (fun _ _ _ _ _ _ us hl => match us, hl with | [_, _], _ => rfl) (fun vs H Q E h => ?_) (fun f cdv A outer s H vs Q E hr h => ?_)
  · obtain ⟨_, _, _, rfl, _⟩ := h
    rfl
  · obtain ⟨wd, n, z, rfl, hw, hz, hn5, k⟩ := h
    have hu := hu_of hr
    have h32 : (ins n).length ≤ 32 := by
      rw [ins_len]
      exact Nat.le_trans (Nat.pow_le_pow_right (by decide) hn5) (by decide)
    refine ⟨_, (pss_cons (ps_set (i := 2) sc_Lproducts.nd rfl (Or.inl rfl) pe_dnewT)
    (pss_cons (ps_for PassesOwn.never rfl (pi_listK (K := K) (pe_op op_cat (pe_lst (pa_cons (pe_tup pa_nil) pa_nil)) (pe_c C__law_blocks hr (by decide) rfl (pa_cons (pv 1) pa_nil)))) (pg_name (i := 3) sc_Lproducts.nd rfl (Or.inr rfl)) (pss_cons (ps_set (i := 4) sc_Lproducts.nd rfl (Or.inl rfl) pe_int)
    (pss_cons (ps_for PassesOwn.never rfl (pi_listK (K := K) (pe_c C__law_inputs hr (by decide) rfl (pa_cons (pv 1) pa_nil))) (pg_name (i := 5) sc_Lproducts.nd rfl (Or.inr rfl)) (pss_cons (ps_setLc (i := 6) (own := [("_law_k", 7)]) (g := (gName 7)) rfl sc_Lproducts.nd rfl rfl (sw_true rfl rfl rfl (by decide +kernel)) (pi_range1 rfl T.range_ (pa_cons (pv 1) pa_nil)) (blkOk_by (own := [("_law_k", 7)]) (N := N_Lproducts) (sc := defScope s_Lproducts) (by decide +kernel)) (fun _ _ _ _ _ => (pg_name (i := 7) sc_Lproducts.nd rfl (Or.inl rfl))) (fun _ _ _ _ _ => pts_one (pt_cmpR op_eq (pe_ix ix_str (pv 5) (pv 7) (fun _ _ => rfl)) pe_str (nomark _))) (fun _ _ _ _ _ => (pv 7)))
    (pss_one (ps_if (pt_cmpR (op_eqD (by exact hr.units)) (pe_lc (own := [("_law_k", 7)]) (g := (gName 7)) rfl sc_Lproducts.nd (pi_listK (K := K) (pv 6)) (blkOk_by (own := [("_law_k", 7)]) (N := N_Lproducts) (sc := defScope s_Lproducts) (by decide +kernel)) (fun _ _ _ _ _ => (pg_name (i := 7) sc_Lproducts.nd rfl (Or.inl rfl))) (fun _ _ _ _ _ => pts_one (pt_cmpR (op_notIn_seqK (K := K)) (pv 7) (pv 3) rfl)) (fun _ _ _ _ _ => (pv 7))) (pe_lst pa_nil) (nomark _)) (pss_one (ps_set (i := 4) sc_Lproducts.nd rfl (Or.inl rfl) (pe_op op_add (pv 4) (pe_op op_mul (pe_dget (by exact hu) (pv 0) (pv 5) (fun _ _ => rfl)) (pe_ix (ix_listK (K := K)) (pe_lst (pa_cons pe_int (pa_cons (pe_un un_neg pe_int) pa_nil))) (pe_op op_mod (pe_op op_sub (pe_callB (call_len_seqK (K := K)) (by rfl) T.len_ (by decide +kernel) (pa_cons (pv 3) pa_nil)) (pe_callB (call_len_seqK (K := K)) (by rfl) T.len_ (by decide +kernel) (pa_cons (pv 6) pa_nil))) pe_int) (fun _ _ => rfl)))))) pss_nil))))
    (pss_one (ps_if (pt_cmpR op_ne (pv 4) pe_int (nomark _)) (pss_one (ps_dput (by exact hu) (pv 2) (pv 3) (pv 4) rfl)) pss_nil)))))
    (pss_one (ps_ret (pv 2))))), ?_⟩
    refine q_newT fun Df hDf => ?_
    have xD := Ex.new (o := .dT []) hDf
    have dD := upd_same (H := H) (a := Df) (o := .dT [])
    generalize L2.upd H Df (.dT []) = H1 at xD dD ⊢
    refine q_forV ⟨by show 0 ≤ sizeLine; decide, fun e0 he0 => ⟨by show 1 ≤ sizeLine; decide, fun l0 hl0 => ?_⟩⟩
    have x0 : Ex H1 (L2.upd (L2.upd H1 e0 (.tup [])) l0 (.lst [.ref e0])) := (Ex.new he0).trans (Ex.new hl0)
    have ne0 : e0 ≠ l0 := fun q => by
      rw [q, upd_same] at hl0
      cases hl0
    have t0 : L2.upd (L2.upd H1 e0 (.tup [])) l0 (.lst [.ref e0]) e0 = some (.tup []) := by rw [upd_ne ne0]; exact upd_same
    have t1 : L2.upd (L2.upd H1 e0 (.tup [])) l0 (.lst [.ref e0]) l0 = some (.lst [.ref e0]) := upd_same
    refine ⟨.int n, rfl, n, rfl, hn5, fun r us bl H2 hr2 e2 hr hBL hbz hbm hbf => ⟨l0, r, [.ref e0], us, rfl, rfl, e2 _ _ t1, hr, ?_, fun L hL => ⟨L, rfl, ⟨_, sq_of upd_same⟩, ?_⟩⟩⟩
    · have := hBL.len
      show 1 + us.length ≤ _
      exact szle (by omega)
    have x2 : Ex H1 (L2.upd H2 L (.lst ([.ref e0] ++ us))) := (x0.trans e2).trans (Ex.new hL)
    have hB2 : BL (L2.upd H2 L (.lst ([.ref e0] ++ us))) ([.ref e0] ++ us) ([] :: bl) := ⟨⟨e0, rfl, Ex.new hL _ _ (e2 _ _ t0)⟩, hBL.ex (Ex.new hL)⟩
    have l2 : L2.upd H2 L (.lst ([.ref e0] ++ us)) L = some (.lst ([.ref e0] ++ us)) := upd_same
    show tSeq _ _ _ _ (L2.upd H2 L (.lst ([.ref e0] ++ us)))
    generalize L2.upd H2 L (.lst ([.ref e0] ++ us)) = H3 at x2 hB2 l2 ⊢
    have hbm' : ∀ b ∈ ([] :: bl : List (List Nat)), b.length ≤ n := fun b hb => by
      rcases List.mem_cons.mp hb with e | e
      · rw [e]; exact Nat.zero_le _
      · obtain ⟨t, _, rfl⟩ := hbm b e
        exact blk_len n t
    have hbf' : 0 < n → List.range n ∈ ([] :: bl : List (List Nat)) := fun h => List.mem_cons_of_mem _ (hbf h)
    have hll : ([] :: bl : List (List Nat)).length ≤ 33 := by rw [List.length_cons]; omega
    generalize ([] :: bl : List (List Nat)) = bl at hB2 hbm' hbf' hll
    generalize ([.ref e0] ++ us : List V) = us at hB2 l2 ⊢
    refine q_forAt (xs := us) (fun i σ' H' => ∃ kvs x3 x4 x5 x6 x7, σ' = [some (.ref wd), some (.int n), some (.ref Df), x3, x4, x5, x6, x7] ∧ H' L = some (.lst us) ∧ BL H' us bl ∧ H' Df = some (.dT kvs) ∧ kvs.length ≤ i ∧ Ex H H' ∧ (∀ e ∈ kvs, e.1.length ≤ n) ∧ (List.range n ∈ bl.take i → total n (ansOf n z) (List.range n) ≠ 0 → keyB (List.range n) ∈ kvs.map (·.1)))
      ⟨[], none, none, none, none, none, rfl, l2, hB2, x2 _ _ dD, Nat.le_refl _, xD.trans x2, (fun e h => absurd h (by simp)), (fun h => absurd h (by simp))⟩ (fun i σ' H' z => by
        obtain ⟨_, _, _, _, _, _, _, h, _⟩ := z
        exact sq_of h) (fun i x σ' H' hx zz => ?_) (fun σ' H' zz => ?_)
    · obtain ⟨kvs, x3, x4, x5, x6, x7, rfl, hL', hB', hD, hkl, eH, hks, hkf⟩ := zz
      have hiu : i < us.length := (List.getElem?_eq_some_iff.mp hx).1
      obtain ⟨b, hb, B, rfl, hBt⟩ := Each.get hB' hx
      have hib : i < bl.length := (List.getElem?_eq_some_iff.mp hb).1
      have hbl := hbm' b (List.mem_of_getElem? hb)
      have htk : bl.take (i + 1) = bl.take i ++ [b] := by
        rw [take_next hib]
        rw [List.getElem?_eq_getElem hib] at hb
        rw [Option.some.inj hb]
      refine q_asg (v := .int 0) ev_c fun H4 e4 => ?_
      refine q_forNLn (K := K) (xs := texts (ins n)) (el_call (vs := [.int (n : Nat)]) (ea_cons (ev_var rfl) ea_nil) fun H7 e Q q E => ⟨n, rfl, by omega, q⟩)
        (fun q j σ' H5 => ∃ x5 x6, σ' = [some (.ref wd), some (.int n), some (.ref Df), some (.ref B), some (.int (((ins n).take j).map (tterm (ansOf n z) n b)).sum), x5, x6, x7] ∧ H5 q = some (.lst (texts (ins n))) ∧ Ex H' H5)
        (fun q H7 hq e7 h7 => ⟨x5, x6, rfl, h7, e4.trans e7⟩) (fun q j σ' H' _ z => by
          obtain ⟨_, _, _, h, _⟩ := z
          exact sq_of h) (fun q j x σ' H5 hx zz => ?_) (fun q σ' H5 zz => ?_)
      · obtain ⟨x5, x6, rfl, hq, e5⟩ := zz
        have hj : j < (ins n).length := by
          have := (List.getElem?_eq_some_iff.mp hx).1
          rw [texts, List.length_map] at this
          exact this
        have ex : x = V.str (S (ins n)[j]) := by
          rw [texts, List.getElem?_map, List.getElem?_eq_getElem hj] at hx
          exact (Option.some.inj hx).symm
        subst ex
        have htm : (ins n)[j] ∈ ins n := List.getElem_mem hj
        have hlt := take_next hj
        generalize (ins n)[j] = t at htm hlt ⊢
        have htl := (mem_strL.mp htm).1
        have hol := blk_len n t
        have nx : (((ins n).take (j + 1)).map (tterm (ansOf n z) n b)).sum = (((ins n).take j).map (tterm (ansOf n z) n b)).sum + tterm (ansOf n z) n b t := by
          rw [hlt, List.map_append, List.sum_append]
          simp
        rw [nx]
        generalize (((ins n).take j).map (tterm (ansOf n z) n b)).sum = tot
        refine q_asgL (xs := natsV (onesOf n t)) (el_marks (z := t) (n := n) (ea_cons (ev_var rfl) ea_nil) (by omega) (by omega) (fun x => rfl) (fun k H1 _ => ev_var rfl) (fun k H1 _ => ev_var rfl) fun k H1 _ => ev_var rfl) fun O H6 hO e6 h6 => ?_
        have e56 := e5.trans e6
        refine s_if (b := ((onesOf n t).filter fun k => !b.contains k).isEmpty) (et_test (ev_opLN (xs := natsV ((onesOf n t).filter fun k => !b.contains k)) ?_ fun p q' H7 hp hq' => rv_eqNil hp hq')) (fun hb H7 e7 => ?_) (fun hb H7 e7 => ?_)
        · refine el_cmp (l := onesOf n t) (en := fun i => V.int (i : Nat)) (es_list (ev_var rfl) (sq_of h6)) (by omega) (fun x => rfl) (fun k hk H7 e => ?_) fun k hk H7 e _ => ev_var rfl
          refine et_test (ev_is (ev_op (ev_var rfl) (ev_var rfl) (rv_niT (st_of ((e56.trans e) _ _ hBt)) rfl (flat_nats _))) ?_)
          rw [inV_nat, List.contains_eq_mem]
        · have h0 : ((onesOf n t).filter fun k => !b.contains k) = [] := List.isEmpty_iff.mp hb
          have e57 := e56.trans e7
          have par : ((b.length : Int) - ((onesOf n t).length : Int)) % 2 = 0 ∨ ((b.length : Int) - ((onesOf n t).length : Int)) % 2 = 1 := by omega
          refine s_asg (v := .int (tot + tterm (ansOf n z) n b t)) (ev_op (y := .int (tterm (ansOf n z) n b t)) (ev_var rfl) ?_ rv_I0) fun H8 e8 => ⟨_, _, rfl, (e6.trans (e7.trans e8)) _ _ hq, e57.trans e8⟩
          unfold tterm
          rw [if_pos h0]
          refine ev_op (x := .int (ansOf n z t)) (y := .int (if ((b.length : Int) - ((onesOf n t).length : Int)) % 2 = 0 then 1 else -1)) (ev_dget (k := keyT t) (ev_var rfl) (ev_var rfl) ((eH.trans e57) _ _ hw) (kvs_val hz.2.1 htm)) (ev_opL1 (xs := [.int 1, .int (-1)]) (y := .int (((b.length : Int) - ((onesOf n t).length : Int)) % 2)) (el_lst (ea_cons ev_c (ea_cons (ev_un ev_c ru_neg) ea_nil)) (by show 2 ≤ 100000; decide)) (fun H8 e8 => ev_op (ev_op (ev_is (ev_lenT (ev_var rfl) ((e57.trans e8) _ _ hBt)) (by rw [nats_len])) (ev_is (ev_len (ev_var rfl) (sq_of ((e7.trans e8) _ _ h6))) (by rw [nats_len])) rv_I0) ev_c (rv_mod (by decide))) fun p H8 hp e8 => ?_) (rv_mulR ?_)
          · rcases par with q' | q' <;> rw [q']
            · rw [if_pos rfl]
              exact rv_ixL (i := ((0 : Nat) : Int)) (sq_of hp) (atI_nat rfl)
            · rw [if_neg (by decide)]
              exact rv_ixL (i := ((1 : Nat) : Int)) (sq_of hp) (atI_nat rfl)
          · split <;> decide
        · refine ⟨some (.str (S t)), some (.ref O), ?_, (e6.trans e7) _ _ hq, e56.trans e7⟩
          have h0 : ¬ ((onesOf n t).filter fun k => !b.contains k) = [] := fun e => by rw [e] at hb; cases hb
          unfold tterm
          rw [if_neg h0, Int.add_zero]
          rfl
      · obtain ⟨x5, x6, rfl, hq, e5⟩ := zz
        have hlen : (texts (ins n)).length = (ins n).length := by rw [texts, List.length_map]
        rw [hlen, List.take_length]
        show tIfS _ _ _ _ _ _
        have et : ((ins n).map (tterm (ansOf n z) n b)).sum = total n (ansOf n z) b := rfl
        rw [et]
        refine s_when (b := !decide (V.int (total n (ansOf n z) b) = V.int 0)) (et_test (ev_op (ev_var rfl) ev_c (rv_ne rfl))) (fun hb0 H6 e6 => ?_) (fun hb0 H6 e6 => ?_)
        · have e56 := e5.trans e6
          refine ⟨.int (total n (ansOf n z) b), rfl, .ref Df, rfl, .ref B, rfl, Df, _, rfl, .inr ⟨kvs, keyB b, B, e56 _ _ hD, rfl, by rw [keyB_V]; exact e56 _ _ hBt, sz_lt (by omega), rfl⟩, putK kvs (keyB b) (.int (total n (ansOf n z) b)), _, _, _, _, _, rfl, ?_, ?_, upd_same, ?_, (eH.trans e56).mut hDf, fun e he => ?_, fun hr ht => ?_⟩
          · rw [upd_ne (fun q' => by rw [q', hD] at hL'; cases hL')]
            exact e56 _ _ hL'
          · exact BL.upd2 (fun xs q' => by
              rw [e56 _ _ hD] at q'
              cases q') (hB'.ex e56)
          · have := putK_leG kvs (keyB b) (.int (total n (ansOf n z) b))
            omega
          · rcases putK_sub he with h | h
            · rw [h, keyB_len]
              exact hbl
            · obtain ⟨e', he', h2⟩ := List.mem_map.mp h
              rw [← h2]
              exact hks e' he'
          · rw [htk] at hr
            rcases List.mem_append.mp hr with h | h
            · exact putK_keep (hkf h ht)
            · rw [List.mem_singleton.mp h]
              exact putK_has _ _ _
        · have e56 := e5.trans e6
          refine ⟨kvs, _, _, _, _, _, rfl, e56 _ _ hL', hB'.ex e56, e56 _ _ hD, by omega, eH.trans e56, hks, fun hr ht => ?_⟩
          rw [htk] at hr
          rcases List.mem_append.mp hr with h | h
          · exact hkf h ht
          · rw [← List.mem_singleton.mp h, Bool.not_eq_false', decide_eq_true_eq] at hb0
            exact absurd (V.int.inj hb0) ht
    · obtain ⟨kvs, x3, x4, x5, x6, x7, rfl, hL', hB', hD, hkl, eH, hks, hkf⟩ := zz
      have hbu := hB'.len
      rw [← hbu] at hkl hkf
      rw [List.take_length] at hkf
      refine s_ret (ev_var rfl) fun H5 e5 => k Df kvs H5 hDf (eH.trans e5) (e5 _ _ hD) (by omega) ⟨hks, fun h0 ht => ?_⟩
      obtain ⟨e, he, h2⟩ := List.mem_map.mp (hkf (hbf' h0) ht)
      exact ⟨e, he, by rw [h2, keyB_len, List.length_range]⟩
end
end LX


set_option Elab.async false
set_option linter.all false
set_option maxRecDepth 100000
set_option maxHeartbeats 4000000
/-! _law_reached. -/
namespace LX
open PySem PySem.Spec PyProof.Rows L2 TL Evl SX C8
def dg (o : List Nat) : List Nat := o.map fun i => 48 + i
def okIdx (n : Nat) : Bool := (perms n).all fun o => (List.range n).all fun a => match Builtin.Str.occurrences (S (dg o)) (S [48 + a]) 0 (S (dg o)).length 1 with | [] => false | i :: _ => decide (i = o.idxOf a) && decide (i < n)
theorem okIdx_of {n : Nat} (h2 : 2 ≤ n) (h5 : n ≤ 5) : okIdx n = true := by
  match n, h2, h5 with
  | 2, _, _ => decide +kernel
  | 3, _, _ => decide +kernel
  | 4, _, _ => decide +kernel
  | 5, _, _ => decide +kernel
  | n + 6, _, h => omega
theorem idx_at {n : Nat} (h2 : 2 ≤ n) (h5 : n ≤ 5) {o : List Nat} (ho : o ∈ perms n) {a : Nat} (ha : a < n) : ∃ rest, Builtin.Str.occurrences (S (dg o)) (S [48 + a]) 0 (S (dg o)).length 1 = o.idxOf a :: rest ∧ o.idxOf a < n := by
  have h := List.all_eq_true.mp (List.all_eq_true.mp (okIdx_of h2 h5) o ho) a (List.mem_range.mpr ha)
  cases e : Builtin.Str.occurrences (S (dg o)) (S [48 + a]) 0 (S (dg o)).length 1 with
  | nil => rw [e] at h; cases h
  | cons i r =>
    rw [e] at h
    simp only [Bool.and_eq_true, decide_eq_true_eq] at h
    exact ⟨r, by rw [h.1], h.1 ▸ h.2⟩
theorem str_dig : ∀ i : Nat, i < 6 → (toString (i : Int) : Str) = S [48 + i] := by
  intro i h
  match i, h with
  | 0, _ => decide +kernel
  | 1, _ => decide +kernel
  | 2, _ => decide +kernel
  | 3, _ => decide +kernel
  | 4, _ => decide +kernel
  | 5, _ => decide +kernel
  | n + 6, h => omega
theorem int_dig : ∀ i : Nat, i < 6 → intText? (S [48 + i]) = some (i : Int) := by
  intro i h
  match i, h with
  | 0, _ => decide +kernel
  | 1, _ => decide +kernel
  | 2, _ => decide +kernel
  | 3, _ => decide +kernel
  | 4, _ => decide +kernel
  | 5, _ => decide +kernel
  | n + 6, h => omega
theorem log_dig : ∀ i : Nat, i < 6 → (i : Int).natAbs.log2 < 1920 := by
  intro i h
  match i, h with
  | 0, _ => decide +kernel
  | 1, _ => decide +kernel
  | 2, _ => decide +kernel
  | 3, _ => decide +kernel
  | 4, _ => decide +kernel
  | 5, _ => decide +kernel
  | n + 6, h => omega
theorem mem_dg {o : List Nat} {i : Nat} : 48 + i ∈ dg o ↔ i ∈ o := by
  unfold dg
  rw [List.mem_map]
  constructor
  · rintro ⟨j, hj, e⟩
    have : j = i := by omega
    exact this ▸ hj
  · exact fun h => ⟨i, h, rfl⟩
theorem fstep_len (n : Nat) (f : List Nat → Int) : ∀ (l : List (List Nat)) (acc : List Nat), (l.foldl (fstep n f) acc).length ≤ acc.length + l.length
  | [], _ => Nat.le_refl _
  | o :: l, acc => by
    rw [List.foldl_cons]
    have h := fstep_len n f l (fstep n f acc o)
    have : (fstep n f acc o).length ≤ acc.length + 1 := by
      unfold fstep
      split
      · omega
      · split
        · rw [List.length_append, List.length_singleton]
          exact Nat.le_refl _
        · omega
    rw [List.length_cons]
    omega
def stepO (n : Nat) (l : List (List Nat)) : List (List Nat) := l.flatMap fun o => ((List.range n).filter fun i => !o.contains i).map fun i => o ++ [i]
theorem stepO_next {n : Nat} {l : List (List Nat)} {i : Nat} (h : i < l.length) : stepO n (l.take (i + 1)) = stepO n (l.take i) ++ ((List.range n).filter fun j => !l[i].contains j).map fun j => l[i] ++ [j] := by
  unfold stepO
  rw [take_next h, List.flatMap_append]
  simp
theorem stepO_le (n : Nat) (l : List (List Nat)) (i : Nat) : (stepO n (l.take i)).length ≤ (stepO n l).length := by
  have e : stepO n l = stepO n (l.take i) ++ stepO n (l.drop i) := by
    unfold stepO
    rw [← List.flatMap_append, List.take_append_drop]
  rw [e, List.length_append]
  omega
section
variable {K : PySem.W.Frag} {σ : L2St} {H : Hp} {ta tb te td ty : TE} {D : Ends} {tz tu : TS}
theorem ev_dig {i : Nat} (hi : i < 6) (h : Ev te σ H (.int (i : Nat))) : Ev (tCB (fun xs H Q => ∃ i, xs = [.int i] ∧ i.natAbs.log2 < 1920 ∧ Q (.str (toString i)) H) (tCons te tNil)) σ H (.str (S [48 + i])) :=
  ev_cb (ea_cons h ea_nil) fun H1 _ Q q => ⟨_, rfl, log_dig i hi, by rw [str_dig i hi]; exact q H1 (Ex.refl _)⟩
theorem ev_und {i : Nat} (hi : i < 6) (h : Ev te σ H (.str (S [48 + i]))) : Ev (tCB (fun xs H Q => ∃ a n, xs = [.str a] ∧ PySem.intText? a = some n ∧ a.length ≤ 640 ∧ Q (.int n) H) (tCons te tNil)) σ H (.int (i : Nat)) :=
  ev_cb (ea_cons h ea_nil) fun H1 _ Q q => ⟨_, _, rfl, int_dig i hi, by show 1 ≤ 640; decide, q H1 (Ex.refl _)⟩
theorem ev_dgetF {d : Addr} {od : Obj} {kvs : List (Key × V)} {k : Key} {v : V} (h1 : Ev td σ H (.ref d)) (h2 : Ev ty σ H (kV k)) (hd : H d = some (.frz od (.dK kvs))) (hv : valV kvs k = some v) : Ev (tDGet td ty) σ H v := fun H1 e Q q =>
  h1 H1 e _ fun H2 e2 => h2 H2 (e.trans e2) _ fun H3 e3 => ⟨d, v, rfl, .inl ⟨kvs, k, .inr ⟨od, ((e.trans e2).trans e3) _ _ hd⟩, rfl, hv.symm⟩, q H3 (e2.trans e3)⟩
theorem ex_unlock {d : Addr} {od : Obj} {u : HO} {H' : Hp} (hd : H d = some u) (e : Ex (L2.upd H d (.frz od u)) H') : Ex H (L2.upd H' d u) := fun b o hb => by
  by_cases h : b = d
  · rw [h, hd] at hb
    cases hb
    rw [h]
    exact upd_same
  · rw [upd_ne h]
    exact e _ _ (by rw [upd_ne h]; exact hb)
end
section
variable {P : Program} {w : World} {K : PySem.W.Frag} {mg : Str → Option Value} {base : Heap} {a : Ad}
abbrev s_Lreached : Stmt := topS 45
abbrev N_Lreached : List Str := ["_law_worths_here", "_law_many", "_law_lots", "_law_k", "_law_longer", "_law_some", "_law_firsts", "_law_good", "_law_text", "_law_other", "_law_at"]
theorem sc_Lreached : FnScope N_Lreached ["_law_worths_here", "_law_many"] (defScope s_Lreached) := ⟨rfl, rfl, rfl, by decide +kernel, rfl, by decide +kernel, by decide +kernel⟩
def spReached : Sp := fun vs H Q _ => ∃ (wd : Addr) (n : Nat) (z : List Nat), vs = [.ref wd, .int n] ∧ H wd = some (.dK (kvsOf n z)) ∧ IsTabN n z ∧ 2 ≤ n ∧ n ≤ 5 ∧ RetV (.int ((firsts n (ansOf n z)).length : Nat)) H Q
theorem cal_reached (T : Txt K mg a) (D : DF K mg "_law_reached" s_Lreached) : Cal P w K mg base 1 "_law_reached" spReached [] := by
  refine mkCal D sc_Lreached (fun _ _ _ _ _ _ us hl => match us, hl with | [_, _], _ => rfl) (fun vs H Q E h => ?_) (fun f cdv A outer s H vs Q E hr h => ?_)
  · obtain ⟨_, _, _, rfl, _⟩ := h
    rfl
  · obtain ⟨wd, n, z, rfl, hw, hz, h2, h5, k⟩ := h
    have hu := hu_of hr
    refine ⟨_, (pss_cons (ps_set (i := 2) sc_Lreached.nd rfl (Or.inl rfl) (pe_lst (pa_cons pe_str pa_nil)))
    (pss_cons (ps_for PassesOwn.never rfl (pi_range1 rfl T.range_ (pa_cons (pv 1) pa_nil)) (pg_name (i := 3) sc_Lreached.nd rfl (Or.inl rfl)) (pss_cons (ps_set (i := 4) sc_Lreached.nd rfl (Or.inl rfl) (pe_lst pa_nil))
    (pss_cons (ps_for PassesOwn.never rfl (pi_listK (K := K) (pv 2)) (pg_name (i := 5) sc_Lreached.nd rfl (Or.inr rfl)) (pss_one (ps_set (i := 4) sc_Lreached.nd rfl (Or.inl rfl) (pe_op op_cat (pv 4) (pe_lc (own := [("_law_at", 10)]) (g := (gName 10)) rfl sc_Lreached.nd (pi_range1 rfl T.range_ (pa_cons (pv 1) pa_nil)) (blkOk_by (own := [("_law_at", 10)]) (N := N_Lreached) (sc := defScope s_Lreached) (by decide +kernel)) (fun _ _ _ _ _ => (pg_name (i := 10) sc_Lreached.nd rfl (Or.inl rfl))) (fun _ _ _ _ _ => pts_one (pt_cmpR op_notIn_sign (pe_callTy (call_str_int) (by rfl) T.str_ (by decide +kernel) (pa_cons (pv 10) pa_nil)) (pv 5) rfl)) (fun _ _ _ _ _ => (pe_op op_add_str (pv 5) (pe_callTy (call_str_int) (by rfl) T.str_ (by decide +kernel) (pa_cons (pv 10) pa_nil)))))))))
    (pss_one (ps_set (i := 2) sc_Lreached.nd rfl (Or.inl rfl) (pv 4))))))
    (pss_cons (ps_set (i := 6) sc_Lreached.nd rfl (Or.inl rfl) (pe_lst pa_nil))
    (pss_cons (ps_for PassesOwn.never rfl (pi_listK (K := K) (pv 2)) (pg_name (i := 5) sc_Lreached.nd rfl (Or.inr rfl)) (pss_one (ps_if (PW.pt (pw_or (pt_cmpR op_eq (pv 5) pe_str (nomark _)) (pw_or1 (pt_cmpR (op_notIn_seqK (K := K)) (pe_callTy (call_int_str) (by rfl) T.int_ (by decide +kernel) (pa_cons (pe_ix ix_str (pv 5) pe_int (fun _ _ => rfl)) pa_nil)) (pv 6) rfl)))) (pss_cons (ps_set (i := 7) sc_Lreached.nd rfl (Or.inl rfl) pe_bl)
    (Evl.pss_cut (ps_lock (ps_for PassesOwn.never rfl (pi_keys (pv 0)) (pg_name (i := 8) sc_Lreached.nd rfl (Or.inr rfl)) (pss_cons (ps_set (i := 9) sc_Lreached.nd rfl (Or.inl rfl) (pe_join pe_str (pe_lc (own := [("_law_at", 10)]) (g := (gName 10)) (tt := tYes) rfl sc_Lreached.nd (pi_range1 rfl T.range_ (pa_cons (pv 1) pa_nil)) (blkOk_by (own := [("_law_at", 10)]) (N := N_Lreached) (sc := defScope s_Lreached) (by decide +kernel)) (fun _ _ _ _ _ => (pg_name (i := 10) sc_Lreached.nd rfl (Or.inl rfl))) (fun _ _ _ _ _ => pts_nil) (fun _ _ _ _ _ => (pe_ix ix_str (pv 8) (pe_m1 PySem.F.slot_str_index PySem.F.type_str_index mt_sindex (pv 5) (pe_callTy (call_str_int) (by rfl) T.str_ (by decide +kernel) (pa_cons (pv 10) pa_nil))) (fun _ _ => rfl))))))
    (pss_one (ps_if (pt_cmpR op_ne (pe_dget (by exact hu) (pv 0) (pv 9) (fun _ _ => rfl)) (pe_dget (by exact hu) (pv 0) (pv 8) (fun _ _ => rfl)) (nomark _)) (pss_cons (ps_set (i := 7) sc_Lreached.nd rfl (Or.inl rfl) pe_bl)
    (pss_one ps_break)) pss_nil)))))
    (pss_one (ps_if (PW.pt (pw_and (pt_val (pv 7)) (pw_and1 (pt_cmpR op_ne (pv 5) pe_str (nomark _))))) (pss_one (ps_expr (pe_bm PySem.F.plainAttrs_list PySem.F.slot_list_append PySem.F.type_list_append mt_append (pv 6) (pa_cons (pe_callTy (call_int_str) (by rfl) T.int_ (by decide +kernel) (pa_cons (pe_ix ix_str (pv 5) pe_int (fun _ _ => rfl)) pa_nil)) pa_nil)))) pss_nil)))) pss_nil)))
    (pss_one (ps_ret (pe_callB (call_len_seqK (K := K)) (by rfl) T.len_ (by decide +kernel) (pa_cons (pv 6) pa_nil)))))))), ?_⟩
    refine q_asgL (xs := texts ((permsL (List.range n) 0).map dg)) (el_lst (ea_cons ev_c ea_nil) (by show 1 ≤ 100000; decide)) fun p0 H1 hp0 e1 h1 => ?_
    refine q_forR1 (n := n) (ea_cons (ev_var rfl) ea_nil) (by omega) (fun i σ' H' => ∃ q x3 x4 x5 x10, σ' = [some (.ref wd), some (.int n), some (.ref q), x3, x4, x5, none, none, none, none, x10] ∧ H q = none ∧ Ex H H' ∧ H' q = some (.lst (texts ((permsL (List.range n) i).map dg)))) (fun H2 e2 => ⟨p0, none, none, none, none, rfl, hp0, e1.trans e2, e2 _ _ h1⟩) (fun i σ' H' hi z => ?_) (fun σ' H' z => ?_)
    · obtain ⟨q, x3, x4, x5, x10, rfl, hq, eH, hx⟩ := z
      have hin : i + 1 ≤ n := by omega
      obtain ⟨c1, c2⟩ := cnt h5 (Nat.le_of_succ_le hin)
      have c3 := (cnt h5 hin).1
      have stp : permsL (List.range n) (i + 1) = stepO n (permsL (List.range n) i) := rfl
      rw [stp] at c3
      generalize hl : permsL (List.range n) i = l at c1 c2 c3 hx stp
      refine q_asgL (xs := []) (el_lst ea_nil (by decide)) fun m H2 hm e2 h2' => ?_
      refine q_forLn (xs := texts (l.map dg)) (ev_var rfl) (sq_of (e2 _ _ hx)) (fun j σ' H' => ∃ m' x5 x10, σ' = [some (.ref wd), some (.int n), some (.ref q), some (.int i), some (.ref m'), x5, none, none, none, none, x10] ∧ H m' = none ∧ Ex H H' ∧ H' q = some (.lst (texts (l.map dg))) ∧ H' m' = some (.lst (texts ((stepO n (l.take j)).map dg))))
        (fun H3 e3 => ⟨m, x5, x10, rfl, fresh_back eH hm, (eH.trans e2).trans e3, e3 _ _ (e2 _ _ hx), e3 _ _ h2'⟩) (fun j σ' H' _ z => by
          obtain ⟨_, _, _, _, _, _, h, _⟩ := z
          exact sq_of h) (fun j t σ' H' ht z => ?_) (fun σ' H' z => ?_)
      · obtain ⟨m', x5, x10, rfl, hm', eH', hq', hmm⟩ := z
        have hj : j < l.length := by
          have := (List.getElem?_eq_some_iff.mp ht).1
          rw [texts, List.length_map, List.length_map] at this
          exact this
        have et : t = V.str (S (dg l[j])) := by
          rw [texts, List.getElem?_map, List.getElem?_map, List.getElem?_eq_getElem hj] at ht
          exact (Option.some.inj ht).symm
        subst et
        have htl : l[j].length = i := c2 _ (List.getElem_mem hj)
        have nx := stepO_next (n := n) hj
        have le1 := stepO_le n l (j + 1)
        rw [nx] at le1
        refine s_asgL (xs := texts ((stepO n (l.take (j + 1))).map dg)) ?_ fun m2 H4 hm2 e4 h4 => ⟨m2, _, _, rfl, fresh_back eH' hm2, eH'.trans e4, e4 _ _ hq', h4⟩
        rw [nx, List.map_append, texts_app]
        generalize l[j] = o at htl le1
        have em : texts ((((List.range n).filter fun j => !o.contains j).map fun j => o ++ [j]).map dg) = ((List.range n).filter fun j => !o.contains j).map fun j => V.str (S (dg o ++ [48 + j])) := by
          rw [texts, List.map_map, List.map_map]
          refine List.map_congr_left fun j _ => ?_
          show V.str (S (dg (o ++ [j]))) = _
          rw [dg, List.map_append]
          rfl
        have hdl : (dg o).length = i := by rw [dg, List.length_map, htl]
        refine el_cat (ev_var rfl) hmm ?_ (by
          rw [List.length_append, List.length_map] at le1
          rw [em, List.length_map, texts, List.length_map, List.length_map]
          omega)
        rw [em]
        refine el_cmp (l := List.range n) (en := fun i => V.int (i : Nat)) (es_range (ea_cons (ev_var rfl) ea_nil) (by omega)) (by rw [List.length_range]; omega) (fun x => rfl) (fun c hc H5 _ => ?_) fun c hc H5 _ _ => ?_
        · have hc6 : c < 6 := by have := List.mem_range.mp hc; omega
          refine et_test (ev_is (ev_op (x := .str (S [48 + c])) (y := .str (S (dg o))) (ev_dig hc6 (ev_var rfl)) (ev_var rfl) (rv_val fun H6 _ Q q => ⟨48 + c, S (dg o), rfl, rfl, q⟩)) ?_)
          rw [List.contains_eq_mem]
          congr 2
          show decide (48 + c ∈ dg o) = decide (c ∈ o)
          rw [Bool.eq_iff_iff, decide_eq_true_eq, decide_eq_true_eq]
          exact mem_dg
        · have hc6 : c < 6 := by have := List.mem_range.mp hc; omega
          exact ev_op (ev_var rfl) (ev_dig hc6 (ev_var rfl)) (rv_addS (by
            simp only [List.length_singleton]
            omega))
      · obtain ⟨m', x5, x10, rfl, hm', eH', hq', hmm⟩ := z
        have hlt : (texts (l.map dg)).length = l.length := by rw [texts, List.length_map, List.length_map]
        rw [hlt, List.take_length] at hmm
        refine s_asg (v := .ref m') (ev_var rfl) fun H4 e4 => ⟨m', _, _, _, _, rfl, hm', eH'.trans e4, ?_⟩
        rw [stp]
        exact e4 _ _ hmm
    · obtain ⟨q, x3, x4, x5, x10, rfl, hq, eH, hx⟩ := z
      have hx : H' q = some (.lst (texts ((perms n).map dg))) := hx
      refine q_asgL (xs := []) (el_lst ea_nil (by decide)) fun F H2 hF e2 h2' => ?_
      have hFH : H F = none := fresh_back eH hF
      have e02 := eH.trans e2
      have qF : q ≠ F := fresh_ne hx hF
      refine q_forLn (xs := texts ((perms n).map dg)) (ev_var rfl) (sq_of (e2 _ _ hx)) (fun i σ' H' => ∃ x5 x7 x8 x9 x10, σ' = [some (.ref wd), some (.int n), some (.ref q), x3, x4, x5, some (.ref F), x7, x8, x9, x10] ∧ Ex H H' ∧ H' q = some (.lst (texts ((perms n).map dg))) ∧ H' F = some (.lst (natsV (((perms n).take i).foldl (fstep n (ansOf n z)) []))))
        (fun H3 e3 => ⟨x5, none, none, none, x10, rfl, e02.trans e3, e3 _ _ (e2 _ _ hx), e3 _ _ h2'⟩) (fun j σ' H' _ z => by
          obtain ⟨_, _, _, _, _, _, _, h, _⟩ := z
          exact sq_of h) (fun i t σ' H3 ht zz => ?_) (fun σ' H3 zz => ?_)
      · obtain ⟨x5, x7, x8, x9, x10, rfl, e3, hq3, hF3⟩ := zz
        have hi : i < (perms n).length := by
          have := (List.getElem?_eq_some_iff.mp ht).1
          rw [texts, List.length_map, List.length_map] at this
          exact this
        have et : t = V.str (S (dg (perms n)[i])) := by
          rw [texts, List.getElem?_map, List.getElem?_map, List.getElem?_eq_getElem hi] at ht
          exact (Option.some.inj ht).symm
        subst et
        have hom : (perms n)[i] ∈ perms n := List.getElem_mem hi
        have nx : ((perms n).take (i + 1)).foldl (fstep n (ansOf n z)) [] = fstep n (ansOf n z) (((perms n).take i).foldl (fstep n (ansOf n z)) []) (perms n)[i] := by
          rw [take_next hi, List.foldl_append]
          rfl
        rw [nx]
        have hacc := fstep_len n (ansOf n z) ((perms n).take i) []
        have hpz := (cnt h5 (Nat.le_refl n)).1
        have hpz' : (perms n).length ≤ 120 := hpz
        rw [List.length_take, List.length_nil] at hacc
        generalize ((perms n).take i).foldl (fstep n (ansOf n z)) [] = acc at hF3 hacc ⊢
        generalize (perms n)[i] = o at hom ⊢
        obtain ⟨o1, o2, o3, o4⟩ := perm_fact h2 h5 hom
        have hdl : (dg o).length = n := by rw [dg, List.length_map, o1]
        have ho0 : o ≠ [] := fun e => by rw [e] at o1; simp at o1; omega
        have hhd : o.headD 0 ∈ o := by
          cases o with
          | nil => exact absurd rfl ho0
          | cons c r => exact List.mem_cons_self
        have hc6 : o.headD 0 < 6 := by have := o3 _ hhd; omega
        have hat0 : (dg o)[0]? = some (48 + o.headD 0) := by
          cases o with
          | nil => exact absurd rfl ho0
          | cons c r => rfl
        have hne0 : S (dg o) ≠ S [] := fun e => by
          have := congrArg List.length (S_inj e)
          rw [hdl] at this
          simp at this
          omega
        refine s_when (b := decide (V.str (S (dg o)) = V.str (S [])) || !decide (o.headD 0 ∈ acc)) (et_or (et_test (ev_op (ev_var rfl) ev_c (rv_eq rfl))) fun _ => et_test (ev_is (ev_op (ev_und hc6 (ev_ixS (i := 0) (ev_var rfl) ev_c (by omega) hat0)) (ev_var rfl) (rv_niL (sq_of hF3) rfl (flat_nats _))) (by rw [inV_nat]))) (fun hb H4 e4 => ?_) (fun hb H4 e4 => ?_)
        · have hna : o.headD 0 ∉ acc := by
            rw [decide_eq_false (fun q => hne0 (V.str.inj q)), Bool.false_or, Bool.not_eq_true', decide_eq_false_iff_not] at hb
            exact hb
          have hstep : fstep n (ansOf n z) acc o = if keeps n (ansOf n z) o then acc ++ [o.headD 0] else acc := by
            unfold fstep
            rw [if_neg (by rw [List.contains_eq_mem]; simpa using hna)]
          refine q_asg (v := .bl true) ev_c fun H5 e5 => ?_
          have e35 := e3.trans (e4.trans e5)
          refine q_cut (M := fun σ' H' => ∃ x8 x9, σ' = [some (.ref wd), some (.int n), some (.ref q), x3, x4, some (.str (S (dg o))), some (.ref F), some (.bl (keeps n (ansOf n z) o)), x8, x9, x10] ∧ Ex H5 H') ⟨wd, .dK (kvsOf n z), e35 _ _ hw, trivial, fun od => ?_⟩ fun σ' H6 z6 => ?_
          · have fz := upd_same (H := H5) (a := wd) (o := .frz od (.dK (kvsOf n z)))
            have w5 := e35 _ _ hw
            refine ⟨.ref wd, rfl, wd, od, rfl, .inl ⟨kvsOf n z, fz, for_it walk_keys (fun i σ' H' => ∃ x8 x9, σ' = [some (.ref wd), some (.int n), some (.ref q), x3, x4, some (.str (S (dg o))), some (.ref F), some (.bl true), x8, x9, x10] ∧ Ex (L2.upd H5 wd (.frz od (.dK (kvsOf n z)))) H' ∧ ∀ t ∈ (ins n).take i, ansOf n z (act n o t) = ansOf n z t) ⟨x8, x9, rfl, Ex.refl _, fun t h => absurd h (by simp)⟩ (fun j σ' H' _ p => ?_) (fun j x σ' Ha Hb hj p y => ?_) (fun σ' H' p => ?_)⟩⟩
            · obtain ⟨_, _, _, e, _⟩ := p
              exact e _ _ fz
            · obtain ⟨x8, x9, rfl, ef, hkp⟩ := p
              obtain ⟨rfl, kk, vv, hkv, rfl⟩ := y
              obtain ⟨t, c, ht1, ht2, ht3⟩ := kvs_key hkv
              cases ht3
              have htm : t ∈ ins n := List.mem_of_getElem? ht1
              obtain ⟨a1, a2⟩ := o4 t htm
              have htl : t.length = n := strL_mem_len htm
              have hji : j < (ins n).length := (List.getElem?_eq_some_iff.mp ht1).1
              have htk : (ins n).take (j + 1) = (ins n).take j ++ [t] := by
                rw [take_next hji]
                rw [List.getElem?_eq_getElem hji] at ht1
                rw [Option.some.inj ht1]
              refine q_asg (v := .str (S (act n o t))) (ev_joinC (cs := act n o t) ?_ ?_) fun H7 e7 => ?_
              · unfold act
                rw [List.map_map]
                refine el_map (l := List.range n) (en := fun i => V.int (i : Nat)) (es_range (ea_cons (ev_var rfl) ea_nil) (by omega)) (by rw [List.length_range]; omega) (fun x => rfl) fun c hc H8 _ => ?_
                have hcn := List.mem_range.mp hc
                obtain ⟨rest, hoc, hlt⟩ := idx_at h2 h5 hom hcn
                have hlt' : o.idxOf c < t.length := by omega
                show Ev _ _ _ (.str (S [t.getD (o.idxOf c) 0]))
                rw [getD_at hlt']
                exact ev_ixS (ev_var rfl) (fun H9 e9 Q q => ⟨.str (S (dg o)), rfl, ⟨_, rfl⟩, ev_dig (i := c) (by omega) (ev_var rfl) H9 e9 _ fun H10 e10 => ⟨S (dg o), S [48 + c], o.idxOf c, rest, rfl, rfl, hoc, q H10 e10⟩⟩) (by omega) (List.getElem?_eq_getElem hlt')
              · unfold act
                rw [List.length_map, List.length_range]
                omega
              refine s_when (b := !decide (V.int (ansOf n z (act n o t)) = V.int (ansOf n z t))) (et_test (ev_op (ev_dgetF (k := keyT (act n o t)) (ev_var rfl) (ev_var rfl) ((ef.trans e7) _ _ fz) (kvs_val hz.2.1 a2)) (ev_dgetF (k := keyT t) (ev_var rfl) (ev_var rfl) ((ef.trans e7) _ _ fz) (kvs_val hz.2.1 htm)) (rv_ne rfl))) (fun hb2 H8 e8 => ?_) (fun hb2 H8 e8 => ?_)
              · refine q_asg (v := .bl false) ev_c fun H9 e9 => ?_
                have ef9 := ((ef.trans e7).trans e8).trans e9
                refine ⟨ef9 _ _ fz, some (.str (S t)), some (.str (S (act n o t))), ?_, ex_unlock w5 ef9⟩
                have hkf : keeps n (ansOf n z) o = false := by
                  rw [Bool.eq_false_iff]
                  intro hk
                  rw [keeps_at hk htm, decide_eq_true rfl] at hb2
                  cases hb2
                rw [hkf]
                rfl
              · refine ⟨some (.str (S t)), some (.str (S (act n o t))), rfl, (ef.trans e7).trans e8, fun u hu => ?_⟩
                rw [htk] at hu
                rcases List.mem_append.mp hu with h | h
                · exact hkp u h
                · rw [List.mem_singleton.mp h]
                  rw [Bool.not_eq_false', decide_eq_true_eq] at hb2
                  exact V.int.inj hb2
            · obtain ⟨x8, x9, rfl, ef, hkp⟩ := p
              refine ⟨ef _ _ fz, x8, x9, ?_, ex_unlock w5 ef⟩
              rw [kvs_len hz.2.1, ← ins_len n, List.take_length] at hkp
              have hkt : keeps n (ansOf n z) o = true := List.all_eq_true.mpr fun t ht => decide_eq_true (hkp t ht)
              rw [hkt]
          · obtain ⟨x8, x9, rfl, e6⟩ := z6
            have e36 := e35.trans e6
            have q6 := (e4.trans (e5.trans e6)) _ _ hq3
            have f6 := (e4.trans (e5.trans e6)) _ _ hF3
            refine s_when (b := keeps n (ansOf n z) o && !decide (V.str (S (dg o)) = V.str (S []))) (et_and (et_B (ev_var rfl)) fun _ => et_test (ev_op (ev_var rfl) ev_c (rv_ne rfl))) (fun hb2 H7 e7 => ?_) (fun hb2 H7 e7 => ?_)
            · rw [Bool.and_eq_true] at hb2
              rw [hb2.1, if_pos rfl] at hstep
              refine s_app (v := .int (o.headD 0 : Nat)) (e7 _ _ f6) (ev_var rfl) (ev_und hc6 (ev_ixS (i := 0) (ev_var rfl) ev_c (by omega) hat0)) ?_ fun H8 e8 => ⟨_, _, _, _, _, rfl, (e36.trans (e7.trans e8)).mut hFH, ?_, ?_⟩
              · rw [nats_len]
                omega
              · rw [upd_ne qF]
                exact (e7.trans e8) _ _ q6
              · rw [upd_same, hstep, natsV, natsV, List.map_append]
                rfl
            · rw [decide_eq_false (fun q => hne0 (V.str.inj q)), Bool.not_false, Bool.and_true] at hb2
              rw [hb2, if_neg (by decide)] at hstep
              rw [hstep]
              exact ⟨_, _, _, _, _, rfl, e36.trans e7, e7 _ _ q6, e7 _ _ f6⟩
        · rw [Bool.or_eq_false_iff, Bool.not_eq_false', decide_eq_true_eq] at hb
          have hstep : fstep n (ansOf n z) acc o = acc := by
            unfold fstep
            rw [if_pos (by rw [List.contains_eq_mem]; exact decide_eq_true hb.2)]
          rw [hstep]
          exact ⟨_, _, _, _, _, rfl, e3.trans e4, e4 _ _ hq3, e4 _ _ hF3⟩
      · obtain ⟨x5, x7, x8, x9, x10, rfl, e3, hq3, hF3⟩ := zz
        have hlt : (texts ((perms n).map dg)).length = (perms n).length := by rw [texts, List.length_map, List.length_map]
        rw [hlt, List.take_length] at hF3
        refine s_ret (ev_len (ev_var rfl) (sq_of hF3)) fun H4 e4 => ?_
        rw [nats_len]
        exact k H4 (e3.trans e4)
end
end LX


set_option Elab.async false
set_option linter.all false
set_option maxRecDepth 100000
set_option maxHeartbeats 4000000
/-! What the law needs besides: rules, sums over keys, the greatest block, plain facts. -/
namespace LX
open PySem PySem.Spec PyProof.Rows L2 TL Evl SX C8
/-! ### rules -/
theorem call_repr_opt {X : Cx} : CallR X (.builtin "repr") (fun xs H Q => (∃ i, xs = [V.int i] ∧ i.natAbs.log2 < 1920 ∧ Q (.str (toString i)) H) ∨ (xs = [V.non] ∧ Q (.str "None") H)) := CallR.or SkE.call_repr_int call_repr_none
/-- the keys, tuples, of a dict that is new and read no more: it stays locked -/
def iKeysT (td : TE) : TI := fun σ H R => td σ H fun x H1 => ∃ d kvs, x = .ref d ∧ H1 d = some (.dT kvs) ∧ ∀ o, R (Itkt d o kvs) (L2.upd H1 d (.frz o (.dT kvs)))
theorem pi_keysT {X : Cx} {tg e : Expr} {td : TE} (he : PE X e td) : PI X tg e (iKeysT td) := by
  refine ⟨fun pins s σ H R I h => ?_⟩
  refine thn (he.run pins s σ H _ I h) fun u s1 ⟨x, H1, I1, rx, d, kvs, ex, hd, q⟩ => ?_
  subst ex
  obtain rfl : u = Value.ref d := rx
  obtain ⟨o, I2⟩ := I1.lock hd trivial
  obtain ⟨hs, hgd, hx, es, ep, hdt, hsz, ent⟩ := I2.frzT upd_same
  refine iter_keys hs hgd hx hdt (pi_one (tk := s1.toks) I2 _ (turn_keysT _ hdt) ⟨_, Heap.get?_push_size _ rfl, rfl, ?_⟩ (q o))
  rw [hsz] <;> rfl
section
variable {K : PySem.W.Frag} {σ : L2St} {H : Hp} {ta tb te td ty : TE} {D : Ends} {tz tu : TS}
/-- [e for text in d] -/
theorem el_keys {wd : Addr} {n i j : Nat} {z : List Nat} {vs : List Nat} {φ : List Nat → V} (hs : σ[i]? = some (some (.ref wd))) (hw : H wd = some (.dK (kvsOf n z))) (hz : z.length = 2 ^ n) (hn : n ≤ 5) (hwp : ∀ x, wipe ((wipe σ vs).set j (some x)) vs = wipe σ vs)
    (he : ∀ t ∈ ins n, ∀ od H1, H1 wd = some (.frz od (.dK (kvsOf n z))) → Ev te ((wipe σ vs).set j (some (.str (S t)))) H1 (φ t)) : EvL (tLockE (tLc (iKeys (tVar i)) (gName j) tYes te vs)) σ H ((ins n).map φ) := fun H0 e Q q => by
  have w0 := e _ _ hw
  have h32 : (ins n).length ≤ 32 := by
    rw [ins_len]
    exact Nat.le_trans (Nat.pow_le_pow_right (by decide) hn) (by decide)
  refine ⟨wd, _, w0, trivial, fun od => ?_⟩
  have fz := upd_same (H := H0) (a := wd) (o := .frz od (.dK (kvsOf n z)))
  refine ⟨.ref wd, hs, wd, od, rfl, .inl ⟨kvsOf n z, fz, fun Dl hD => ?_⟩⟩
  have Dw : wd ≠ Dl := fun q' => by rw [← q', fz] at hD; cases hD
  refine lc_it walk_keys (fun i H' => Ex (L2.upd H0 wd (.frz od (.dK (kvsOf n z)))) H' ∧ H' Dl = some (.lst (((ins n).take i).map φ))) ⟨Ex.new hD, upd_same⟩ (fun _ _ _ p => p.1 _ _ fz) (fun i x Ha Hb hi p y => ?_) (fun H' p => ?_)
  · obtain ⟨p1, p2⟩ := p
    obtain ⟨rfl, kk, vv, hkv, rfl⟩ := y
    obtain ⟨t, c, ht1, ht2, ht3⟩ := kvs_key hkv
    cases ht3
    have hii : i < (ins n).length := (List.getElem?_eq_some_iff.mp ht1).1
    have htk : (ins n).take (i + 1) = (ins n).take i ++ [t] := by
      rw [take_next hii]
      rw [List.getElem?_eq_getElem hii] at ht1
      rw [Option.some.inj ht1]
    refine ⟨hwp _, ?_⟩
    show te _ _ fun y H4 => ∃ acc, H4 Dl = some (.lst acc) ∧ acc.length < sizeLine ∧ (Ex (L2.upd H0 wd (.frz od (.dK (kvsOf n z)))) (L2.upd H4 Dl (.lst (acc ++ [y]))) ∧ L2.upd H4 Dl (.lst (acc ++ [y])) Dl = some (.lst (((ins n).take (i + 1)).map φ)))
    refine he t (List.mem_of_getElem? ht1) od _ (p1 _ _ fz) _ (Ex.refl _) _ fun H4 e4 => ⟨_, e4 _ _ p2, ?_, (p1.trans e4).mut hD, ?_⟩
    · rw [List.length_map, List.length_take]
      have := szl
      omega
    · rw [upd_same, htk, List.map_append]
      rfl
  · obtain ⟨p1, p2⟩ := p
    rw [kvs_len hz, ← ins_len n, List.take_length] at p2
    refine ⟨p1 _ _ fz, q Dl _ ?_ (ex_unlock w0 p1) ?_⟩
    · rw [upd_ne (fun q' => Dw q'.symm)] at hD
      exact hD
    · rw [upd_ne (fun q' => Dw q'.symm)]
      exact p2
/-- max([len(block) for block in products(..)]) -/
theorem ev_top {wd : Addr} {n j : Nat} {z : List Nat} {vs : List Nat} {ta : TA} {E : XK} (h : EvA ta σ H [.ref wd, .int n]) (hw : H wd = some (.dK (kvsOf n z))) (hz : IsTabN n z) (h0 : 0 < n) (hn : n ≤ 5) (ht : total n (ansOf n z) (List.range n) ≠ 0) (hwp : ∀ x, wipe ((wipe σ vs).set j (some x)) vs = wipe σ vs) (hj : j < σ.length) :
    Ev (tCB (rMax K) (tCons (tLc (iKeysT (tCall spProducts [] E ta)) (gName j) tYes (tCB (rLenS K) (tCons (tVar j) tNil)) vs) tNil)) σ H (.int (n : Nat)) := fun H1 e Q q =>
  h H1 e _ fun H2 e2 => ⟨wd, n, z, rfl, (e.trans e2) _ _ hw, hz, hn, fun d kvs H3 hd e3 hdT hkl hpr => ⟨d, kvs, rfl, hdT, fun o Dl hD => by
    have fz := upd_same (H := H3) (a := d) (o := .frz o (.dT kvs))
    refine lc_it walk_keysT (fun i H' => Ex (L2.upd H3 d (.frz o (.dT kvs))) H' ∧ H' Dl = some (.lst ((kvs.take i).map fun e => V.int (e.1.length : Nat)))) ⟨Ex.new hD, upd_same⟩ (fun _ _ _ p => p.1 _ _ fz) (fun i x Ha Hb hi p y => ?_) (fun H' p => ?_)
    · obtain ⟨p1, p2⟩ := p
      obtain ⟨rfl, kk, vv, qq, hkv, rfl, hqq⟩ := y
      have hii : i < kvs.length := hi
      have htk : kvs.take (i + 1) = kvs.take i ++ [(kk, vv)] := by
        rw [take_next hii]
        rw [List.getElem?_eq_getElem hii] at hkv
        rw [Option.some.inj hkv]
      refine ⟨hwp _, ?_⟩
      refine ⟨.ref qq, ?_, qq, kk.map kV, rfl, .inr (st_of hqq), _, p2, ?_, p1.mut hD, ?_⟩
      · rw [List.getElem?_set_self (by rw [wipe_length]; exact hj)]
      · rw [List.length_map, List.length_take]
        have := szl
        omega
      · rw [upd_same, htk, List.map_append, List.length_map]
        rfl
    · obtain ⟨p1, p2⟩ := p
      rw [List.take_length] at p2
      obtain ⟨ex, hx, hxn⟩ := hpr.2 h0 ht
      refine ⟨Dl, kvs.map fun e => (e.1.length : Int), rfl, sq_of (by rw [p2, List.map_map]; rfl), by rw [List.length_map]; exact List.length_pos_of_mem hx, fun m hm hmax => ?_⟩
      have h1 : (n : Int) ≤ m := hmax _ (List.mem_map.mpr ⟨ex, hx, by rw [hxn]⟩)
      have h2 : m ≤ n := by
        obtain ⟨e', he', rfl⟩ := List.mem_map.mp hm
        have := hpr.1 e' he'
        omega
      have h3 : m = n := by omega
      rw [h3]
      refine q _ (e2.trans (Ex.trans (fun b u hb => ?_) p1))
      have nb : b ≠ d := fun q' => by rw [q', hd] at hb; cases hb
      rw [upd_ne nb]
      exact e3 _ _ hb⟩⟩
end
/-! ### plain facts -/
def okEnds (n : Nat) : Bool := decide ((ins n)[0]? = some (zs n)) && decide ((ins n)[2 ^ n - 1]? = some (os n)) && (ins n).all fun t => decide (Txt.count (S t) "1" = (wt t : Int))
theorem okEnds_of {n : Nat} (h5 : n ≤ 5) : okEnds n = true := by
  match n, h5 with
  | 0, _ => decide +kernel
  | 1, _ => decide +kernel
  | 2, _ => decide +kernel
  | 3, _ => decide +kernel
  | 4, _ => decide +kernel
  | 5, _ => decide +kernel
  | n + 6, h => omega
theorem ends {n : Nat} (h5 : n ≤ 5) : (ins n)[0]? = some (zs n) ∧ (ins n)[2 ^ n - 1]? = some (os n) ∧ ∀ t ∈ ins n, Txt.count (S t) "1" = (wt t : Int) := by
  have h := okEnds_of h5
  unfold okEnds at h
  rw [Bool.and_eq_true, Bool.and_eq_true, decide_eq_true_eq, decide_eq_true_eq] at h
  exact ⟨h.1.1, h.1.2, fun t ht => of_decide_eq_true (List.all_eq_true.mp h.2 t ht)⟩
theorem ans_get {n : Nat} {z : List Nat} (h : IsTabN n z) {i : Nat} {t : List Nat} (hi : (ins n)[i]? = some t) : ∃ hz : i < z.length, ansOf n z t = (z[i] : Int) - 48 := by
  obtain ⟨h1, h2⟩ := List.getElem?_eq_some_iff.mp hi
  have hz : i < z.length := by rw [h.2.1, ← ins_len n]; exact h1
  exact ⟨hz, by rw [← h2]; exact ans_at h h1 hz⟩
end LX


set_option Elab.async false
set_option linter.all false
set_option maxRecDepth 100000
set_option maxHeartbeats 4000000
/-! law. -/
namespace LX
open PySem PySem.Spec PyProof.Rows L2 TL Evl SX C8
def dueO (n : Nat) (f : List Nat → Int) : Option Int := if 2 ≤ n ∧ n ≤ 5 ∧ f (zs n) ≠ f (os n) ∧ (firsts n f).length = n then some (prm n) else none
theorem told_due (n : Nat) (f : List Nat → Int) : toldV n f = optV (dueO n f) := by
  unfold toldV dueO
  split <;> rfl
theorem prm_pos (n : Nat) : 0 < prm n ∧ prm n ≤ 5 := by
  unfold prm
  split
  · decide
  · split <;> decide
theorem due_pos {n : Nat} {f : List Nat → Int} {d : Int} (h : dueO n f = some d) : 0 < d ∧ d ≤ 5 := by
  unfold dueO at h
  split at h
  · rw [← Option.some.inj h]
    exact prm_pos n
  · cases h
theorem atI_neg {z : List Nat} {i : Nat} (h : i < z.length) (hi : i + 1 = z.length) : atI z (-1) = some z[i] := by
  have e : z = z.take i ++ [z[i]] := by rw [← take_next h, hi, List.take_length]
  conv => lhs; rw [e]
  exact atI_last _ _
theorem due_some {n : Nat} {f : List Nat → Int} {d : Int} (h : dueO n f = some d) : 2 ≤ n ∧ n ≤ 5 ∧ f (zs n) ≠ f (os n) ∧ (firsts n f).length = n ∧ d = prm n := by
  unfold dueO at h
  split at h
  · rename_i hh
    exact ⟨hh.1, hh.2.1, hh.2.2.1, hh.2.2.2, (Option.some.inj h).symm⟩
  · cases h
theorem prm_list {n : Nat} (h2 : 2 ≤ n) (h5 : n ≤ 5) : ([.int 2, .int 3, .int 2, .int 5] : List V)[n - 2]? = some (.int (prm n)) := by
  match n, h2, h5 with
  | 2, _, _ => rfl
  | 3, _, _ => rfl
  | 4, _, _ => rfl
  | 5, _, _ => rfl
  | n + 6, _, h => omega
def reprO : Option Int → Str
  | none => "None"
  | some i => toString i
section
variable {K : PySem.W.Frag} {σ : L2St} {H : Hp} {ta tb tc te td ty : TE} {D : Ends} {tz tu : TS} {b C : Addr} {m : Int} {E E1 E2 : XK}
theorem drS {s : Nat} {Q : VK} (hs : σ[s]? = some (some (.ref b))) (hm : Ev te σ H (.int m)) (hB : Bag H b) (h0 : 0 < m) (h1 : m < 1073741824) (k : ∀ (d : Nat) H', (d : Int) < m → Bag H' b → ExG b H H' → Q (.int (d : Nat)) H') : tCall spDraw [] E (tCons (tVar s) (tCons te tNil)) σ H Q :=
  ⟨.ref b, hs, hm H (Ex.refl _) _ fun H1 e1 => ⟨b, m, rfl, hB.ex e1, h0, h1, fun d H2 hd hB2 x2 => k d H2 hd hB2 ((ExG.of e1).trans x2)⟩⟩
theorem q_many {i : Nat} {ns : List Nat} {t : TA} (hs : σ[1]? = some (some (.ref b))) (ht : EvA t σ H (natsV ns)) (hB : Bag H b) (h0 : 0 < ns.length) (h1 : ns.length ≤ 1000) (hm : m = ns.length) (k : ∀ n H', n ∈ ns → Bag H' b → ExG b H H' → tz D (σ.set i (some (.int (n : Nat)))) H') :
    tSeq (tAsg (tOp (rIxL K) (tLst t) (tCall spDraw [] E (tCons (tVar 1) (tCons (tC (.int m)) tNil)))) (gName i)) tz D σ H :=
  ht H (Ex.refl _) _ fun H1 e1 => ⟨szle (by rw [nats_len]; omega), fun l hl => by
    obtain ⟨ob, hob⟩ := hB.obj
    have lb : l ≠ b := (fresh_ne (e1 _ _ hob) hl).symm
    refine drS (m := m) hs ev_c (hB.ex (e1.trans (Ex.new hl))) (by omega) (by omega) fun d H2 hd hB2 x2 => ?_
    have hd' : d < ns.length := by omega
    exact ⟨l, natsV ns, d, .int (ns[d] : Nat), rfl, rfl, sq_of (x2.1 _ _ lb upd_same), atI_nat (by rw [natsV, List.getElem?_map, List.getElem?_eq_getElem hd']; rfl), k _ H2 (List.getElem_mem hd') hB2 ((ExG.of (e1.trans (Ex.new hl))).trans x2)⟩⟩
theorem q_pick {n : Nat} {i : Nat} (hs : σ[1]? = some (some (.ref b))) (hn : σ[3]? = some (some (.int n))) (hB : Bag H b) (h5 : n ≤ 5) (k : ∀ z H', IsTabN n z → Bag H' b → ExG b H H' → tz D (σ.set i (some (.str (S z)))) H') :
    tSeq (tAsg (tIf (tTest (tOp rEq (tCall spDraw [] E (tCons (tVar 1) (tCons (tC (.int 3)) tNil))) (tC (.int 0)))) (tCall spTab [] E1 (tCons (tVar 1) (tCons (tVar 3) tNil))) (tCall spTab [] E2 (tCons (tVar 1) (tCons (tVar 3) tNil)))) (gName i)) tz D σ H :=
  drS (m := 3) (Q := fun x H1 => rEq x (.int 0) H1 fun y H2 => ∃ c, y = .bl c ∧ if c = true then tCall spTab [] E1 (tCons (tVar 1) (tCons (tVar 3) tNil)) σ H2 (fun v H3 => tz D (σ.set i (some v)) H3) else tCall spTab [] E2 (tCons (tVar 1) (tCons (tVar 3) tNil)) σ H2 (fun v H3 => tz D (σ.set i (some v)) H3)) hs ev_c hB (by decide) (by decide) fun d H1 _ hB1 x1 => ⟨rfl, _, rfl, by
    split
    · exact ⟨.ref b, hs, .int n, hn, b, n, rfl, hB1, h5, fun z H' hz x hB' => k z H' hz hB' (x1.trans x)⟩
    · exact ⟨.ref b, hs, .int n, hn, b, n, rfl, hB1, h5, fun z H' hz x hB' => k z H' hz hB' (x1.trans x)⟩⟩
theorem q_full {n i j : Nat} {z : List Nat} (hs : σ[j]? = some (some (.str (S z)))) (hz : IsTabN n z) (k : ∀ H', Ex H H' → tz D (σ.set i (some (toldV n (ansOf n z)))) H') : tSeq (tAsg (tCall (spFull C) [] E (tCons (tMake C (spInit C) [] E1 (tCons (tVar j) tNil)) tNil)) (gName i)) tz D σ H :=
  (ev_mkQ (C := C) (n := n) (z := z) (ea_cons (ev_var hs) ea_nil) hz) H (Ex.refl _) (fun v H1 => spFull C ([v] ++ []) H1 (fun u H2 => tz D (σ.set i (some u)) H2) E) fun x H1 _ e1 hq => ⟨x, n, z, rfl, hq, hz, fun H2 e2 => k H2 (e1.trans e2)⟩
theorem ev_chainTT {i j k : Int} (ha : Ev ta σ H (.int i)) (hb : Ev tb σ H (.int j)) (hc : Ev tc σ H (.int k)) :
    Ev (tChain (rI0 fun i j => .bl (decide (i < j))) (rI0 fun i j => .bl (decide (i < j))) ta tb tc) σ H (.bl (decide (i < j) && decide (j < k))) := fun H1 e Q q =>
  ha H1 e _ fun H2 e2 => hb H2 (e.trans e2) _ fun H3 e3 => ⟨i, j, rfl, rfl, decide (i < j), rfl, by
    have e13 := (e.trans e2).trans e3
    cases hd : decide (i < j) with
    | true =>
      rw [if_pos rfl]
      rw [hd, Bool.true_and] at q
      exact hc H3 e13 _ fun H4 e4 => ⟨j, k, rfl, rfl, q H4 ((e2.trans e3).trans e4)⟩
    | false =>
      rw [if_neg Bool.false_ne_true]
      rw [hd, Bool.false_and] at q
      exact q H3 (e2.trans e3)⟩
theorem ev_repr {o : Option Int} (ho : ∀ d, o = some d → 0 < d ∧ d ≤ 5) (h : Ev te σ H (optV o)) : Ev (tCB (fun xs H Q => (∃ i, xs = [V.int i] ∧ i.natAbs.log2 < 1920 ∧ Q (.str (toString i)) H) ∨ (xs = [V.non] ∧ Q (.str "None") H)) (tCons te tNil)) σ H (.str (reprO o)) :=
  ev_cb (ea_cons h ea_nil) fun H1 _ Q q => by
    cases o with
    | none => exact .inr ⟨rfl, q H1 (Ex.refl _)⟩
    | some d =>
      obtain ⟨d1, d2⟩ := ho d rfl
      refine .inl ⟨d, rfl, ?_, q H1 (Ex.refl _)⟩
      have h1 : d.natAbs ≤ 5 := by omega
      have h2 := Nat.log2_le_self d.natAbs
      omega
theorem ev_most {n : Nat} {z : List Nat} {wd : Addr} {ta : TA} {i : Nat} (h : EvA ta σ H [.ref wd, .int n]) (hi : σ[i]? = some (some (.int n))) (hw : H wd = some (.dK (kvsOf n z))) (hz : IsTabN n z) (h5 : n ≤ 5) (hs : signed n (ansOf n z) ≠ 0) :
    Ev (tDGet (tCall spNeeds' [] E (tCons (tCall spSettling [] E1 ta) (tCons (tVar i) tNil))) (tOp (fun x y H Q => ∃ (z : Str) (n : Nat), x = .str z ∧ y = .int n ∧ z.length = 1 ∧ n ≤ 1000 ∧ Q (.str (repS z n)) H) (tC (.str (S [45]))) (tVar i))) σ H (.int (n : Nat)) := fun H1 e Q q =>
  h H1 e _ fun H2 e2 => ⟨wd, n, z, rfl, (e.trans e2) _ _ hw, hz, h5, fun p skvs H3 hp e3 hp3 hst => ⟨.int n, hi, ansOf n z, p, n, skvs, rfl, hp3, hst, h5, fun r kvs H4 hr e4 hr4 hnt => by
    obtain ⟨v, hv1, hv2⟩ := hnt _ (pat_last h5)
    have hvn := need_full h5 hv2 hs
    subst hvn
    refine (ev_rep (c := 45) (n := n) ev_c (ev_var hi) (by omega)) H4 (Ex.refl _) _ fun H5 e5 => ⟨r, _, rfl, ?_, q H5 (((e2.trans e3).trans e4).trans e5)⟩
    have g := DGet.k (k := keyT (List.replicate n 45)) (e5 _ _ hr4)
    rw [hv1] at g
    exact g⟩⟩
end
section
variable {P : Program} {w : World} {K : PySem.W.Frag} {mg : Str → Option Value} {base : Heap} {a : Ad}
abbrev s_law : Stmt := topS 47
abbrev N_law : List Str := ["_law_script", "_law_bag_here", "_law_k", "_law_many", "_law_table_here", "_law_worths_here", "_law_due", "_law_told", "_law_signed", "_law_top", "_law_most", "_law_text", "_law_block"]
theorem sc_law : FnScope N_law ["_law_script"] (defScope s_law) := ⟨rfl, rfl, rfl, by decide +kernel, rfl, by decide +kernel, by decide +kernel⟩
def spLaw : Sp := fun vs H Q _ => ∃ (p : Addr) (xs : List Int), vs = [.ref p] ∧ SqL K H p (intsV xs) ∧ xs.length ≤ 63 ∧ ∀ H', Ex H H' → Q (.bl true) H'
theorem fn_law (T : Txt K mg a) {f : Addr} {fd : FuncData} (F : L2.Fun K "law" "law" s_law f fd) (C__law_bag : Cal P w K mg base 1 "_law_bag" (spBag (K := K)) []) (C__law_draw : Cal P w K mg base 1 "_law_draw" spDraw []) (C__law_table : Cal P w K mg base 4 "_law_table" spTab []) (C__law_ring : Cal P w K mg base 3 "_law_ring" spTab [])
    (C__law_worths : Cal P w K mg base 3 "_law_worths" spWorths []) (C__law_reached : Cal P w K mg base 1 "_law_reached" spReached []) (C_full_prime : Cal P w K mg base 8 "full_prime" (spFull a.cQ) []) (C_Question : Mak P w K mg base 4 "Question" a.cQ (spInit a.cQ) [])
    (C__law_products : Cal P w K mg base 4 "_law_products" spProducts []) (C__law_needs : Cal P w K mg base 3 "_law_needs" spNeeds' []) (C__law_settling : Cal P w K mg base 3 "_law_settling" spSettling []) (FA : FB P w K mg base 6 a.gAt (spAtLeast a.cQ)) :
    FnOk P w K mg base L2.CX0 9 f fd ["_law_script"] (spLaw (K := K)) := by
  have F_at_least := FA.r
  refine F.ok sc_law (fun vs H Q E h => ?_) (fun cdv A outer s H vs Q E hr h => ?_)
  · obtain ⟨_, _, rfl, _⟩ := h
    rfl
  · obtain ⟨p, xs, rfl, hp, hxz, k⟩ := h
    have hu := hu_of hr
    refine ⟨_, (pss_cons (ps_set (i := 1) sc_law.nd rfl (Or.inl rfl) (pe_c C__law_bag hr (by decide) rfl (pa_cons (pv 0) pa_nil)))
    (pss_cons (ps_for PassesOwn.never rfl (pi_range1 rfl T.range_ (pa_cons pe_int pa_nil)) (pg_name (i := 2) sc_law.nd rfl (Or.inl rfl)) (pss_cons (ps_set (i := 3) sc_law.nd rfl (Or.inl rfl) (pe_ix (ix_listK (K := K)) (pe_lst (pa_cons pe_int (pa_cons pe_int (pa_cons pe_int (pa_cons pe_int (pa_cons pe_int (pa_cons pe_int (pa_cons pe_int (pa_cons pe_int pa_nil))))))))) (pe_c C__law_draw hr (by decide) rfl (pa_cons (pv 1) (pa_cons pe_int pa_nil))) (fun _ _ => rfl)))
    (pss_cons (ps_set (i := 4) sc_law.nd rfl (Or.inl rfl) (pe_ifExp (pt_cmpR op_eq (pe_c C__law_draw hr (by decide) rfl (pa_cons (pv 1) (pa_cons pe_int pa_nil))) pe_int (nomark _)) (pe_c C__law_table hr (by decide) rfl (pa_cons (pv 1) (pa_cons (pv 3) pa_nil))) (pe_c C__law_ring hr (by decide) rfl (pa_cons (pv 1) (pa_cons (pv 3) pa_nil)))))
    (pss_cons (ps_set (i := 5) sc_law.nd rfl (Or.inr rfl) (pe_c C__law_worths hr (by decide) rfl (pa_cons (pv 4) pa_nil)))
    (pss_cons (ps_set (i := 6) sc_law.nd rfl (Or.inl rfl) pe_non)
    (Evl.pss_cut (ps_if (PW.pt (pw_and (pt_chain op_lt op_lt pe_int (pv 3) pe_int) (pw_and (pt_cmpR op_ne (pe_ix ix_str (pv 4) pe_int (fun _ _ => rfl)) (pe_ix ix_str (pv 4) (pe_un un_neg pe_int) (fun _ _ => rfl)) (nomark _)) (pw_and1 (pt_cmpR op_eq (pe_c C__law_reached hr (by decide) rfl (pa_cons (pv 5) (pa_cons (pv 3) pa_nil))) (pv 3) (nomark _)))))) (pss_one (ps_set (i := 6) sc_law.nd rfl (Or.inl rfl) (pe_ix (ix_listK (K := K)) (pe_lst (pa_cons pe_int (pa_cons pe_int (pa_cons pe_int (pa_cons pe_int pa_nil))))) (pe_op op_sub (pv 3) pe_int) (fun _ _ => rfl)))) pss_nil)
    (pss_cons (ps_set (i := 7) sc_law.nd rfl (Or.inl rfl) (pe_c C_full_prime hr (by decide) rfl (pa_cons (pe_mk C_Question hr (by decide) rfl (pa_cons (pv 4) pa_nil)) pa_nil)))
    (pss_cons (ps_if (pt_cmpR op_ne (pe_callB (call_repr_opt) (by rfl) T.repr_ (by decide +kernel) (pa_cons (pv 7) pa_nil)) (pe_callB (call_repr_opt) (by rfl) T.repr_ (by decide +kernel) (pa_cons (pv 6) pa_nil)) (nomark _)) (pss_one (ps_ret pe_bl)) pss_nil)
    (pss_one (ps_if (pt_cmpR op_notN (pv 6) pe_non (nomark _)) (pss_cons (ps_set (i := 8) sc_law.nd rfl (Or.inl rfl) (pe_callB (cr_sum rfl) (by rfl) T.sum_ (by decide +kernel) (pa_cons (pe_lock (pe_lc (own := [("_law_text", 11)]) (g := (gName 11)) (tt := tYes) rfl sc_law.nd (pi_keys (pv 5)) (blkOk_by (own := [("_law_text", 11)]) (N := N_law) (sc := defScope s_law) (by decide +kernel)) (fun _ _ _ _ _ => (pg_name (i := 11) sc_law.nd rfl (Or.inl rfl))) (fun _ _ _ _ _ => pts_nil) (fun _ _ _ _ _ => (pe_op op_mul (pe_dget (by exact hu) (pv 5) (pv 11) (fun _ _ => rfl)) (pe_ix (ix_listK (K := K)) (pe_lst (pa_cons pe_int (pa_cons (pe_un un_neg pe_int) pa_nil))) (pe_op op_mod (pe_m1 PySem.F.slot_str_count PySem.F.type_str_count mt_count (pv 11) pe_str) pe_int) (fun _ _ => rfl)))))) pa_nil)))
    (pss_cons (ps_set (i := 9) sc_law.nd rfl (Or.inl rfl) (pe_callB (cr_max rfl) (by rfl) T.max_ (by decide +kernel) (pa_cons (pe_lc (own := [("_law_block", 12)]) (g := (gName 12)) (tt := tYes) rfl sc_law.nd (pi_keysT (pe_c C__law_products hr (by decide) rfl (pa_cons (pv 5) (pa_cons (pv 3) pa_nil)))) (blkOk_by (own := [("_law_block", 12)]) (N := N_law) (sc := defScope s_law) (by decide +kernel)) (fun _ _ _ _ _ => (pg_name (i := 12) sc_law.nd rfl (Or.inl rfl))) (fun _ _ _ _ _ => pts_nil) (fun _ _ _ _ _ => (pe_callB (call_len_seqK (K := K)) (by rfl) T.len_ (by decide +kernel) (pa_cons (pv 12) pa_nil)))) pa_nil)))
    (pss_cons (ps_set (i := 10) sc_law.nd rfl (Or.inl rfl) (pe_dget (by exact hu) (pe_c C__law_needs hr (by decide) rfl (pa_cons (pe_c C__law_settling hr (by decide) rfl (pa_cons (pv 5) (pa_cons (pv 3) pa_nil))) (pa_cons (pv 3) pa_nil))) (pe_op op_mul_str pe_str (pv 3)) (fun _ _ => rfl)))
    (pss_one (ps_if (PW.pt (pw_or (pt_cmpR op_eq (pe_op op_mod (pv 8) (pv 6)) pe_int (nomark _)) (pw_or (pt_cmpR op_ne (pv 9) (pv 3) (nomark _)) (pw_or1 (pt_cmpR op_ne (pv 10) (pv 3) (nomark _)))))) (pss_one (ps_ret pe_bl)) pss_nil))))) pss_nil))))))))))
    (pss_one (ps_ret (pe_cmpR op_isN (pe_c C_full_prime hr (by decide) rfl (pa_cons (ClX.pe_cmeth (pe_gc rfl T.g_Question) T.crQ T.cmAtLeast F_at_least (hr.mono (by decide)) L2.pass0 (pa_cons pe_int (pa_cons (pe_c C__law_draw hr (by decide) rfl (pa_cons (pv 1) (pa_cons pe_int pa_nil))) pa_nil))) pa_nil)) pe_non (nomark _)))))), ?_⟩
    refine ⟨.ref p, rfl, p, xs, rfl, hp, hxz, fun b H1 hb e1 hB => ?_⟩
    have exH : ∀ H', ExG b H1 H' → Ex H H' := fun H' x c o hc => x.1 c o (fun q => by rw [q, hb] at hc; cases hc) (e1 _ _ hc)
    show tSeq _ _ _ _ H1
    refine q_forR1 (n := 3) (ea_cons ev_c ea_nil) (by decide) (fun i σ' H' => ∃ x2 x3 x4 x5 x6 x7 x8 x9 x10 x11 x12, σ' = [some (.ref p), some (.ref b), x2, x3, x4, x5, x6, x7, x8, x9, x10, x11, x12] ∧ Bag H' b ∧ ExG b H1 H')
      (fun H2 e2 => ⟨none, none, none, none, none, none, none, none, none, none, none, rfl, hB.ex e2, ExG.of e2⟩) (fun i σ' H' hi zz => ?_) (fun σ' H' zz => ?_)
    · obtain ⟨x2, x3, x4, x5, x6, x7, x8, x9, x10, x11, x12, rfl, hB', xG⟩ := zz
      refine q_many (ns := [0, 1, 2, 3, 4, 4, 5, 5]) rfl (ea_cons ev_c (ea_cons ev_c (ea_cons ev_c (ea_cons ev_c (ea_cons ev_c (ea_cons ev_c (ea_cons ev_c (ea_cons ev_c ea_nil)))))))) hB' (by decide) (by decide) rfl fun n H2 hn hB2 x2' => ?_
      have hn5 : n ≤ 5 := by
        simp only [List.mem_cons, List.not_mem_nil, or_false] at hn
        omega
      refine q_pick (n := n) rfl rfl hB2 hn5 fun z H3 hz hB3 x3' => ?_
      have f2 := hz.2.1
      have h1n : 0 < 2 ^ n := Nat.pow_pos (by decide)
      have h32 : 2 ^ n ≤ 32 := Nat.le_trans (Nat.pow_le_pow_right (by decide) hn5) (by decide)
      obtain ⟨en1, en2, en3⟩ := ends hn5
      obtain ⟨z0, hz0⟩ := ans_get hz en1
      obtain ⟨zl, hzl⟩ := ans_get hz en2
      refine ⟨.str (S z), rfl, n, z, rfl, hz, fun wd H4 hwd e4 hw => ?_⟩
      show tSeq _ _ _ _ H4
      refine q_asg (v := .non) ev_c fun H5 e5 => ?_
      have hw5 := e5 _ _ hw
      have xG5 := ((xG.trans x2').trans x3').trans (ExG.of (e4.trans e5))
      have hB5 := hB3.ex (e4.trans e5)
      refine q_cut (M := fun σ' H' => σ' = [some (.ref p), some (.ref b), some (.int (i : Nat)), some (.int n), some (.str (S z)), some (.ref wd), some (optV (dueO n (ansOf n z))), x7, x8, x9, x10, x11, x12] ∧ Ex H5 H') ?_ fun σ' H6 z6 => ?_
      · have hb : (decide ((1 : Int) < n) && decide ((n : Int) < 6) && (!decide (V.str (S [z[0]]) = V.str (S [z[2 ^ n - 1]])) && decide (V.int ((firsts n (ansOf n z)).length : Nat) = V.int n))) = (dueO n (ansOf n z)).isSome := by
          have c1 : decide (V.str (S [z[0]]) = V.str (S [z[2 ^ n - 1]])) = decide (ansOf n z (zs n) = ansOf n z (os n)) := by
            rw [dec_sign, hz0, hzl, Bool.eq_iff_iff, decide_eq_true_eq, decide_eq_true_eq]
            omega
          have c2 : decide (V.int ((firsts n (ansOf n z)).length : Nat) = V.int n) = decide ((firsts n (ansOf n z)).length = n) := by
            rw [dec_int, Bool.eq_iff_iff, decide_eq_true_eq, beq_iff_eq]
            omega
          rw [c1, c2]
          unfold dueO
          split
          · rename_i hh
            rw [decide_eq_true (by omega), decide_eq_true (by omega), decide_eq_false hh.2.2.1, decide_eq_true hh.2.2.2]
            rfl
          · rename_i hh
            rw [show (none : Option Int).isSome = false from rfl, Bool.eq_false_iff]
            intro q
            simp only [Bool.and_eq_true, decide_eq_true_eq, Bool.not_eq_true', decide_eq_false_iff_not] at q
            exact hh ⟨by omega, by omega, q.2.1, q.2.2⟩
        refine s_when (b := (decide ((1 : Int) < n) && decide ((n : Int) < 6)) && (!decide (V.str (S [z[0]]) = V.str (S [z[2 ^ n - 1]])) && decide (V.int ((firsts n (ansOf n z)).length : Nat) = V.int n)))
          (et_and (et_test (ev_chainTT ev_c (ev_var rfl) ev_c)) fun hh => et_and (et_test (ev_op (ev_ixS (i := 0) (ev_var rfl) ev_c (by omega) (List.getElem?_eq_getElem z0)) (ev_op (ev_var rfl) (ev_un ev_c ru_neg) (rv_ixS (by rw [S_len]; omega) ?_)) (rv_ne rfl))) fun _ =>
            et_test (ev_op (ev_call (vs := [.ref wd, .int n]) (ea_cons (ev_var rfl) (ea_cons (ev_var rfl) ea_nil)) fun H7 e7 Q q E => ⟨wd, n, z, rfl, e7 _ _ hw5, hz, by simp only [Bool.and_eq_true, decide_eq_true_eq] at hh; omega, hn5, q⟩) (ev_var rfl) (rv_eq rfl))) (fun hh H6 e6 => ?_) (fun hh H6 e6 => ?_)
        · show atI z (-1) = _
          exact atI_neg (by omega) (by omega)
        · rw [hb] at hh
          have hd : ∃ d, dueO n (ansOf n z) = some d := Option.isSome_iff_exists.mp hh
          obtain ⟨d, hd⟩ := hd
          obtain ⟨d2, d5, _, _, rfl⟩ := due_some hd
          refine s_asg (v := .int (prm n)) (ev_opL1 (xs := [.int 2, .int 3, .int 2, .int 5]) (y := .int ((n : Int) - 2)) (el_lst (ea_cons ev_c (ea_cons ev_c (ea_cons ev_c (ea_cons ev_c ea_nil)))) (by show 4 ≤ 100000; decide)) (fun H7 e7 => ev_op (ev_var rfl) ev_c rv_I0) fun pp H7 hp7 e7 => ?_) fun H7 e7 => ⟨?_, e6.trans e7⟩
          · have e : (n : Int) - 2 = ((n - 2 : Nat) : Int) := by omega
            rw [e]
            exact rv_ixL (sq_of hp7) (atI_nat (prm_list d2 d5))
          · rw [hd]
            rfl
        · rw [hb] at hh
          refine ⟨?_, e6⟩
          have hd : dueO n (ansOf n z) = none := by
            cases h : dueO n (ansOf n z) with
            | none => rfl
            | some d => rw [h] at hh; cases hh
          rw [hd]
          rfl
      · obtain ⟨rfl, e6⟩ := z6
        refine q_full (n := n) (z := z) rfl hz fun H7 e7 => ?_
        rw [told_due]
        have hpos := fun d (h : dueO n (ansOf n z) = some d) => due_pos h
        refine q_when (b := !decide (V.str (reprO (dueO n (ansOf n z))) = V.str (reprO (dueO n (ansOf n z))))) (et_test (ev_op (ev_repr hpos (ev_var rfl)) (ev_repr hpos (ev_var rfl)) (rv_ne rfl))) (fun hb => by rw [decide_eq_true rfl] at hb; cases hb) fun _ H8 e8 => ?_
        have e58 := e6.trans (e7.trans e8)
        refine s_when (b := !decide (optV (dueO n (ansOf n z)) = .non)) (et_test (ev_op (ev_var rfl) ev_c (rv_val fun H9 _ Q q => ⟨rfl, q⟩))) (fun hb H9 e9 => ?_) (fun _ H9 e9 => ⟨_, _, _, _, _, _, _, _, _, _, _, rfl, hB5.ex (e58.trans e9), xG5.trans (ExG.of (e58.trans e9))⟩)
        cases hd : dueO n (ansOf n z) with
        | none => rw [hd] at hb; cases hb
        | some d =>
          obtain ⟨d2, d5, d3, d4, rfl⟩ := due_some hd
          have hs := main_sum d2 d5 (ans_bit hz zs_ins) (ans_bit hz os_ins) d3 d4
          have hs0 := main_ne hs
          have ht := total_ne hn5 hs0
          have hp5 := prm_pos n
          have hw9 := (e58.trans e9) _ _ hw5
          have xG9 := xG5.trans (ExG.of (e58.trans e9))
          have hB9 := hB5.ex (e58.trans e9)
          refine q_asg (v := .int (signed n (ansOf n z))) (ev_cbL (xs := (ins n).map fun t => V.int (ansOf n z t * sgn (wt t))) (el_keys (n := n) (z := z) rfl hw9 f2 hn5 (fun x => rfl) fun t htm od H10 hfz => ?_) fun pp H10 _ hpp H11 e11 Q q => ⟨pp, (ins n).map fun t => ansOf n z t * sgn (wt t), rfl, sq_of (by rw [e11 _ _ hpp, List.map_map]; rfl), q H11 (Ex.refl _)⟩) fun H10 e10 => ?_
          · refine ev_op (x := .int (ansOf n z t)) (y := .int (sgn (wt t))) (ev_dgetF (k := keyT t) (ev_var rfl) (ev_var rfl) hfz (kvs_val f2 htm)) (ev_opL1 (xs := [.int 1, .int (-1)]) (y := .int ((wt t : Int) % 2)) (el_lst (ea_cons ev_c (ea_cons (ev_un ev_c ru_neg) ea_nil)) (by show 2 ≤ 100000; decide)) (fun H8 e8 => ev_op (ev_is (v := .int (Txt.count (S t) "1")) (fun H9 e9 Q q => ⟨_, rfl, ⟨_, rfl⟩, ⟨S t, "1", rfl, rfl, q H9 (Ex.refl _)⟩⟩) (by rw [en3 t htm])) ev_c (rv_mod (by decide))) fun pp H8 hpp e8 => ?_) (rv_mulR ?_)
            · unfold sgn
              have par : wt t % 2 = 0 ∨ wt t % 2 = 1 := by omega
              rcases par with q' | q'
              · rw [if_pos q', show (wt t : Int) % 2 = ((0 : Nat) : Int) by omega]
                exact rv_ixL (sq_of hpp) (atI_nat rfl)
              · rw [if_neg (by omega), show (wt t : Int) % 2 = ((1 : Nat) : Int) by omega]
                exact rv_ixL (sq_of hpp) (atI_nat rfl)
            · unfold sgn
              split <;> decide
          refine q_asg (v := .int (n : Nat)) (ev_top (n := n) (z := z) (ea_cons (ev_var rfl) (ea_cons (ev_var rfl) ea_nil)) (e10 _ _ hw9) hz (by omega) hn5 ht (fun x => rfl) (by show 12 < 13; decide)) fun H11 e11 => ?_
          refine q_asg (v := .int (n : Nat)) (ev_most (n := n) (z := z) (ea_cons (ev_var rfl) (ea_cons (ev_var rfl) ea_nil)) rfl ((e10.trans e11) _ _ hw9) hz hn5 hs0) fun H12 e12 => ?_
          refine s_when (b := decide (V.int (signed n (ansOf n z) % prm n) = V.int 0) || (!decide (V.int (n : Nat) = V.int (n : Nat)) || !decide (V.int (n : Nat) = V.int (n : Nat)))) (et_or (et_test (ev_op (ev_op (ev_var rfl) (ev_var rfl) (rv_mod hp5.1)) ev_c (rv_eq rfl))) fun _ => et_or (et_test (ev_op (ev_var rfl) (ev_var rfl) (rv_ne rfl))) fun _ => et_test (ev_op (ev_var rfl) (ev_var rfl) (rv_ne rfl))) (fun hb2 H13 e13 => ?_) (fun _ H13 e13 => ⟨_, _, _, _, _, _, _, _, _, _, _, rfl, hB9.ex ((e10.trans e11).trans (e12.trans e13)), xG9.trans (ExG.of ((e10.trans e11).trans (e12.trans e13)))⟩)
          rw [decide_eq_true rfl, decide_eq_false (fun q => hs (V.int.inj q))] at hb2
          cases hb2
    · obtain ⟨x2, x3, x4, x5, x6, x7, x8, x9, x10, x11, x12, rfl, hB', xG⟩ := zz
      refine ⟨rfl, drS (m := 8) rfl ev_c hB' (by decide) (by decide) fun d H2 hd hB2 x2' => ⟨d, rfl, by omega, fun x z H3 hx e3 hz hq => ⟨x, 6, z, rfl, hq, hz, fun H4 e4 => ⟨rfl, ?_⟩⟩⟩⟩
      have e : toldV 6 (ansOf 6 z) = .non := by
        unfold toldV
        rw [if_neg (by omega)]
      rw [e]
      exact k H4 ((exH _ (xG.trans x2')).trans (e3.trans e4))
end
end LX


set_option Elab.async false
set_option linter.all false
set_option maxRecDepth 100000
set_option maxHeartbeats 4000000
/-! All defs together. -/
namespace LX
open PySem PySem.Spec PyProof.Rows L2 TL Evl SX C8
/-- what is known of the top's text behind its run -/
structure All (K : PySem.W.Frag) (mg : Str → Option Value) (a : Ad) : Prop where
  T : Txt K mg a
  orders : DF K mg "orders" s_orders
  keeping : DF K mg "keeping_orders" s_keeping_orders
  full : DF K mg "full_prime" s_full_prime
  isInteger : DF K mg "is_integer" s_is_integer
  hasSigns : DF K mg "has_signs" s_has_signs
  isInput : DF K mg "is_input" s_is_input
  isBlock : DF K mg "is_block" s_is_block
  needCount : DF K mg "need_count" s_need_count
  needInput : DF K mg "need_input" s_need_input
  strings : DF K mg "strings" s_strings
  inputs : DF K mg "inputs" s_inputs
  put : DF K mg "put" s_put
  isTable : DF K mg "is_table" s_is_table
  lbag : DF K mg "_law_bag" s_Lbag
  ldraw : DF K mg "_law_draw" s_Ldraw
  lmixed : DF K mg "_law_mixed" s_Lmixed
  lstrings : DF K mg "_law_strings" s_Lstrings
  linputs : DF K mg "_law_inputs" s_Linputs
  lpatterns : DF K mg "_law_patterns" s_Lpatterns
  lput : DF K mg "_law_put" s_Lput
  lspots : DF K mg "_law_open_spots" s_Lopen_spots
  lrule : DF K mg "_law_rule" s_Lrule
  ltable : DF K mg "_law_table" s_Ltable
  lworths : DF K mg "_law_worths" s_Lworths
  lsettling : DF K mg "_law_settling" s_Lsettling
  lneeds : DF K mg "_law_needs" s_Lneeds
  lblocks : DF K mg "_law_blocks" s_Lblocks
  lproducts : DF K mg "_law_products" s_Lproducts
  lreached : DF K mg "_law_reached" s_Lreached
  lring : DF K mg "_law_ring" s_Lring
  init : MF K a.gInit "__init__" "Question.__init__" s_Qinit
  many : MF K a.gMany "many" "Question.many" s_Qmany
  eq_ : MF K a.gEq "__eq__" "Question.__eq__" s_Qeq
  call : MF K a.gCall "__call__" "Question.__call__" s_Qcall
  reo : MF K a.gReo "reordered" "Question.reordered" s_Qreordered
  at_ : MF K a.gAt "at_least" "Question.at_least" s_Qat_least
theorem All.law {P : Program} {w : World} {K : PySem.W.Frag} {mg : Str → Option Value} {base : Heap} {a : Ad} (A : All K mg a) {f : Addr} {fd : FuncData} (F : L2.Fun K "law" "law" s_law f fd) : FnOk P w K mg base L2.CX0 9 f fd ["_law_script"] (spLaw (K := K)) := by
  have T := A.T
  have c1 := cal_is_integer (P := P) (w := w) (base := base) T A.isInteger
  have c2 := cal_has_signs (P := P) (w := w) (base := base) T A.hasSigns
  have c3 := cal_is_input T A.isInput c2
  have c4 := cal_need_count T A.needCount c1
  have c5 := cal_need_input T A.needInput c3
  have c6 := cal_strings (P := P) (w := w) (base := base) T A.strings
  have c7 := cal_inputs T A.inputs c4 c6
  have c8 := cal_put (P := P) (w := w) (base := base) T A.put
  have c9 := cal_is_table (P := P) (w := w) (base := base) T A.isTable
  have c10 := cal_is_block T A.isBlock c1
  have fI := fb_init T A.init c9 c7
  have fM := fb_many (P := P) (w := w) (base := base) T A.many
  have fE := fb_eq (P := P) (w := w) (base := base) T A.eq_
  have fC := fb_call T A.call c5
  have mQ := mak_Q T fI
  have fR := fb_reo T A.reo c10 c7 c8 mQ
  have fA := fb_at T A.at_ c4 c1 c7 fI
  have mR : Met P w K mg base 6 a.cQ "reordered" (spReo a.cQ) [] := by
    obtain ⟨fd', ps', h, b⟩ := fR
    exact ⟨⟨a.gReo, fd', ps', [], T.clsQ, T.reoQ, h, b, .nil⟩⟩
  have d1 := cal_orders (P := P) (w := w) (base := base) T A.orders
  have d2 := cal_keeping T A.keeping d1 fM fE mR
  have d3 := cal_full T A.full d2 fM fC
  have e1 := cal_bag (P := P) (w := w) (base := base) T A.lbag
  have e2 := cal_draw (P := P) (w := w) (base := base) T A.ldraw
  have e3 := cal_mixed T A.lmixed e2
  have e4 := cal_lstrings (P := P) (w := w) (base := base) T A.lstrings
  have e5 := cal_linputs T A.linputs e4
  have e6 := cal_lpatterns T A.lpatterns e4
  have e7 := cal_lput (P := P) (w := w) (base := base) T A.lput
  have e8 := cal_lspots (P := P) (w := w) (base := base) T A.lspots
  have e9 := cal_rule T A.lrule e2 e3 e5
  have e10 := cal_table T A.ltable e2 e9 e5
  have e11 := cal_ring T A.lring e2 e5
  have e12 := cal_worths T A.lworths e5
  have e13 := cal_settling T A.lsettling e6 e7 e8
  have e14 := cal_needs T A.lneeds e6 e7 e8
  have e15 := cal_blocks T A.lblocks e5
  have e16 := cal_products T A.lproducts e5 e15
  have e17 := cal_reached (P := P) (w := w) (base := base) T A.lreached
  exact fn_law T F e1 e2 e10 e11 e12 e17 d3 mQ e16 e14 e13 fA
end LX


set_option Elab.async false
set_option linter.all false
set_option maxRecDepth 100000
set_option maxHeartbeats 4000000
/-! What the head tells: defs by their places, facts as Bools. -/
namespace LX
open PySem PySem.Spec PyProof.Rows L2 TL Evl SX C8
abbrev Frg := PySem.W.Frag
/-- a def: where it stands, names, text -/
structure At1 where
  ad : Frg → Addr
  nm : Str
  qn : Str
  tx : Stmt
def At1.told (d : At1) : He.FnW := some (d.nm, d.qn, defArgs d.tx, .stmts (defBody d.tx), defScope d.tx, mainGlobals, [], builtinsNs)
def seen (K : Frg) (p : Addr) : He.FnW := match K.lookup p with
  | some o => (match o.data with
    | .func g => some (g.name, g.qualname, g.params, g.body, g.scope, g.globals, g.closure, g.builtins)
    | _ => none)
  | none => none
def At1.good (K : Frg) (d : At1) : Bool := PySem.W.keepIn K (.ref (d.ad K)) && (match K.lookup (d.ad K) with
  | some o => (match o.data with
    | .func g => PySem.W.codeIn K g.code d.qn && decide (g.defaults = .none)
    | _ => false)
  | none => false)
theorem At1.made {K : Frg} {d : At1} (e : seen K (d.ad K) = d.told) (c : d.good K = true) : ∃ fd, L2.Fun K d.nm d.qn d.tx (d.ad K) fd := by
  obtain ⟨nm, qn, tx⟩ := d
  unfold At1.good at c
  obtain ⟨c1, c2⟩ := He.ba c
  unfold seen at e
  rcases q : K.lookup _ with _ | o
  · rw [q] at c2
    cases c2
  · rw [q] at c2 e
    obtain ⟨oc, od, dt, osl⟩ := o
    cases dt with
    | func g =>
      obtain ⟨a1, a2, a3, a4, a5, a6, a7, a8, a9, a10, a11, a12, a13, a14, a15⟩ := g
      have e' : (some (a1, a2, a3, a4, a5, a6, a7, a15) : He.FnW) = _ := e
      unfold At1.told at e'
      simp only [Option.some.injEq, Prod.mk.injEq] at e'
      obtain ⟨b1, b2, b3, b4, b5, b6, b7, b8⟩ := e'
      subst b1 b2 b3 b4 b5 b6 b7 b8
      obtain ⟨c3, c4⟩ := He.ba (show (PySem.W.codeIn K a13 _ && decide (a8 = .none)) = true from c2)
      have c5 := of_decide_eq_true c4
      subst c5
      exact ⟨_, ⟨oc, od, _, _, _, _, _, _, osl, rfl, q, c3⟩, c1⟩
    | _ => cases c2
/-! ### addresses -/
def fstRef : Option (List Value) → Addr
  | some (.ref g :: _) => g
  | _ => 0
def isFst : Option (List Value) → Bool
  | some (.ref _ :: _) => true
  | _ => false
theorem fst_ok {o : Option (List Value)} (h : isFst o = true) : ∃ rest, o = some (.ref (fstRef o) :: rest) := by
  cases o with
  | none => cases h
  | some l =>
    cases l with
    | nil => cases h
    | cons v r =>
      cases v with
      | ref g => exact ⟨r, rfl⟩
      | _ => cases h
def getOf : Option PySem.W.CFound → Addr
  | some (.get _ (.ref p) _ _) => p
  | _ => 0
def isGet (C : Addr) : Option PySem.W.CFound → Bool
  | some (.get g (.ref _) o c) => decide (g = .builtin "classmethod.__get__") && (decide (o = .none) && decide (c = .ref C))
  | _ => false
theorem get_ok {C : Addr} {o : Option PySem.W.CFound} (h : isGet C o = true) : o = some (.get (.builtin "classmethod.__get__") (.ref (getOf o)) .none (.ref C)) := by
  cases o with
  | none => cases h
  | some f =>
    cases f with
    | val v => cases h
    | get g x y z =>
      cases x with
      | ref p =>
        obtain ⟨h1, h2⟩ := He.ba (show (decide (g = .builtin "classmethod.__get__") && (decide (y = .none) && decide (z = .ref C))) = true from h)
        obtain ⟨h3, h4⟩ := He.ba h2
        rw [of_decide_eq_true h1, of_decide_eq_true h3, of_decide_eq_true h4]
        rfl
      | _ => cases h
def aQ (K : Frg) : Addr := He.ga K "Question"
def aMp (K : Frg) : Addr := He.ma K (aQ K) "many"
def aMg (K : Frg) : Addr := fstRef (PySem.W.recIn K (aMp K) "property")
def aAp (K : Frg) : Addr := getOf (PySem.W.findCls K (.ref (aQ K)) (.type "type") "at_least")
def aAg (K : Frg) : Addr := fstRef (PySem.W.recIn K (aAp K) "classmethod")
def adOf (K : Frg) : Ad := ⟨He.ga K "SIZES", He.ga K "PRIMES", aQ K, aMp K, aMg K, aAp K, aAg K, He.ma K (aQ K) "__init__", He.ma K (aQ K) "__eq__", He.ma K (aQ K) "__call__", He.ma K (aQ K) "reordered"⟩
/-! ### the defs -/
def glob (x : Str) (st : Stmt) : At1 := ⟨fun K => He.ga K x, x, x, st⟩
def defs : List At1 := [glob "orders" s_orders, glob "keeping_orders" s_keeping_orders, glob "full_prime" s_full_prime, glob "is_integer" s_is_integer, glob "has_signs" s_has_signs, glob "is_input" s_is_input, glob "is_block" s_is_block,
  glob "need_count" s_need_count, glob "need_input" s_need_input, glob "strings" s_strings, glob "inputs" s_inputs, glob "put" s_put, glob "is_table" s_is_table, glob "_law_bag" s_Lbag, glob "_law_draw" s_Ldraw, glob "_law_mixed" s_Lmixed,
  glob "_law_strings" s_Lstrings, glob "_law_inputs" s_Linputs, glob "_law_patterns" s_Lpatterns, glob "_law_put" s_Lput, glob "_law_open_spots" s_Lopen_spots, glob "_law_rule" s_Lrule, glob "_law_table" s_Ltable, glob "_law_worths" s_Lworths,
  glob "_law_settling" s_Lsettling, glob "_law_needs" s_Lneeds, glob "_law_blocks" s_Lblocks, glob "_law_products" s_Lproducts, glob "_law_reached" s_Lreached, glob "_law_ring" s_Lring, glob "law" s_law,
  ⟨fun K => He.ma K (aQ K) "__init__", "__init__", "Question.__init__", s_Qinit⟩, ⟨aMg, "many", "Question.many", s_Qmany⟩, ⟨fun K => He.ma K (aQ K) "__eq__", "__eq__", "Question.__eq__", s_Qeq⟩,
  ⟨fun K => He.ma K (aQ K) "__call__", "__call__", "Question.__call__", s_Qcall⟩, ⟨fun K => He.ma K (aQ K) "reordered", "reordered", "Question.reordered", s_Qreordered⟩, ⟨aAg, "at_least", "Question.at_least", s_Qat_least⟩]
/-! ### the facts -/
def gl1 : List Str := ["orders", "keeping_orders", "full_prime", "is_integer", "has_signs", "is_input", "is_block", "need_count", "need_input", "strings", "inputs", "put", "is_table", "_law_bag", "_law_draw", "_law_mixed"]
def gl2 : List Str := ["_law_strings", "_law_inputs", "_law_patterns", "_law_put", "_law_open_spots", "_law_rule", "_law_table", "_law_worths", "_law_settling", "_law_needs", "_law_blocks", "_law_products", "_law_reached", "_law_ring", "law", "SIZES", "PRIMES", "Question"]
def gl : List Str := gl1 ++ gl2
def fr : List Str := ["len", "list", "range", "int", "abs", "tuple", "sorted", "dict", "str", "repr", "sum", "max", "min", "isinstance", "all", "zip", "enumerate", "bool"]
def wdIn (K : Frg) (p : Addr) (kvs : List (Int × Int)) : Bool := match K.lookup p with
  | some o => (match o.data with
    | .dict es _ => decide (o.cls = .type "dict") && (decide (o.dict = none) && (o.slots.isEmpty && wdB es.toList kvs))
    | _ => false)
  | none => false
theorem wdIn_ok {K : Frg} {p : Addr} {kvs : List (Int × Int)} (h : wdIn K p kvs = true) : WDict K p kvs := by
  unfold wdIn at h
  rcases q : K.lookup p with _ | o
  · rw [q] at h
    cases h
  · rw [q] at h
    obtain ⟨oc, od, dt, osl⟩ := o
    cases dt with
    | dict es n =>
      obtain ⟨h1, h2⟩ := He.ba (show (decide (oc = .type "dict") && (decide (od = none) && (osl.isEmpty && wdB es.toList kvs))) = true from h)
      obtain ⟨h3, h4⟩ := He.ba h2
      obtain ⟨h5, h6⟩ := He.ba h4
      have x1 := of_decide_eq_true h1
      have x2 := of_decide_eq_true h3
      have x3 := Array.isEmpty_iff.mp h5
      subst x1 x2 x3
      exact ⟨es, n, q, h6⟩
    | _ => cases h
def tupPlain (K : Frg) (p : Addr) : Bool := match K.lookup p with
  | some o => decide (o.cls = .type "tuple") && decide (o.dict = none)
  | none => false
theorem tupPlain_ok {K : Frg} {p : Addr} (h : tupPlain K p = true) : ∃ o, K.lookup p = some o ∧ o.cls = .type "tuple" ∧ o.dict = none := by
  unfold tupPlain at h
  rcases q : K.lookup p with _ | o
  · rw [q] at h
    cases h
  · rw [q] at h
    obtain ⟨h1, h2⟩ := He.ba h
    exact ⟨o, rfl, of_decide_eq_true h1, of_decide_eq_true h2⟩
def more (K : Frg) : List Bool := [tupPlain K (He.ga K "SIZES"), He.tupB K "SIZES" [.int 1, .int 2, .int 4, .int 8, .int 16, .int 32, .int 64], wdIn K (He.ga K "PRIMES") [(2, 2), (3, 3), (4, 2), (5, 5)], !(He.ga K "PRIMES" == sysModules),
  PySem.W.notFirst K (aQ K) (.ref (aQ K)), He.eqO (PySem.W.findIn K (.ref (aQ K)) "__eq__") (some (some (.ref (He.ma K (aQ K) "__eq__")))), PySem.W.isFn K (.ref (He.ma K (aQ K) "__eq__")),
  He.eqO (PySem.W.findIn K (.ref (aQ K)) "__call__") (some (some (.ref (He.ma K (aQ K) "__call__")))), PySem.W.isFn K (.ref (He.ma K (aQ K) "__call__")), PySem.W.fnIn K (He.ma K (aQ K) "__call__"),
  PySem.W.readsIn K (aQ K) (.type "type"), He.eqO (PySem.W.specialIn K (.ref (aQ K)) "__getattribute__") (some (some (.builtin "type.__getattribute__"))), isGet (aQ K) (PySem.W.findCls K (.ref (aQ K)) (.type "type") "at_least"),
  isFst (PySem.W.recIn K (aAp K) "classmethod"), PySem.W.fnIn K (aAg K), He.eqO (PySem.W.findIn K (.ref (aQ K)) "many") (some (some (.ref (aMp K)))), He.eqO (PySem.W.specialIn K (.ref (aMp K)) "__get__") (some (some (.builtin "property.__get__"))),
  decide (PySem.W.takesIn K (.ref (aMp K)) = some true), isFst (PySem.W.recIn K (aMp K) "property"), He.eqO (PySem.W.findIn K (.ref (aQ K)) "__class__") (some (some (.builtin "object.__class__"))),
  He.eqO (PySem.W.specialIn K (.builtin "object.__class__") "__get__") (some (some (.builtin "getset_descriptor.__get__"))), decide (PySem.W.takesIn K (.builtin "object.__class__") = some true), decide (PySem.W.mroIn K (aQ K) (.type "object") = some true),
  decide (PySem.W.kitOne K (.ref (aQ K)) (.ref (aQ K)) = some true)]
def fas : List He.Fa := [.int "MOST" 6, .str "BITS" (S [48, 49]), .cls "Question", .mkr "Question", .meth "Question" "reordered", .noat "Question" "kept_table", .noat "Question" "kept_many", .noat "Question" "answer_of", .noat "Question" "yes"]
def boolOf (K : Frg) : Bool := gl.all (fun x => (He.Fa.glo x).ok K) && (fr.all (fun x => (He.Fa.free x).ok K) && (fas.all (fun x => x.ok K) && ((more K).all id && defs.all (fun d => d.good K))))
abbrev Told : Type := Bool × List He.FnW
def told (K : Frg) : Told := (boolOf K, defs.map fun d => seen K (d.ad K))
def want : Told := (true, defs.map At1.told)
def refsAt (g : Addr → Option Obj) (p : Addr) : List Addr := match g p with
  | some o => He.refsD o
  | none => []
def codeAt (g : Addr → Option Obj) (p : Addr) : List Addr := match g p with
  | some o => (match o.data with
    | .func u => He.refV u.code
    | _ => [])
  | none => []
def top0 (g : Addr → Option Obj) : Frg := He.frG g [mainGlobals]
def clsL (g : Addr → Option Obj) : List Addr := He.ga (top0 g) "Question" :: refsAt g (He.ga (top0 g) "Question")
def metN : List Str := ["__init__", "many", "__eq__", "__call__", "reordered", "at_least"]
def metL (g : Addr → Option Obj) : List Addr := metN.map fun m => He.ma (He.frG g (clsL g)) (He.ga (top0 g) "Question") m
def funL (g : Addr → Option Obj) : List Addr := metL g ++ (metL g).flatMap (refsAt g) ++ gl.map (He.ga (top0 g))
/-- the objects that are looked at -/
def needA (g : Addr → Option Obj) : List Addr := [mainGlobals, cStatics] ++ clsL g ++ funL g ++ (funL g).flatMap (codeAt g)
def toldG (g : Addr → Option Obj) : Told := told (He.frG g (needA g))
def hookL : PySem.W.Hook where
  α := Told
  obs := fun s => toldG s.heap.get?
  val := fun _ => want
  says := fun _ h => ∃ K : Frg, K.In h ∧ told K = want
  of := fun _ _ e => ⟨_, He.frG_in, e⟩
  keeps := fun _ _ _ ⟨K, hK, c⟩ k => ⟨K, PySem.W.Frag.In.keeps hK k, c⟩
theorem toldG_eq {g : Addr → Option Obj} {s : Shared} (h : ∀ a, g a = s.heap.get? a) : toldG g = hookL.obs s := by
  rw [show g = s.heap.get? from funext h]
  rfl
section
variable {K : Frg}
theorem want_def (c : told K = want) (i : Nat) {d : At1} (h : defs[i]? = some d := by rfl) : ∃ fd, L2.Fun K d.nm d.qn d.tx (d.ad K) fd := by
  have c1 : boolOf K = true := congrArg (fun z : Told => z.1) c
  have c2 : (defs.map fun d => seen K (d.ad K)) = defs.map At1.told := congrArg (fun z : Told => z.2) c
  unfold boolOf at c1
  have c3 := (He.ba (He.ba (He.ba (He.ba c1).2).2).2).2
  refine At1.made ?_ (List.all_eq_true.mp c3 d (List.mem_of_getElem? h))
  have e := congrArg (fun l => l[i]?) c2
  simp only [List.getElem?_map, h, Option.map_some] at e
  exact Option.some.inj e
theorem want_glo (c : told K = want) {x : Str} (h : x ∈ gl) : (He.Fa.glo x).ok K = true := by
  have c1 : boolOf K = true := congrArg (fun z : Told => z.1) c
  exact List.all_eq_true.mp (He.ba c1).1 x h
theorem want_free (c : told K = want) {x : Str} (h : x ∈ fr) : (He.Fa.free x).ok K = true := by
  have c1 : boolOf K = true := congrArg (fun z : Told => z.1) c
  exact List.all_eq_true.mp (He.ba (He.ba c1).2).1 x h
theorem want_fa (c : told K = want) (i : Nat) {x : He.Fa} (h : fas[i]? = some x := by rfl) : x.ok K = true := by
  have c1 : boolOf K = true := congrArg (fun z : Told => z.1) c
  exact List.all_eq_true.mp (He.ba (He.ba (He.ba c1).2).2).1 x (List.mem_of_getElem? h)
theorem want_more (c : told K = want) (i : Nat) {b : Bool} (h : (more K)[i]? = some b := by rfl) : b = true := by
  have c1 : boolOf K = true := congrArg (fun z : Told => z.1) c
  exact List.all_eq_true.mp (He.ba (He.ba (He.ba (He.ba c1).2).2).2).1 b (List.mem_of_getElem? h)
end
theorem all_of {K : Frg} {h : Heap} {mg : Str → Option Value} (X : K.In h) (G : h.Ns mainGlobals mg) (c : told K = want) : All K mg (adOf K) := by
  have fre : ∀ x, x ∈ fr → mg x = none := fun x hx => He.free_ok X G (want_free c hx)
  have glo : ∀ x, x ∈ gl → mg x = some (.ref (He.ga K x)) := fun x hx => He.glo_ok X G (want_glo c hx)
  have cls := He.cls_ok (want_fa c 2)
  have df : ∀ (i : Nat) (x : Str) (st : Stmt), defs[i]? = some (glob x st) → x ∈ gl → DF K mg x st := fun i x st hd hx => by
    obtain ⟨fd, F⟩ := want_def c i hd
    exact ⟨He.ga K x, fd, F, glo x hx⟩
  have mf : ∀ (i : Nat) (p : Frg → Addr) (x q : Str) (st : Stmt), defs[i]? = some ⟨p, x, q, st⟩ → MF K (p K) x q st := fun i p x q st hd => want_def c i hd
  have T : Txt K mg (adOf K) := {
    len_ := fre _ (by decide +kernel), list_ := fre _ (by decide +kernel), range_ := fre _ (by decide +kernel), int_ := fre _ (by decide +kernel), abs_ := fre _ (by decide +kernel), tuple_ := fre _ (by decide +kernel)
    sorted_ := fre _ (by decide +kernel), dict_ := fre _ (by decide +kernel), str_ := fre _ (by decide +kernel), repr_ := fre _ (by decide +kernel), sum_ := fre _ (by decide +kernel), max_ := fre _ (by decide +kernel), min_ := fre _ (by decide +kernel)
    isinstance_ := fre _ (by decide +kernel), all_ := fre _ (by decide +kernel), zip_ := fre _ (by decide +kernel), enumerate_ := fre _ (by decide +kernel), bool_ := fre _ (by decide +kernel)
    g_MOST := (He.int_ok X G (want_fa c 0)).elim fun t e => ⟨_, e, t, rfl⟩
    g_BITS := (He.str_ok X G (want_fa c 1)).elim fun t e => ⟨_, e, t, rfl⟩
    g_SIZES := ⟨_, glo "SIZES" (by decide +kernel), rfl⟩
    g_PRIMES := ⟨_, glo "PRIMES" (by decide +kernel), rfl⟩
    g_Question := ⟨_, glo "Question" (by decide +kernel), rfl⟩
    sz := fun H => He.tupB_ok (want_more c 1) H
    szo := tupPlain_ok (want_more c 0)
    pr := wdIn_ok (want_more c 2)
    prs := by
      have h := want_more c 3
      rw [Bool.not_eq_true'] at h
      exact h
    clsQ := cls
    propMany := ⟨He.eqO_ok (want_more c 15), He.eqO_ok (want_more c 16), of_decide_eq_true (want_more c 17), fst_ok (want_more c 18)⟩
    nfQ := want_more c 4
    eqQ := He.eqO_ok (want_more c 5)
    eqF := want_more c 6
    callQ := ⟨He.eqO_ok (want_more c 7), want_more c 8, want_more c 9⟩
    crQ := ⟨want_more c 10, He.eqO_ok (want_more c 11)⟩
    cmAtLeast := ⟨get_ok (want_more c 12), fst_ok (want_more c 13), want_more c 14⟩
    mkQ := He.mkr_ok (want_fa c 3)
    isQ := ⟨cls, He.eqO_ok (want_more c 19), He.eqO_ok (want_more c 20), of_decide_eq_true (want_more c 21), of_decide_eq_true (want_more c 22), of_decide_eq_true (want_more c 23)⟩
    reoQ := He.meth_ok (want_fa c 4)
    naT := He.noat_ok (want_fa c 5)
    naM := He.noat_ok (want_fa c 6)
    naA := He.noat_ok (want_fa c 7)
    naY := He.noat_ok (want_fa c 8) }
  exact {
    T := T, orders := df 0 _ _ rfl (by decide +kernel), keeping := df 1 _ _ rfl (by decide +kernel), full := df 2 _ _ rfl (by decide +kernel), isInteger := df 3 _ _ rfl (by decide +kernel), hasSigns := df 4 _ _ rfl (by decide +kernel)
    isInput := df 5 _ _ rfl (by decide +kernel), isBlock := df 6 _ _ rfl (by decide +kernel), needCount := df 7 _ _ rfl (by decide +kernel), needInput := df 8 _ _ rfl (by decide +kernel), strings := df 9 _ _ rfl (by decide +kernel)
    inputs := df 10 _ _ rfl (by decide +kernel), put := df 11 _ _ rfl (by decide +kernel), isTable := df 12 _ _ rfl (by decide +kernel), lbag := df 13 _ _ rfl (by decide +kernel), ldraw := df 14 _ _ rfl (by decide +kernel)
    lmixed := df 15 _ _ rfl (by decide +kernel), lstrings := df 16 _ _ rfl (by decide +kernel), linputs := df 17 _ _ rfl (by decide +kernel), lpatterns := df 18 _ _ rfl (by decide +kernel), lput := df 19 _ _ rfl (by decide +kernel)
    lspots := df 20 _ _ rfl (by decide +kernel), lrule := df 21 _ _ rfl (by decide +kernel), ltable := df 22 _ _ rfl (by decide +kernel), lworths := df 23 _ _ rfl (by decide +kernel), lsettling := df 24 _ _ rfl (by decide +kernel)
    lneeds := df 25 _ _ rfl (by decide +kernel), lblocks := df 26 _ _ rfl (by decide +kernel), lproducts := df 27 _ _ rfl (by decide +kernel), lreached := df 28 _ _ rfl (by decide +kernel), lring := df 29 _ _ rfl (by decide +kernel)
    init := mf 31 (fun K => He.ma K (aQ K) "__init__") _ _ _ rfl, many := mf 32 aMg _ _ _ rfl, eq_ := mf 33 (fun K => He.ma K (aQ K) "__eq__") _ _ _ rfl, call := mf 34 (fun K => He.ma K (aQ K) "__call__") _ _ _ rfl
    reo := mf 35 (fun K => He.ma K (aQ K) "reordered") _ _ _ rfl, at_ := mf 36 aAg _ _ _ rfl }
end LX


set_option Elab.async false
set_option linter.all false
set_option maxRecDepth 100000
set_option maxHeartbeats 0
/-! The head's run. -/
namespace LX
open PySem PySem.W PySem.Calls PyProof.Rows
abbrev rwL : PySem.W.OpenLaw := PySem.Challenge.rw_leastlooks_k74_whole_full_primes
abbrev rowL : OpenRow := OpenLaw.row rwL
abbrev viewL : Program := view rowL.prog [47]
def names1 : List PySem.Str := ["_wall", "PRIMES", "orders", "keeping_orders", "full_prime", "LooksError", "BadInput", "BadTable", "BadCount", "BadOrder", "UnlikeSizes", "MOST", "BITS", "is_integer", "has_signs", "is_input", "is_block", "need_count", "need_input", "strings", "inputs", "put"]
def names2 : List PySem.Str := ["SIZES", "is_table", "Question", "_law_bag", "_law_draw", "_law_mixed", "_law_strings", "_law_inputs", "_law_patterns", "_law_put", "_law_open_spots", "_law_rule", "_law_table", "_law_worths", "_law_settling", "_law_needs", "_law_blocks", "_law_products", "_law_reached", "_law_ring"]
def names : List PySem.Str := names1 ++ names2
def obL (s : SharedT) : Told := toldG (HandSHeadRun.getT s)
theorem obL_eq (s : SharedT) : obL s = hookL.obs s.abs := toldG_eq (HandSHeadRun.getT_eq s)
theorem runF (w : World) : HandSHeadRun.RunEq rowL viewL hookL obL 6000 names (w.withFollow "special-get-raises" false) := by
  intro os
  kernel_rfl
theorem runT (w : World) : HandSHeadRun.RunEq rowL viewL hookL obL 6000 names (w.withFollow "special-get-raises" true) := by
  intro os
  kernel_rfl
theorem runL (w : World) : HandSHeadRun.RunEq rowL viewL hookL obL 6000 names w := byRow2 "special-get-raises" (P := fun w => HandSHeadRun.RunEq rowL viewL hookL obL 6000 names w) runF runT w
end LX


set_option Elab.async false
set_option linter.all false
set_option maxRecDepth 100000
set_option maxHeartbeats 0
namespace LX
open PySem PySem.Spec PyProof.Rows L2
theorem law_binds {K : PySem.W.Frag} {f : Addr} {fd : FuncData} (F : L2.Fun K "law" "law" s_law f fd) (s : Shared) (u : Value) : BindsTo s fd ⟨[u], []⟩ [("_law_script", u)] := by
  obtain ⟨oc, od, kV, doc, pm, an, cdv, ct, osl, rfl, lk, hcd⟩ := F.ex
  exact BindsTo.of_eq rfl
end LX
open PySem PySem.W PySem.Calls PyProof.Rows
theorem PySem.Challenge.cw_leastlooks_k74_whole_full_primes_holds : PySem.Challenge.rw_leastlooks_k74_whole_full_primes.Holds := by
  w_on; o_law
  refine HandSHeadRun.head_any (r := LX.rowL) (q := LX.viewL) (H := LX.hookL) (ob := LX.obL) (M := 6000) (loose := LX.names) (d := HandSHeadRun.topDef LX.rowL.prog 47) (kwd := []) LX.obL_eq
    (by kernel_rfl) (fun s => by kernel_rfl) LX.runL (by kernel_rfl) (by kernel_rfl) (by kernel_rfl) (by rfl) (by first | assumption | decide +kernel) (by decide +kernel) ⟨rfl, rfl, rfl, rfl, rfl, by decide +kernel⟩ ?hw ?hc
  case hw => w_witness2
  case hc =>
    refine L2.walk_ofE (l := LX.rwL) (n := 63) (k := 9) (x := "_law_script") (CX := L2.CX0) rfl (by decide) (by kernel_rfl) ⟨rfl, by decide, by decide⟩ ?F (fun _ _ _ _ z => z)
    intro w mg fa h Y G hm0
    obtain ⟨K, KX, c⟩ := Y
    have hm : mg ("law" : PySem.Str) = some (.ref fa) := by
      rw [← show (HandSHeadRun.topDef LX.rowL.prog 47).name = ("law" : PySem.Str) by kernel_rfl]
      exact hm0
    obtain ⟨fd, F⟩ := LX.want_def c 30 (d := LX.glob "law" LX.s_law) rfl
    have e := hm.symm.trans (He.glo_ok KX G (LX.want_glo c (x := "law") (by decide +kernel)))
    cases e
    exact ⟨K, fd, LX.spLaw (K := K), KX, LX.law_binds F, fun H p ns hl _ hS => ⟨p, ns, rfl, hS, hl, fun _ _ => rfl⟩, fun base _ _ => LX.All.law (LX.all_of KX G c) F⟩

