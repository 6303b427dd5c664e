import PyProof.Rows.All
import Wide.All
import OpenK.AllK
import Wide.FinOn
import HandS.ForMost
import HandS.Evl
import HandS.IsInst
import PySem.Challenge.RW_fairbourse_k60_whole_compressed_day
set_option Elab.async false
set_option linter.all false
set_option maxRecDepth 100000
set_option maxHeartbeats 4000000
/-! The mathematics of the law: vectors and tables by functions of indices, in plain Lean. -/
namespace Fb
/-! ### sums of the first n values -/
def sm (f : Nat → Int) : Nat → Int
  | 0 => 0
  | n + 1 => sm f n + f n
theorem sm_congr {f g : Nat → Int} : ∀ {n : Nat}, (∀ i, i < n → f i = g i) → sm f n = sm g n
  | 0, _ => rfl
  | n + 1, h => by
    show sm f n + f n = sm g n + g n
    rw [sm_congr fun i hi => h i (Nat.lt_succ_of_lt hi), h n (Nat.lt_succ_self n)]
theorem sm_zero {f : Nat → Int} : ∀ {n : Nat}, (∀ i, i < n → f i = 0) → sm f n = 0
  | 0, _ => rfl
  | n + 1, h => by
    show sm f n + f n = 0
    rw [sm_zero fun i hi => h i (Nat.lt_succ_of_lt hi), h n (Nat.lt_succ_self n)]
    rfl
theorem sm_add (f g : Nat → Int) : ∀ n : Nat, sm (fun i => f i + g i) n = sm f n + sm g n
  | 0 => rfl
  | n + 1 => by
    show sm (fun i => f i + g i) n + (f n + g n) = (sm f n + f n) + (sm g n + g n)
    rw [sm_add f g n]
    omega
theorem sm_sub (f g : Nat → Int) : ∀ n : Nat, sm (fun i => f i - g i) n = sm f n - sm g n
  | 0 => rfl
  | n + 1 => by
    show sm (fun i => f i - g i) n + (f n - g n) = (sm f n + f n) - (sm g n + g n)
    rw [sm_sub f g n]
    omega
theorem sm_swap (f : Nat → Nat → Int) (m : Nat) : ∀ n : Nat, sm (fun i => sm (f i) m) n = sm (fun j => sm (fun i => f i j) n) m
  | 0 => (sm_zero fun _ _ => rfl).symm
  | n + 1 => by
    show sm (fun i => sm (f i) m) n + sm (f n) m = sm (fun j => sm (fun i => f i j) n + f n j) m
    rw [sm_add, sm_swap f m n]
theorem sm_nn {f : Nat → Int} : ∀ {n : Nat}, (∀ i, i < n → 0 ≤ f i) → 0 ≤ sm f n
  | 0, _ => Int.le_refl 0
  | n + 1, h => by
    show 0 ≤ sm f n + f n
    have h1 := sm_nn fun i hi => h i (Nat.lt_succ_of_lt hi)
    have h2 := h n (Nat.lt_succ_self n)
    omega
theorem sm_le {f : Nat → Int} {B : Int} : ∀ {n : Nat}, (∀ i, i < n → f i ≤ B) → sm f n ≤ n * B
  | 0, _ => by
    show (0 : Int) ≤ ((0 : Nat) : Int) * B
    simp
  | n + 1, h => by
    show sm f n + f n ≤ ((n + 1 : Nat) : Int) * B
    have h1 := sm_le fun i hi => h i (Nat.lt_succ_of_lt hi)
    have h2 := h n (Nat.lt_succ_self n)
    have e : ((n + 1 : Nat) : Int) * B = n * B + B := by
      rw [Int.natCast_succ, Int.add_mul, Int.one_mul]
    omega
theorem sm_one {f : Nat → Int} : ∀ {n i : Nat}, (∀ i, i < n → 0 ≤ f i) → i < n → f i ≤ sm f n
  | 0, _, _, hi => absurd hi (Nat.not_lt_zero _)
  | n + 1, i, h, hi => by
    show f i ≤ sm f n + f n
    have h1 := sm_nn fun i hi => h i (Nat.lt_succ_of_lt hi)
    have h2 := h n (Nat.lt_succ_self n)
    by_cases e : i = n
    · subst e
      omega
    · have := sm_one (i := i) (fun i hi => h i (Nat.lt_succ_of_lt hi)) (by omega)
      omega
theorem sm_all0 {f : Nat → Int} {n : Nat} (h : ∀ i, i < n → 0 ≤ f i) (h0 : sm f n = 0) {i : Nat} (hi : i < n) : f i = 0 := by
  have h1 := sm_one h hi
  have h2 := h i hi
  omega
/-- one value changed -/
theorem sm_upd {f : Nat → Int} {j : Nat} {x : Int} : ∀ {n : Nat}, j < n → sm (fun i => if i = j then x else f i) n = sm f n - f j + x
  | 0, h => absurd h (Nat.not_lt_zero _)
  | n + 1, h => by
    show sm (fun i => if i = j then x else f i) n + (if n = j then x else f n) = sm f n + f n - f j + x
    by_cases e : n = j
    · subst e
      rw [if_pos rfl, sm_congr (g := f) fun i hi => if_neg (Nat.ne_of_lt hi)]
      omega
    · rw [if_neg e, sm_upd (n := n) (by omega)]
      omega
/-- the one place that holds something -/
theorem sm_at {x : Int} {j n : Nat} (h : j < n) : sm (fun i => if i = j then x else 0) n = x := by
  have e := sm_upd (f := fun _ => 0) (x := x) h
  rw [e, sm_zero fun _ _ => rfl]
  omega
/-! ### lists by index -/
def lr {α : Type} (n : Nat) (g : Nat → α) : List α := (List.range n).map g
section
variable {α β : Type} {n : Nat} {g h : Nat → α}
theorem lr_len : (lr n g).length = n := by
  unfold lr
  rw [List.length_map, List.length_range]
theorem lr_get {i : Nat} (hi : i < n) : (lr n g)[i]? = some (g i) := by
  unfold lr
  rw [List.getElem?_map, List.getElem?_range hi]
  rfl
theorem lr_inv {i : Nat} {x : α} (e : (lr n g)[i]? = some x) : i < n ∧ x = g i := by
  have hi : i < n := by
    have := (List.getElem?_eq_some_iff.mp e).1
    rw [lr_len] at this
    exact this
  rw [lr_get hi] at e
  exact ⟨hi, (Option.some.inj e).symm⟩
theorem lr_succ : lr (n + 1) g = lr n g ++ [g n] := by
  unfold lr
  rw [List.range_succ, List.map_append]
  rfl
theorem lr_congr (e : ∀ i, i < n → g i = h i) : lr n g = lr n h := by
  unfold lr
  exact List.map_congr_left fun i hi => e i (List.mem_range.mp hi)
theorem lr_map (f : α → β) : (lr n g).map f = lr n fun i => f (g i) := by
  unfold lr
  rw [List.map_map]
  rfl
theorem lr_set {j : Nat} {x : α} : (lr n g).set j x = lr n fun i => if i = j then x else g i := by
  refine List.ext_getElem? fun i => ?_
  rw [List.getElem?_set]
  by_cases hi : i < n
  · rw [lr_get hi, lr_get hi, lr_len]
    by_cases e : j = i
    · subst e
      rw [if_pos rfl, if_pos hi, if_pos rfl]
    · rw [if_neg e, if_neg (Ne.symm e)]
  · have l1 : ∀ f : Nat → α, (lr n f)[i]? = none := fun f => List.getElem?_eq_none (by rw [lr_len]; omega)
    rw [l1, l1, lr_len]
    by_cases e : j = i
    · subst e
      rw [if_pos rfl, if_neg hi]
    · rw [if_neg e]
theorem lr_zero : lr 0 g = [] := rfl
end
theorem lr_sum {f : Nat → Int} : ∀ {n : Nat}, (lr n f).sum = sm f n
  | 0 => rfl
  | n + 1 => by
    rw [lr_succ, List.sum_append, lr_sum, List.sum_cons, List.sum_nil]
    show sm f n + (f n + 0) = sm f n + f n
    omega
/-! ### tables of debts -/
def row (f : Nat → Nat → Int) (n i : Nat) : Int := sm (f i) n
def col (f : Nat → Nat → Int) (n j : Nat) : Int := sm (fun i => f i j) n
def net (f : Nat → Nat → Int) (n j : Nat) : Int := col f n j - row f n j
/-- n houses, debts from 0 to B -/
structure Good (B : Int) (n : Nat) (f : Nat → Nat → Int) : Prop where
  pos : 1 ≤ n
  most : n ≤ 13
  nn : ∀ i j, i < n → j < n → 0 ≤ f i j
  le : ∀ i j, i < n → j < n → f i j ≤ B
  dg : ∀ i, i < n → f i i = 0
section
variable {B C : Int} {n : Nat} {f : Nat → Nat → Int}
theorem Good.mono (G : Good B n f) (h : B ≤ C) : Good C n f := ⟨G.pos, G.most, G.nn, fun i j hi hj => Int.le_trans (G.le i j hi hj) h, G.dg⟩
theorem Good.row0 (G : Good B n f) {i : Nat} (hi : i < n) : 0 ≤ row f n i := sm_nn fun j hj => G.nn i j hi hj
theorem Good.col0 (G : Good B n f) {j : Nat} (hj : j < n) : 0 ≤ col f n j := sm_nn fun i hi => G.nn i j hi hj
theorem Good.B0 (G : Good B n f) : 0 ≤ B := Int.le_trans (G.nn 0 0 G.pos G.pos) (G.le 0 0 G.pos G.pos)
theorem nB_le {B : Int} {n : Nat} (h0 : 0 ≤ B) (hn : n ≤ 13) : (n : Int) * B ≤ 13 * B := Int.mul_le_mul_of_nonneg_right (by omega) h0
theorem Good.rowB (G : Good B n f) {i : Nat} (hi : i < n) : row f n i ≤ 13 * B := Int.le_trans (sm_le fun j hj => G.le i j hi hj) (nB_le G.B0 G.most)
theorem Good.colB (G : Good B n f) {j : Nat} (hj : j < n) : col f n j ≤ 13 * B := Int.le_trans (sm_le fun i hi => G.le i j hi hj) (nB_le G.B0 G.most)
theorem net_sum (f : Nat → Nat → Int) (n : Nat) : sm (net f n) n = 0 := by
  show sm (fun j => col f n j - row f n j) n = 0
  rw [sm_sub]
  have e : sm (col f n) n = sm (row f n) n := (sm_swap f n n).symm
  rw [e]
  omega
end
/-! ### payments -/
abbrev Pay := Nat × Nat × Int
def paid (i : Nat) : List Pay → Int
  | [] => 0
  | q :: r => (if q.1 = i then q.2.2 else 0) + paid i r
def recd (j : Nat) : List Pay → Int
  | [] => 0
  | q :: r => (if q.2.1 = j then q.2.2 else 0) + recd j r
/-- what the payments from i to j sum to -/
def owes (ps : List Pay) (i j : Nat) : Int := match ps with
  | [] => 0
  | q :: r => (if q.1 = i ∧ q.2.1 = j then q.2.2 else 0) + owes r i j
theorem paid_snoc {i : Nat} {q : Pay} : ∀ {ps : List Pay}, paid i (ps ++ [q]) = paid i ps + (if q.1 = i then q.2.2 else 0)
  | [] => by
    show (if q.1 = i then q.2.2 else 0) + 0 = 0 + (if q.1 = i then q.2.2 else 0)
    omega
  | a :: r => by
    show (if a.1 = i then a.2.2 else 0) + paid i (r ++ [q]) = (if a.1 = i then a.2.2 else 0) + paid i r + _
    rw [paid_snoc (ps := r)]
    omega
theorem recd_snoc {i : Nat} {q : Pay} : ∀ {ps : List Pay}, recd i (ps ++ [q]) = recd i ps + (if q.2.1 = i then q.2.2 else 0)
  | [] => by
    show (if q.2.1 = i then q.2.2 else 0) + 0 = 0 + (if q.2.1 = i then q.2.2 else 0)
    omega
  | a :: r => by
    show (if a.2.1 = i then a.2.2 else 0) + recd i (r ++ [q]) = (if a.2.1 = i then a.2.2 else 0) + recd i r + _
    rw [recd_snoc (ps := r)]
    omega
theorem owes_snoc {i j : Nat} {q : Pay} : ∀ {ps : List Pay}, owes (ps ++ [q]) i j = owes ps i j + (if q.1 = i ∧ q.2.1 = j then q.2.2 else 0)
  | [] => by
    show (if q.1 = i ∧ q.2.1 = j then q.2.2 else 0) + 0 = 0 + (if q.1 = i ∧ q.2.1 = j then q.2.2 else 0)
    omega
  | a :: r => by
    show (if a.1 = i ∧ a.2.1 = j then a.2.2 else 0) + owes (r ++ [q]) i j = (if a.1 = i ∧ a.2.1 = j then a.2.2 else 0) + owes r i j + _
    rw [owes_snoc (ps := r)]
    omega
/-- payments among n houses, from those with a net below 0 to those above -/
structure Fits (n : Nat) (v : Nat → Int) (q : Pay) : Prop where
  a : q.1 < n
  b : q.2.1 < n
  nn : 0 ≤ q.2.2
  va : v q.1 < 0
  vb : 0 < v q.2.1
theorem owes_nn {n : Nat} {v : Nat → Int} {i j : Nat} : ∀ {ps : List Pay}, (∀ q ∈ ps, Fits n v q) → 0 ≤ owes ps i j
  | [], _ => Int.le_refl 0
  | q :: r, h => by
    show 0 ≤ (if q.1 = i ∧ q.2.1 = j then q.2.2 else 0) + owes r i j
    have h1 := owes_nn (i := i) (j := j) fun q hq => h q (List.mem_cons_of_mem _ hq)
    have h2 := (h q List.mem_cons_self).nn
    split <;> omega
theorem owes_dg {n : Nat} {v : Nat → Int} {i : Nat} : ∀ {ps : List Pay}, (∀ q ∈ ps, Fits n v q) → owes ps i i = 0
  | [], _ => rfl
  | q :: r, h => by
    show (if q.1 = i ∧ q.2.1 = i then q.2.2 else 0) + owes r i i = 0
    rw [owes_dg fun q hq => h q (List.mem_cons_of_mem _ hq), if_neg]
    · rfl
    · rintro ⟨e1, e2⟩
      have F := h q List.mem_cons_self
      have h1 := F.va
      have h2 := F.vb
      rw [e1] at h1
      rw [e2] at h2
      omega
theorem row_owes {n : Nat} {v : Nat → Int} {i : Nat} : ∀ {ps : List Pay}, (∀ q ∈ ps, Fits n v q) → row (owes ps) n i = paid i ps
  | [], _ => sm_zero fun _ _ => rfl
  | q :: r, h => by
    show sm (fun j => (if q.1 = i ∧ q.2.1 = j then q.2.2 else 0) + owes r i j) n = (if q.1 = i then q.2.2 else 0) + paid i r
    rw [sm_add, show sm (fun j => owes r i j) n = paid i r from row_owes fun q hq => h q (List.mem_cons_of_mem _ hq)]
    congr 1
    by_cases e : q.1 = i
    · rw [if_pos e]
      refine (sm_congr fun j _ => ?_).trans (sm_at (x := q.2.2) (h q List.mem_cons_self).b)
      by_cases e2 : q.2.1 = j
      · rw [if_pos ⟨e, e2⟩, if_pos e2.symm]
      · rw [if_neg (fun z => e2 z.2), if_neg (Ne.symm e2)]
    · rw [if_neg e]
      exact sm_zero fun j _ => if_neg fun z => e z.1
theorem col_owes {n : Nat} {v : Nat → Int} {j : Nat} : ∀ {ps : List Pay}, (∀ q ∈ ps, Fits n v q) → col (owes ps) n j = recd j ps
  | [], _ => sm_zero fun _ _ => rfl
  | q :: r, h => by
    show sm (fun i => (if q.1 = i ∧ q.2.1 = j then q.2.2 else 0) + owes r i j) n = (if q.2.1 = j then q.2.2 else 0) + recd j r
    rw [sm_add, show sm (fun i => owes r i j) n = recd j r from col_owes fun q hq => h q (List.mem_cons_of_mem _ hq)]
    congr 1
    by_cases e : q.2.1 = j
    · rw [if_pos e]
      refine (sm_congr fun i _ => ?_).trans (sm_at (x := q.2.2) (h q List.mem_cons_self).a)
      by_cases e2 : q.1 = i
      · rw [if_pos ⟨e2, e⟩, if_pos e2.symm]
      · rw [if_neg (fun z => e2 z.1), if_neg (Ne.symm e2)]
    · rw [if_neg e]
      exact sm_zero fun i _ => if_neg fun z => e z.2
theorem paid_out {n : Nat} {v : Nat → Int} {i : Nat} (hv : ¬ v i < 0) : ∀ {ps : List Pay}, (∀ q ∈ ps, Fits n v q) → paid i ps = 0
  | [], _ => rfl
  | q :: r, h => by
    show (if q.1 = i then q.2.2 else 0) + paid i r = 0
    rw [paid_out hv fun q hq => h q (List.mem_cons_of_mem _ hq), if_neg]
    · rfl
    · intro e
      have := (h q List.mem_cons_self).va
      rw [e] at this
      exact hv this
theorem recd_out {n : Nat} {v : Nat → Int} {i : Nat} (hv : ¬ 0 < v i) : ∀ {ps : List Pay}, (∀ q ∈ ps, Fits n v q) → recd i ps = 0
  | [], _ => rfl
  | q :: r, h => by
    show (if q.2.1 = i then q.2.2 else 0) + recd i r = 0
    rw [recd_out hv fun q hq => h q (List.mem_cons_of_mem _ hq), if_neg]
    · rfl
    · intro e
      have := (h q List.mem_cons_self).vb
      rw [e] at this
      exact hv this
/-! ### compress: the loop's word -/
/-- behind some turns: what is open, the payments so far, the payer, the receiver -/
structure Mid (n : Nat) (v o : Nat → Int) (ps : List Pay) (p r : Nat) : Prop where
  fit : ∀ q ∈ ps, Fits n v q
  op : ∀ i, i < n → o i = v i + paid i ps - recd i ps
  sum : sm o n = 0
  lo : ∀ i, i < n → v i < 0 → v i ≤ o i ∧ o i ≤ 0
  hi : ∀ i, i < n → 0 ≤ v i → 0 ≤ o i ∧ o i ≤ v i
  pd : ∀ i, i < n → i < p → 0 ≤ o i
  rd : ∀ i, i < n → i < r → o i ≤ 0
  pn : p ≤ n
  rn : r ≤ n
/-- what falls -/
def mu (n : Nat) (o : Nat → Int) (p r : Nat) : Nat := 2 * (n - p) - (if 0 ≤ o p then 1 else 0) + (2 * (n - r) - (if o r ≤ 0 then 1 else 0))
theorem mid_start {n : Nat} {v : Nat → Int} (h : sm v n = 0) : Mid n v v [] 0 0 where
  fit := fun q hq => absurd hq (by simp)
  op := fun i _ => by
    show v i = v i + 0 - 0
    omega
  sum := h
  lo := fun i _ h => ⟨Int.le_refl _, Int.le_of_lt h⟩
  hi := fun i _ h => ⟨h, Int.le_refl _⟩
  pd := fun i _ h => absurd h (Nat.not_lt_zero _)
  rd := fun i _ h => absurd h (Nat.not_lt_zero _)
  pn := Nat.zero_le _
  rn := Nat.zero_le _
section
variable {n : Nat} {v o : Nat → Int} {ps : List Pay} {p r : Nat}
theorem Mid.payer (M : Mid n v o ps p r) (hp : p < n) (h : 0 ≤ o p) : Mid n v o ps (p + 1) r ∧ mu n o (p + 1) r < mu n o p r := by
  refine ⟨⟨M.fit, M.op, M.sum, M.lo, M.hi, fun i hi hip => ?_, M.rd, hp, M.rn⟩, ?_⟩
  · by_cases e : i = p
    · rw [e]
      exact h
    · exact M.pd i hi (by omega)
  · unfold mu
    rw [if_pos h]
    split <;> split <;> omega
theorem Mid.receiver (M : Mid n v o ps p r) (hr : r < n) (h : o r ≤ 0) : Mid n v o ps p (r + 1) ∧ mu n o p (r + 1) < mu n o p r := by
  refine ⟨⟨M.fit, M.op, M.sum, M.lo, M.hi, M.pd, fun i hi hip => ?_, M.pn, hr⟩, ?_⟩
  · by_cases e : i = r
    · rw [e]
      exact h
    · exact M.rd i hi (by omega)
  · unfold mu
    rw [if_pos h]
    split <;> split <;> omega
/-- what is open behind a payment of c from p to r -/
def after (o : Nat → Int) (p r : Nat) (c : Int) : Nat → Int := fun i => if i = r then o r - c else if i = p then o p + c else o i
theorem Mid.pay (M : Mid n v o ps p r) (hp : p < n) (hr : r < n) (h1 : o p < 0) (h2 : 0 < o r) {c : Int} (hc : c = if o r < -o p then o r else -o p) :
    Mid n v (after o p r c) (ps ++ [(p, r, c)]) p r ∧ mu n (after o p r c) p r < mu n o p r := by
  have npr : p ≠ r := fun e => by
    rw [e] at h1
    omega
  have c1 : 0 < c := by rw [hc]; split <;> omega
  have c2 : c ≤ o r := by rw [hc]; split <;> omega
  have c3 : c ≤ -o p := by rw [hc]; split <;> omega
  have c4 : c = o r ∨ c = -o p := by rw [hc]; split <;> simp
  have ar : after o p r c r = o r - c := if_pos rfl
  have ap : after o p r c p = o p + c := by
    unfold after
    rw [if_neg npr, if_pos rfl]
  have ax : ∀ i, i ≠ p → i ≠ r → after o p r c i = o i := fun i e1 e2 => by
    unfold after
    rw [if_neg e2, if_neg e1]
  have vp : v p < 0 := by
    by_cases z : v p < 0
    · exact z
    · have := M.hi p hp (by omega)
      omega
  have vr : 0 < v r := by
    by_cases z : v r < 0
    · have := M.lo r hr z
      omega
    · by_cases z2 : v r = 0
      · have := M.hi r hr (by omega)
        omega
      · omega
  refine ⟨⟨fun q hq => ?_, fun i hi => ?_, ?_, fun i hi hv => ?_, fun i hi hv => ?_, fun i hi hip => ?_, fun i hi hir => ?_, M.pn, M.rn⟩, ?_⟩
  · rcases List.mem_append.mp hq with z | z
    · exact M.fit q z
    · have e : q = (p, r, c) := by simpa using z
      subst e
      exact ⟨hp, hr, Int.le_of_lt c1, vp, vr⟩
  · rw [paid_snoc, recd_snoc]
    have := M.op i hi
    show after o p r c i = v i + (paid i ps + if p = i then c else 0) - (recd i ps + if r = i then c else 0)
    by_cases e1 : i = r
    · subst e1
      rw [ar, if_neg npr, if_pos rfl]
      omega
    · by_cases e2 : i = p
      · subst e2
        rw [ap, if_pos rfl, if_neg (Ne.symm e1)]
        omega
      · rw [ax i e2 e1, if_neg (Ne.symm e1), if_neg (Ne.symm e2)]
        omega
  · have e : sm (after o p r c) n = sm (fun i => if i = p then o p + c else o i) n - (if r = p then o p + c else o r) + (o r - c) := sm_upd (f := fun i => if i = p then o p + c else o i) hr
    rw [e, if_neg (Ne.symm npr), sm_upd hp, M.sum]
    omega
  · have := M.lo i hi hv
    by_cases e1 : i = r
    · subst e1
      omega
    · by_cases e2 : i = p
      · subst e2
        rw [ap]
        omega
      · rw [ax i e2 e1]
        exact this
  · have := M.hi i hi hv
    by_cases e1 : i = r
    · subst e1
      rw [ar]
      omega
    · by_cases e2 : i = p
      · subst e2
        omega
      · rw [ax i e2 e1]
        exact this
  · have := M.pd i hi hip
    by_cases e1 : i = r
    · subst e1
      rw [ar]
      omega
    · rw [ax i (by omega) e1]
      exact this
  · have := M.rd i hi hir
    by_cases e1 : i = p
    · subst e1
      rw [ap]
      omega
    · rw [ax i e1 (by omega)]
      exact this
  · unfold mu
    rw [ap, ar, if_neg (show ¬ 0 ≤ o p by omega), if_neg (show ¬ o r ≤ 0 by omega)]
    split <;> split <;> omega
/-- at the loop's end nothing is open -/
theorem Mid.done (M : Mid n v o ps p r) (h : ¬ (p < n ∧ r < n)) {i : Nat} (hi : i < n) : v i + paid i ps - recd i ps = 0 := by
  rw [← M.op i hi]
  by_cases hp : p < n
  · have hr : r = n := by
      have := M.rn
      omega
    have z : sm (fun i => 0 - o i) n = 0 := by
      rw [sm_sub, M.sum, sm_zero fun _ _ => rfl]
      rfl
    have y : (fun i => 0 - o i) i = 0 := sm_all0 (f := fun i => 0 - o i) (fun i hi => by
      have := M.rd i hi (by omega)
      show 0 ≤ 0 - o i
      omega) z hi
    have y' : 0 - o i = 0 := y
    omega
  · exact sm_all0 (fun i hi => M.pd i hi (by
      have := M.pn
      omega)) M.sum hi
end
/-- payments that give each house its net -/
structure PayOk (n : Nat) (v : Nat → Int) (ps : List Pay) : Prop where
  fit : ∀ q ∈ ps, Fits n v q
  few : ps.length ≤ 60
  net : ∀ i, i < n → v i + paid i ps - recd i ps = 0
section
variable {n : Nat} {f : Nat → Nat → Int} {ps : List Pay} {B : Int}
theorem PayOk.net_eq (P : PayOk n (Fb.net f n) ps) {i : Nat} (hi : i < n) : Fb.net (owes ps) n i = Fb.net f n i := by
  have h := P.net i hi
  have e1 := row_owes (i := i) P.fit
  have e2 := col_owes (j := i) P.fit
  show col (owes ps) n i - row (owes ps) n i = _
  rw [e1, e2]
  omega
theorem PayOk.good (P : PayOk n (Fb.net f n) ps) (G : Good B n f) : Good (13 * B) n (owes ps) := by
  refine ⟨G.pos, G.most, fun i j _ _ => owes_nn P.fit, fun i j hi hj => ?_, fun i _ => owes_dg P.fit⟩
  have h1 : owes ps i j ≤ row (owes ps) n i := sm_one (f := owes ps i) (fun j _ => owes_nn P.fit) hj
  rw [row_owes P.fit] at h1
  have h2 := P.net i hi
  have h3 := G.rowB hi
  have h4 := G.col0 hi
  have h5 := G.B0
  by_cases hv : Fb.net f n i < 0
  · rw [recd_out (i := i) (by omega) P.fit] at h2
    have e : Fb.net f n i = col f n i - row f n i := rfl
    omega
  · rw [paid_out hv P.fit] at h1
    omega
end
/-! ### the law's draws -/
def ab (i : Int) : Int := if i < 0 then -i else i
theorem ab_nn (i : Int) : 0 ≤ ab i := by
  unfold ab
  split <;> omega
/-- the rest of a great cell behind k draws -/
def stB (c size : Int) : Nat → Int
  | 0 => ab c
  | k + 1 => stB c size k / size
/-- of a small one -/
def stS (c : Int) : Nat → Int
  | 0 => ab c
  | k + 1 => (stS c k * 48271 + (k : Int) * 69621 + 11) % 2147483647
def draw (c size : Int) (k : Nat) : Int := if 1000000000000000000 ≤ ab c then stB c size k % size else (stS c (k + 1) * 16807 + (k : Int)) % 2147483629 % size
theorem draw_nn {c size : Int} (h : 0 < size) (k : Nat) : 0 ≤ draw c size k := by
  unfold draw
  split <;> exact Int.emod_nonneg _ (by omega)
theorem draw_lt {c size : Int} (h : 0 < size) (k : Nat) : draw c size k < size := by
  unfold draw
  split <;> exact Int.emod_lt_of_pos _ h
theorem stS_small {c : Int} (h : ab c < 1000000000000000000) : ∀ k, 0 ≤ stS c k ∧ stS c k < 1000000000000000000
  | 0 => ⟨ab_nn c, h⟩
  | k + 1 => by
    have h1 : 0 ≤ stS c (k + 1) := Int.emod_nonneg _ (by decide)
    have h2 : stS c (k + 1) < 2147483647 := Int.emod_lt_of_pos _ (by decide)
    omega
/-- every draw kept where it is 1 modulo 3 -/
def thin (d : Int) : Int := d * (if d % 3 = 1 then 1 else 0)
theorem thin_nn {d : Int} (h : 0 ≤ d) : 0 ≤ thin d := by
  unfold thin
  split <;> omega
theorem thin_le {d B : Int} (h : 0 ≤ d) (hB : d ≤ B) : thin d ≤ B := by
  unfold thin
  split <;> omega
/-- a row of the market -/
def cellR (c shape : Int) (payer : Nat) (n : Nat) (size : Int) (j : Nat) : Int :=
  if j = payer then 0
  else if ab shape % 5 = 3 then (if j = (payer + 1) % n then size else draw c (size + 1) j % 2)
  else if ab shape % 5 = 4 then thin (draw c (size + 1) j)
  else draw c (size + 1) j
theorem cellR_bd {c shape : Int} {payer n : Nat} {size : Int} {j : Nat} (h : 1 ≤ size) : 0 ≤ cellR c shape payer n size j ∧ cellR c shape payer n size j ≤ size := by
  have h1 := draw_nn (c := c) (show 0 < size + 1 by omega) j
  have h2 := draw_lt (c := c) (show 0 < size + 1 by omega) j
  unfold cellR
  split
  · omega
  · split
    · split
      · omega
      · omega
    · split
      · exact ⟨thin_nn h1, thin_le h1 (by omega)⟩
      · omega
theorem cellR_dg {c shape : Int} {payer n : Nat} {size : Int} : cellR c shape payer n size payer = 0 := if_pos rfl
/-- the script's cell -/
def cell (ns : List Int) (k : Nat) : Int := ns.getD k 0
def count (shape : Int) : Int := if ab shape % 5 = 1 then 2 + ab shape / 5 % 2 else if ab shape % 5 = 2 then 12 else 1 + ab shape / 5 % 6
def size (shape : Int) : Int := if ab shape % 5 = 1 then 9999 else if ab shape % 5 = 2 then 30 else if ab shape / 30 % 3 = 0 then 400 else if ab shape / 30 % 3 = 1 then 3 else 40
theorem count_bd (shape : Int) : 1 ≤ count shape ∧ count shape ≤ 12 := by
  have := ab_nn shape
  unfold count
  split
  · omega
  · split <;> omega
theorem size_bd (shape : Int) : 3 ≤ size shape ∧ size shape ≤ 9999 := by
  unfold size
  split
  · omega
  · split
    · omega
    · split
      · omega
      · split <;> omega
def market (ns : List Int) (i j : Nat) : Int := cellR (cell ns (3 + i)) (cell ns 0) i (count (cell ns 0)).toNat (size (cell ns 0)) j
theorem market_good (ns : List Int) : Good 9999 (count (cell ns 0)).toNat (market ns) := by
  have h1 := count_bd (cell ns 0)
  have h2 := size_bd (cell ns 0)
  refine ⟨by omega, by omega, fun i j _ _ => (cellR_bd (by omega)).1, fun i j _ _ => ?_, fun i _ => cellR_dg⟩
  have := (cellR_bd (c := cell ns (3 + i)) (shape := cell ns 0) (payer := i) (n := (count (cell ns 0)).toNat) (size := size (cell ns 0)) (j := j) (by omega)).2
  show cellR (cell ns (3 + i)) (cell ns 0) i (count (cell ns 0)).toNat (size (cell ns 0)) j ≤ 9999
  omega
def csize (c : Int) : Int := if ab c % 5 = 0 then 1 else if ab c % 5 = 1 then 4 else if ab c % 5 = 2 then 60 else if ab c % 5 = 3 then 600 else 1000000001
theorem csize_bd (c : Int) : 1 ≤ csize c ∧ csize c ≤ 1000000001 := by
  unfold csize
  split
  · omega
  · split
    · omega
    · split
      · omega
      · split <;> omega
def cash (ns : List Int) (j : Nat) : Int := if ab (cell ns 1) / 5 % 3 = 1 then thin (draw (cell ns 2) (csize (cell ns 1)) j) else draw (cell ns 2) (csize (cell ns 1)) j
theorem cash_bd (ns : List Int) (j : Nat) : 0 ≤ cash ns j ∧ cash ns j ≤ 1000000000 := by
  have hs := csize_bd (cell ns 1)
  have h1 := draw_nn (c := cell ns 2) (show 0 < csize (cell ns 1) by omega) j
  have h2 := draw_lt (c := cell ns 2) (show 0 < csize (cell ns 1) by omega) j
  unfold cash
  split
  · exact ⟨thin_nn h1, thin_le h1 (by omega)⟩
  · omega
end Fb
namespace Fb
open PySem PySem.Spec PyProof.Rows L2 Evl
/-! ### the text -/
def top (i : Nat) : Stmt := PySem.Challenge.pw_fairbourse_k60_whole_compressed_day.main.body.getD i (.Pass ⟨0, 0, 0, 0⟩)
abbrev sChk : Stmt := top 8
abbrev sNet : Stmt := top 9
abbrev sCmp : Stmt := top 10
abbrev sCkw : Stmt := top 15
abbrev sSpl : Stmt := top 17
abbrev sDay : Stmt := top 20
abbrev sRcp : Stmt := top 21
abbrev sRcv : Stmt := top 22
abbrev sRnd : Stmt := top 23
abbrev sClr : Stmt := top 24
abbrev sCsh : Stmt := top 25
abbrev sFal : Stmt := top 26
abbrev sCel : Stmt := top 28
abbrev sDrw : Stmt := top 29
abbrev sIsi : Stmt := top 30
abbrev sIns : Stmt := top 31
abbrev sSiz : Stmt := top 32
abbrev sRow : Stmt := top 33
abbrev sMkt : Stmt := top 34
abbrev sLch : Stmt := top 35
abbrev sDbt : Stmt := top 36
abbrev sLaw : Stmt := top 37
/-! ### heaps -/
/-- a list of the values g 0 .. g (n - 1) -/
abbrev ivec (n : Nat) (g : Nat → Int) : List V := lr n fun i => V.int (g i)
abbrev rvec (n : Nat) (g : Nat → Addr) : List V := lr n fun i => V.ref (g i)
theorem ivec_map {n : Nat} {g : Nat → Int} : ivec n g = (lr n g).map V.int := (lr_map V.int).symm
/-- a table: its rows at rs -/
structure TabR (H : Hp) (a : Addr) (n : Nat) (rs : Nat → Addr) (f : Nat → Nat → Int) : Prop where
  ls : H a = some (.lst (rvec n rs))
  rw : ∀ i, i < n → H (rs i) = some (.lst (ivec n (f i)))
def Tab (H : Hp) (a : Addr) (n : Nat) (f : Nat → Nat → Int) : Prop := ∃ rs, TabR H a n rs f
theorem TabR.mono {H H' : Hp} {a : Addr} {n : Nat} {rs : Nat → Addr} {f : Nat → Nat → Int} (e : Ex H H') (t : TabR H a n rs f) : TabR H' a n rs f := ⟨e _ _ t.ls, fun i hi => e _ _ (t.rw i hi)⟩
theorem Tab.mono {H H' : Hp} {a : Addr} {n : Nat} {f : Nat → Nat → Int} (e : Ex H H') (t : Tab H a n f) : Tab H' a n f := t.elim fun rs t => ⟨rs, t.mono e⟩
/-- a table whose rows are new and apart -/
structure NewTab (H H2 : Hp) (p : Addr) (n : Nat) (rs : Nat → Addr) (f : Nat → Nat → Int) : Prop extends TabR H2 p n rs f where
  fr : ∀ i, i < n → H (rs i) = none
  ne : ∀ i, i < n → rs i ≠ p
  inj : ∀ i j, i < n → j < n → rs i = rs j → i = j
/-- a new table -/
def EvM (te : TE) (σ : L2.St) (H : Hp) (n : Nat) (f : Nat → Nat → Int) : Prop := ∀ H1, Ex H H1 → ∀ Q : VK, (∀ p rs H2, H1 p = none → Ex H1 H2 → NewTab H1 H2 p n rs f → Q (.ref p) H2) → te σ H1 Q
theorem small_sz {n : Nat} (h : n ≤ 100000) : n < sizeLine := Nat.lt_of_le_of_lt h (by decide)
section
variable {K : PySem.W.Frag} {σ : L2.St} {H H' : Hp} {ta tb tc te tl : TE} {t u : TT} {x y z v : V} {n m : Nat}
theorem EvM.mono {f : Nat → Nat → Int} (e : Ex H H') (h : EvM te σ H n f) : EvM te σ H' n f := fun H1 a Q q => h H1 (e.trans a) Q q
theorem et_chain {r r' : R2} {a b : Bool} (ha : Ev ta σ H x) (hb : Ev tb σ H y) (hr : RV r x y H (.bl a)) (hc : Ev tc σ H z) (hr' : RV r' y z H (.bl b)) : EvT (tTest (tChain r r' ta tb tc)) σ H (a && b) := fun H1 e Q q =>
  ha H1 e _ fun H2 e2 => hb H2 (e.trans e2) _ fun H3 e3 => hr H3 ((e.trans e2).trans e3) _ fun H4 e4 => ⟨a, rfl, by
    cases a with
    | true =>
      show tc σ H4 _
      exact hc H4 (((e.trans e2).trans e3).trans e4) _ fun H5 e5 => hr' H5 ((((e.trans e2).trans e3).trans e4).trans e5) _ fun H6 e6 => ⟨b, rfl, q H6 ((((e2.trans e3).trans e4).trans e5).trans e6)⟩
    | false =>
      exact ⟨false, rfl, q H4 ((e2.trans e3).trans e4)⟩⟩
theorem ev_lenR {g : Nat → V} {p : Addr} (ha : Ev ta σ H (.ref p)) (h : SqL K H p (lr n g)) : Ev (tCB (rLenS K) (tCons ta tNil)) σ H (.int (n : Int)) :=
  ev_is (ev_len ha h) (by rw [lr_len])
theorem ev_ixR {g : Nat → V} {p : Addr} {i : Nat} (ha : Ev ta σ H (.ref p)) (hb : Ev tb σ H (.int (i : Int))) (h : SqL K H p (lr n g)) (hi : i < n) : Ev (tOp (rIxL K) ta tb) σ H (g i) :=
  ev_op ha hb (rv_ixL h (atI_nat (lr_get hi)))
/-- o[i][j] of a table -/
theorem ev_ix2 {f : Nat → Nat → Int} {rs : Nat → Addr} {p : Addr} {i j : Nat} {td : TE} (ha : Ev ta σ H (.ref p)) (hb : Ev tb σ H (.int (i : Int))) (hd : Ev td σ H (.int (j : Int))) (h : TabR H p n rs f) (hi : i < n) (hj : j < n) :
    Ev (tOp (rIxL K) (tOp (rIxL K) ta tb) td) σ H (.int (f i j)) := ev_ixR (g := fun j => V.int (f i j)) (ev_ixR (g := fun i => V.ref (rs i)) ha hb (sq_of h.ls) hi) hd (sq_of (h.rw i hi)) hj
theorem ev_sumR {g : Nat → Int} {p : Addr} (ha : Ev ta σ H (.ref p)) (h : SqL K H p (ivec n g)) : Ev (tCB (rSum K) (tCons ta tNil)) σ H (.int (sm g n)) :=
  ev_cb (ea_cons ha ea_nil) fun H1 e Q q => ⟨p, lr n g, rfl, by rw [← ivec_map]; exact ex_l e h, by rw [lr_sum]; exact q H1 (Ex.refl H1)⟩
theorem ev_sumN {g : Nat → Int} (ha : EvL ta σ H (ivec n g)) : Ev (tCB (rSum K) (tCons ta tNil)) σ H (.int (sm g n)) := fun H1 e Q q =>
  ha H1 e _ fun p H2 _ e2 hp => ⟨p, lr n g, rfl, by rw [← ivec_map]; exact sq_of hp, by rw [lr_sum]; exact q H2 e2⟩
def rMin2 : List V → Hp → VK → Prop := fun xs H Q => ∃ i j, xs = [.int i, .int j] ∧ Q (.int (if j < i then j else i)) H
theorem ev_min2 {i j : Int} (ha : Ev ta σ H (.int i)) (hb : Ev tb σ H (.int j)) : Ev (tCB rMin2 (tCons ta (tCons tb tNil))) σ H (.int (if j < i then j else i)) :=
  ev_cb (ea_cons ha (ea_cons hb ea_nil)) fun Hm _ _ q => ⟨i, j, rfl, q Hm (Ex.refl Hm)⟩
def rAbs : List V → Hp → VK → Prop := fun xs H Q => ∃ i, xs = [.int i] ∧ Q (.int (if i < 0 then -i else i)) H
theorem ev_abs {i : Int} (ha : Ev ta σ H (.int i)) : Ev (tCB rAbs (tCons ta tNil)) σ H (.int (ab i)) := fun H1 e Q q => ha H1 e _ fun H2 e2 => ⟨i, rfl, q H2 e2⟩
def rInt : List V → Hp → VK → Prop := fun xs H Q => (∃ i, xs = [.int i] ∧ Q (.int i) H) ∨ ∃ k, xs = [.bl k] ∧ Q (.int (if k then 1 else 0)) H
theorem ev_int {i : Int} (ha : Ev ta σ H (.int i)) : Ev (tCB rInt (tCons ta tNil)) σ H (.int i) := fun H1 e Q q => ha H1 e _ fun H2 e2 => .inl ⟨i, rfl, q H2 e2⟩
theorem ev_intB {b : Bool} (ha : Ev ta σ H (.bl b)) : Ev (tCB rInt (tCons ta tNil)) σ H (.int (if b then 1 else 0)) := fun H1 e Q q => ha H1 e _ fun H2 e2 => .inr ⟨b, rfl, q H2 e2⟩
theorem ev_isi {w u : Value} {c : V} {b : Bool} (ha : Ev ta σ H x) (hc : Ev tc σ H c) (k : ClsV c u) (ty : ∀ H1, Ex H H1 → TyX K H1 x w) (hb : PySem.W.kitOne K w u = some b) : Ev (tCB (rIsi K) (tCons ta (tCons tc tNil))) σ H (.bl b) := fun H1 e Q q =>
  ha H1 e _ fun H2 e2 => hc H2 (e.trans e2) _ fun H3 e3 => ⟨x, c, w, u, b, rfl, k, ty H3 ((e.trans e2).trans e3), hb, q H3 (e2.trans e3)⟩
/-! ### comprehensions -/
theorem given_all {v : Nat → V} : given n (fun _ => true) v = lr n v := by
  unfold given lr
  rw [List.filter_eq_self.mpr fun _ _ => rfl]
theorem et_yes : EvT tYes σ H true := fun H1 _ Q q => q H1 (Ex.refl H1)
/-- [e for x in range(n)] -/
theorem el_vecR {tr : TA} {j : Nat} {vs : List Nat} (v : Nat → V) (h : EvA tr σ H [.int (n : Int)]) (hn : n ≤ 40000) (hw : ∀ x, wipe ((wipe σ vs).set j (some x)) vs = wipe σ vs)
    (he : ∀ (i : Nat) H1, Ex H H1 → i < n → Ev te ((wipe σ vs).set j (some (.int (i : Int)))) H1 (v i)) : EvL (tLc (iRng1 tr) (gName j) tYes te vs) σ H (lr n v) := by
  have q := el_lcR1 (t := tYes) (te := te) (j := j) (vs := vs) (n := (n : Int)) (fun _ => true) v h ⟨by omega, by omega⟩ hw (fun _ _ _ _ => et_yes) fun i H1 e hi _ => he i H1 e (by omega)
  rw [Int.toNat_natCast, given_all] at q
  exact q
/-- [e for x in xs] -/
theorem el_vecL {a : Addr} {g : Nat → V} {j : Nat} {vs : List Nat} (v : Nat → V) (h : Ev tl σ H (.ref a)) (hx : SqL K H a (lr n g)) (hn : n ≤ 40000) (hw : ∀ x, wipe ((wipe σ vs).set j (some x)) vs = wipe σ vs)
    (he : ∀ (i : Nat) H1, Ex H H1 → i < n → Ev te ((wipe σ vs).set j (some (g i))) H1 (v i)) : EvL (tLc (iList K tl) (gName j) tYes te vs) σ H (lr n v) := by
  have q := el_lcL (t := tYes) (te := te) (j := j) (vs := vs) (fun _ => true) v h hx (by rw [lr_len]; exact hn) hw (fun _ _ _ _ _ => et_yes) fun i x H1 e hi _ => by
    obtain ⟨hi', rfl⟩ := lr_inv hi
    exact he i H1 e hi'
  rw [lr_len, given_all] at q
  exact q
/-- the word of a comprehension that makes rows -/
def Cm (H : Hp) (m : Nat) (f : Nat → Nat → Int) (D : Addr) (i : Nat) (H' : Hp) : Prop := H D = none ∧ Ex H H' ∧ ∃ rs : Nat → Addr, H' D = some (.lst (rvec i rs)) ∧ (∀ k, k < i → H' (rs k) = some (.lst (ivec m (f k)))) ∧ (∀ k, k < i → H (rs k) = none) ∧ (∀ k, k < i → rs k ≠ D) ∧
  ∀ k l, k < i → l < i → rs k = rs l → k = l
theorem cm_turn {f : Nat → Nat → Int} {D : Addr} {i : Nat} {σ2 : L2.St} (p : Cm H m f D i H') (hi : i < 50000) (he : EvL te σ2 H (ivec m (f i))) :
    tYes σ2 H' fun b H3 => if b = true then te σ2 H3 fun y H4 => ∃ acc, H4 D = some (.lst acc) ∧ acc.length < sizeLine ∧ Cm H m f D (i + 1) (upd H4 D (.lst (acc ++ [y]))) else Cm H m f D (i + 1) H3 := by
  obtain ⟨p1, p2, rs, p3, p4, p5, p6, p7⟩ := p
  show te σ2 H' fun y H4 => ∃ acc, H4 D = some (.lst acc) ∧ acc.length < sizeLine ∧ Cm H m f D (i + 1) (upd H4 D (.lst (acc ++ [y])))
  refine he H' p2 _ fun r H4 hr e4 h4 => ⟨rvec i rs, e4 D _ p3, small_sz (by rw [lr_len]; omega), p1, Ex.mut (p2.trans e4) p1, fun k => if k = i then r else rs k, ?_, fun k hk => ?_, fun k hk => ?_, fun k hk => ?_, fun k l hk hl e => ?_⟩
  all_goals try dsimp only
  · rw [upd_same]
    have e : lr i (fun k => V.ref (if k = i then r else rs k)) = lr i fun k => V.ref (rs k) := lr_congr fun k hk => by rw [if_neg (Nat.ne_of_lt hk)]
    show some (HO.lst (lr i (fun k => V.ref (rs k)) ++ [.ref r])) = some (.lst (lr (i + 1) fun k => V.ref (if k = i then r else rs k)))
    rw [lr_succ, e, if_pos rfl]
  · have nr : r ≠ D := fun z => by
      rw [z, p3] at hr
      cases hr
    by_cases z : k = i
    · subst z
      rw [if_pos rfl, upd_ne nr]
      exact h4
    · rw [if_neg z, upd_ne (p6 k (by omega))]
      exact e4 _ _ (p4 k (by omega))
  · by_cases z : k = i
    · rw [if_pos z]
      exact fresh_back p2 hr
    · rw [if_neg z]
      exact p5 k (by omega)
  · by_cases z : k = i
    · rw [if_pos z]
      intro z2
      rw [z2, p3] at hr
      cases hr
    · rw [if_neg z]
      exact p6 k (by omega)
  · have nr : ∀ k, k < i → rs k ≠ r := fun k hk z => by
      rw [← z, p4 k hk] at hr
      cases hr
    dsimp only at e
    by_cases z : k = i
    · by_cases z2 : l = i
      · rw [z, z2]
      · rw [if_pos z, if_neg z2] at e
        exact absurd e.symm (nr l (by omega))
    · by_cases z2 : l = i
      · rw [if_neg z, if_pos z2] at e
        exact absurd e (nr k (by omega))
      · rw [if_neg z, if_neg z2] at e
        exact p7 k l (by omega) (by omega) e
theorem cm_start {f : Nat → Nat → Int} {D : Addr} (hD : H D = none) : Cm H m f D 0 (upd H D (.lst [])) :=
  ⟨hD, Ex.new hD, fun _ => 0, upd_same, fun k hk => absurd hk (Nat.not_lt_zero _), fun k hk => absurd hk (Nat.not_lt_zero _), fun k hk => absurd hk (Nat.not_lt_zero _), fun k l hk => absurd hk (Nat.not_lt_zero _)⟩
/-- [a new row for x in range(n)] -/
theorem em_rng {tr : TA} {j : Nat} {vs : List Nat} {f : Nat → Nat → Int} (h : EvA tr σ H [.int (n : Int)]) (hn : n ≤ 40000) (hw : ∀ x, wipe ((wipe σ vs).set j (some x)) vs = wipe σ vs)
    (he : ∀ (i : Nat) H1, Ex H H1 → i < n → EvL te ((wipe σ vs).set j (some (.int (i : Int)))) H1 (ivec n (f i))) : EvM (tLc (iRng1 tr) (gName j) tYes te vs) σ H n f := fun H0 e Q q => h H0 e _ fun H1 e1 => ⟨(n : Int), rfl, by omega, by omega, fun D hD =>
  lc_range (lo := 0) (n := ((n : Int)).toNat) (Cm H1 n f D) (cm_start hD) (fun i H' hi p => by
    have from0 := Int.zero_add (i : Int)
    show wipe ((wipe σ vs).set j (some (.int ((0 : Int) + (i : Int))))) vs = wipe σ vs ∧ tYes ((wipe σ vs).set j (some (.int ((0 : Int) + (i : Int))))) H' fun b H3 => if b = true then te ((wipe σ vs).set j (some (.int ((0 : Int) + (i : Int))))) H3 fun y H4 => ∃ acc, H4 D = some (.lst acc) ∧ acc.length < sizeLine ∧ Cm H1 n f D (i + 1) (upd H4 D (.lst (acc ++ [y]))) else Cm H1 n f D (i + 1) H3
    rw [from0]
    exact ⟨hw _, cm_turn p (by omega) (he i H1 (e.trans e1) (by omega))⟩) (fun H' p => by
      rw [Int.toNat_natCast] at p
      obtain ⟨p1, p2, rs, p3, p4, p5, p6, p7⟩ := p
      exact q D rs H' (fresh_back e1 p1) (e1.trans p2) ⟨⟨p3, p4⟩, fun k hk => fresh_back e1 (p5 k hk), p6, p7⟩)⟩
/-- [a new row for x in xs] -/
theorem em_lst {a : Addr} {g : Nat → V} {j : Nat} {vs : List Nat} {f : Nat → Nat → Int} (h : Ev tl σ H (.ref a)) (hx : SqL K H a (lr n g)) (hn : n ≤ 40000) (hw : ∀ x, wipe ((wipe σ vs).set j (some x)) vs = wipe σ vs)
    (he : ∀ (i : Nat) H1, Ex H H1 → i < n → EvL te ((wipe σ vs).set j (some (g i))) H1 (ivec n (f i))) : EvM (tLc (iList K tl) (gName j) tYes te vs) σ H n f := fun H0 e Q q => h H0 e _ fun H1 e1 => ⟨a, rfl, ⟨lr n g, ex_l (e.trans e1) hx⟩, fun D hD =>
  lc_list (xs := lr n g) (Cm H1 n f D) (cm_start hD) (fun i H' _ p => ex_l ((e.trans e1).trans p.2.1) hx) (fun i x H' hi p => by
    obtain ⟨hi', rfl⟩ := lr_inv hi
    exact ⟨hw _, cm_turn p (by omega) (he i H1 (e.trans e1) hi')⟩) (fun H' p => by
      rw [lr_len] at p
      obtain ⟨p1, p2, rs, p3, p4, p5, p6, p7⟩ := p
      exact q D rs H' (fresh_back e1 p1) (e1.trans p2) ⟨⟨p3, p4⟩, fun k hk => fresh_back e1 (p5 k hk), p6, p7⟩)⟩
/-- [list(row) for row in table] -/
theorem em_copy {a : Addr} {rs : Nat → Addr} {j i0 : Nat} {vs : List Nat} {f : Nat → Nat → Int} (h : Ev tl σ H (.ref a)) (hT : TabR H a n rs f) (hn : n ≤ 40000) (hw : ∀ x, wipe ((wipe σ vs).set j (some x)) vs = wipe σ vs)
    (hv : ∀ x, ((wipe σ vs).set j (some x))[i0]? = some (some x)) : EvM (tLc (iList K tl) (gName j) tYes (tCB (rListS K) (tCons (tVar i0) tNil)) vs) σ H n f :=
  em_lst h (sq_of hT.ls) hn hw fun i H1 e hi => el_list (ev_var (hv _)) (sq_of (e _ _ (hT.rw i hi)))
/-- x = a new table -/
theorem q_asgM {D : Ends} {tz : TS} {i : Nat} {f : Nat → Nat → Int} (h : EvM te σ H n f) (k : ∀ p rs H1, H p = none → Ex H H1 → NewTab H H1 p n rs f → tz D (σ.set i (some (.ref p))) H1) : tSeq (tAsg te (gName i)) tz D σ H := h H (Ex.refl H) _ fun p rs H1 hp e h1 => k p rs H1 hp e h1
/-- a call with one new table as its argument -/
theorem ea_M {P : List V → Hp → Prop} {tr : TA} {f : Nat → Nat → Int} (h : EvM te σ H n f) (hr : ∀ p rs H1, H p = none → Ex H H1 → NewTab H H1 p n rs f → ∀ Q : List V → Hp → Prop, (∀ vs H2, P (.ref p :: vs) H2 → Q vs H2) → tr σ H1 Q) (Q : List V → Hp → Prop) (q : ∀ vs H2, P vs H2 → Q vs H2) : tCons te tr σ H Q :=
  h H (Ex.refl H) _ fun p rs H1 hp e hT => hr p rs H1 hp e hT _ fun vs H2 hP => q _ H2 hP
end
/-! ### xs[i] op= e -/
section
variable {X : Cx}
theorem pe_gi {x : Str} {i : Int} {t : Tok} {pos : Pos} (hg : Gl X x) (hm : X.mg x = some (.int i t)) (hd : (x == ("__debug__" : Str)) = false := by decide) : PE X (.Name x pos) (tC (.int i)) := pe_glob (v := .int i) hg hm ⟨t, rfl⟩ hd
/-- the item of a list at a place from the front, by values -/
def rAt (K : PySem.W.Frag) : V → V → Hp → VK → Prop := fun o i H Q => ∃ (l : Addr) (vs : List V) (j : Nat) (v : V), o = .ref l ∧ i = .int (j : Int) ∧ SqL K H l vs ∧ vs[j]? = some v ∧ Q v H
theorem get_at : PGet X (rAt X.K) := by
  intro pins st σ H o i ov iv Q J hov hiv hQ
  rcases hQ with ⟨l, vs, j, v, ho, hi, hl, hj, hq⟩
  subst ho
  subst hi
  have eo : ov = .ref l := hov
  obtain ⟨tk, ei⟩ : ∃ tk, iv = .int (j : Int) tk := hiv
  subst eo
  subst ei
  have few : vs.length ≤ sizeLine := (J.list hl).elim fun _ h => h.2.2
  have inside : j < vs.length := (List.getElem?_eq_some_iff.mp hj).1
  rcases J.list hl with ⟨us, hus, plain, _⟩
  rcases hus.get hj with ⟨u, hu, ru⟩
  have short : (j : Int) < 2 ^ 63 := Int.lt_trans (Int.ofNat_lt.mpr (Nat.lt_of_lt_of_le inside few)) (by decide)
  exact wpAny_getItem_list plain.isList (Int.natCast_nonneg j) short (by simpa using hu) ⟨v, H, J, ru, hq⟩
/-- xs[j] op= e, both numbers -/
theorem s_augL {K : PySem.W.Frag} {σ : L2.St} {H : Hp} {ta tb te : TE} {D : Ends} {g : Int → Int → Int} {l : Addr} {n j : Nat} {c : Nat → Int} {y : Int} (hl : H l = some (.lst (ivec n c))) (ho : Ev ta σ H (.ref l)) (hi : Ev tb σ H (.int (j : Int))) (hj : j < n) (he : Ev te σ H (.int y))
    (k : ∀ H1, Ex H H1 → D.nx σ (upd H1 l (.lst (ivec n fun i => if i = j then g (c j) y else c i)))) : tAugS ta tb te (rAt K) (ipI g) rSetL D σ H :=
  ho H (Ex.refl H) _ fun H1 e1 => hi H1 e1 _ fun H2 e2 => ⟨l, ivec n c, j, .int (c j), rfl, rfl, sq_of ((e1.trans e2) _ _ hl), lr_get hj, he H2 (e1.trans e2) _ fun H3 e3 => ⟨c j, y, rfl, rfl, l, ivec n c, (j : Int), j, rfl, rfl, ((e1.trans e2).trans e3) _ _ hl,
    ixN_nat (by rw [lr_len]; exact hj), by
      have q := k H3 ((e1.trans e2).trans e3)
      have e : (ivec n c).set j (.int (g (c j) y)) = ivec n fun i => if i = j then g (c j) y else c i := by
        rw [lr_set]
        refine lr_congr fun i _ => ?_
        dsimp only
        split <;> rfl
      rw [e]
      exact q⟩⟩
end
/-- what the top leaves of the names that the defs read -/
structure Txt (mg : Str → Option Value) : Prop where
  len : mg "len" = none
  range : mg "range" = none
  sum : mg "sum" = none
  min : mg "min" = none
  max : mg "max" = none
  abs : mg "abs" = none
  int : mg "int" = none
  isi : mg "isinstance" = none
  list : mg "list" = none
  tuple : mg "tuple" = none
  bool : mg "bool" = none
  mh : ∃ t, mg "MOST_HOUSES" = some (.int 13 t)
  ld : ∃ t, mg "LARGEST_DEBT" = some (.int 1000000000000000 t)
  la : ∃ t, mg "LARGEST_AMOUNT" = some (.int 1000000000000000000 t)
  lw : ∃ t, mg "LARGEST_WEIGHT" = some (.int 1000000000000000 t)
  mw : ∃ t, mg "MOST_WEIGHTS" = some (.int 40 t)
  lc : ∃ t, mg "LARGEST_CASH" = some (.int 100000000000000000 t)
/-! ### terms in short -/
/-- a def of the text, as its callers use it -/
structure Cal (P : Program) (w : World) (K : PySem.W.Frag) (mg : Str → Option Value) (base : Heap) (x : Str) (k : Nat) (ps : List Str) (sp : Sp) : Prop where
  ex : ∃ (f : Addr) (fd : FuncData), FnOk P w K mg base CX0 k f fd ps sp ∧ mg x = some (.ref f) ∧ PySem.W.keepIn K (.ref f) = true ∧ Binds K fd ps []
section
variable {X : Cx} {e e2 : Expr} {es : List Expr} {te te2 : TE} {t : TA} {p pos : Pos} {x : Str} {k : Nat} {ps : List Str} {sp : Sp}
theorem pe_fn (C : Cal X.prog X.w X.K X.mg X.base x k ps sp) (hr : Room k X.A) (ha : PA X (e :: es) t) (hg : Gl X x := by rfl) (hdb : (x == ("__debug__" : Str)) = false := by decide)
    (he : starEach (e :: es) X.env = (false, eval e X.env) :: starEach es X.env := by rfl) (hpl : (backTo pos (starEach es X.env)).any (·.1) = false := by rfl) : PE X (.Call (.Name x p) (e :: es) [] pos) (tCall sp [] E0 t) := by
  obtain ⟨f, fd, G, g, kp, b⟩ := C.ex
  exact pe_call G hr hg g kp b .nil pass0 ha hdb he hpl
theorem pe_len (T : Txt X.mg) (ha : PE X e te) (hg : Gl X "len" := by rfl) (he : starEach [e] X.env = (false, eval e X.env) :: starEach [] X.env := by rfl) (hpl : (backTo pos (starEach [] X.env)).any (·.1) = false := by rfl) :
    PE X (.Call (.Name "len" p) [e] [] pos) (tCB (rLenS X.K) (tCons te tNil)) := pe_callB call_len_seq hg T.len PySem.boot_len (pa_cons ha pa_nil he) (by decide) (by decide) he hpl
theorem pe_sum (hc : X.calm = true) (T : Txt X.mg) (ha : PE X e te) (hg : Gl X "sum" := by rfl) (he : starEach [e] X.env = (false, eval e X.env) :: starEach [] X.env := by rfl) (hpl : (backTo pos (starEach [] X.env)).any (·.1) = false := by rfl) :
    PE X (.Call (.Name "sum" p) [e] [] pos) (tCB (rSum X.K) (tCons te tNil)) := pe_callB (cr_sum hc) hg T.sum (by decide +kernel) (pa_cons ha pa_nil he) (by decide) (by decide) he hpl
theorem pe_abs (T : Txt X.mg) (ha : PE X e te) (hg : Gl X "abs" := by rfl) (he : starEach [e] X.env = (false, eval e X.env) :: starEach [] X.env := by rfl) (hpl : (backTo pos (starEach [] X.env)).any (·.1) = false := by rfl) :
    PE X (.Call (.Name "abs" p) [e] [] pos) (tCB rAbs (tCons te tNil)) := pe_callB call_abs hg T.abs (by decide +kernel) (pa_cons ha pa_nil he) (by decide) (by decide) he hpl
theorem pe_int' (T : Txt X.mg) (ha : PE X e te) (hg : Gl X "int" := by rfl) (he : starEach [e] X.env = (false, eval e X.env) :: starEach [] X.env := by rfl) (hpl : (backTo pos (starEach [] X.env)).any (·.1) = false := by rfl) :
    PE X (.Call (.Name "int" p) [e] [] pos) (tCB rInt (tCons te tNil)) := pe_callTy call_int1 hg T.int (by decide +kernel) (pa_cons ha pa_nil he) (by decide) (by decide) he hpl
theorem pe_list (T : Txt X.mg) (ha : PE X e te) (hg : Gl X "list" := by rfl) (he : starEach [e] X.env = (false, eval e X.env) :: starEach [] X.env := by rfl) (hpl : (backTo pos (starEach [] X.env)).any (·.1) = false := by rfl) :
    PE X (.Call (.Name "list" p) [e] [] pos) (tCB (rListS X.K) (tCons te tNil)) := pe_callTy call_list_of hg T.list (by decide +kernel) (pa_cons ha pa_nil he) (by decide) (by decide) he hpl
theorem pe_min (hc : X.calm = true) (T : Txt X.mg) (ha : PE X e te) (hb : PE X e2 te2) (hg : Gl X "min" := by rfl) (he2 : starEach [e2] X.env = (false, eval e2 X.env) :: starEach [] X.env := by rfl) (he : starEach [e, e2] X.env = (false, eval e X.env) :: starEach [e2] X.env := by rfl)
    (hpl : (backTo pos (starEach [e2] X.env)).any (·.1) = false := by rfl) : PE X (.Call (.Name "min" p) [e, e2] [] pos) (tCB rMin2 (tCons te (tCons te2 tNil))) := pe_callB (call_min2 hc) hg T.min (by decide +kernel) (pa_cons ha (pa_cons hb pa_nil he2) he) (by decide) (by decide) he hpl
theorem pe_max (hc : X.calm = true) (T : Txt X.mg) (ha : PE X e te) (hb : PE X e2 te2) (hg : Gl X "max" := by rfl) (he2 : starEach [e2] X.env = (false, eval e2 X.env) :: starEach [] X.env := by rfl) (he : starEach [e, e2] X.env = (false, eval e X.env) :: starEach [e2] X.env := by rfl)
    (hpl : (backTo pos (starEach [e2] X.env)).any (·.1) = false := by rfl) : PE X (.Call (.Name "max" p) [e, e2] [] pos) (tCB rMax2 (tCons te (tCons te2 tNil))) := pe_callB (call_max2 hc) hg T.max (by decide +kernel) (pa_cons ha (pa_cons hb pa_nil he2) he) (by decide) (by decide) he hpl
theorem pe_isi (T : Txt X.mg) (ha : PE X e te) (hb : PE X e2 te2) (hg : Gl X "isinstance" := by rfl) (he2 : starEach [e2] X.env = (false, eval e2 X.env) :: starEach [] X.env := by rfl) (he : starEach [e, e2] X.env = (false, eval e X.env) :: starEach [e2] X.env := by rfl)
    (hpl : (backTo pos (starEach [e2] X.env)).any (·.1) = false := by rfl) : PE X (.Call (.Name "isinstance" p) [e, e2] [] pos) (tCB (rIsi X.K) (tCons te (tCons te2 tNil))) := pe_callB call_isi hg T.isi (by decide +kernel) (pa_cons ha (pa_cons hb pa_nil he2) he) (by decide) (by decide) he hpl
theorem pe_ixl (ha : PE X e te) (hb : PE X e2 te2) (hs : PlainIx e2 := by intro _ _; rfl) : PE X (.Subscript e e2 pos) (tOp (rIxL X.K) te te2) := pe_ix ix_list ha hb hs
theorem pe_ixt (ha : PE X e te) (hb : PE X e2 te2) (hs : PlainIx e2 := by intro _ _; rfl) : PE X (.Subscript e e2 pos) (tOp (rIxT X.K) te te2) := pe_ix ix_tup ha hb hs
theorem pi_rng (T : Txt X.mg) {tg : Expr} (ha : PE X e te) (hg : Gl X "range" := by rfl) (hs : starEach [e] X.env = [(false, eval e X.env)] := by rfl) (he : starEach [e] X.env = (false, eval e X.env) :: starEach [] X.env := by rfl) :
    PI X tg (.Call (.Name "range" p) [e] [] pos) (iRng1 (tCons te tNil)) := pi_range1 hg T.range (pa_cons ha pa_nil he) hs
end
/-! ### calls -/
section
variable {K : PySem.W.Frag} {σ : L2.St} {H : Hp} {te tl tl2 : TE} {n : Nat} {f : Nat → Nat → Int} {sp : Sp} {E : XK} {xs ys zs : List V}
theorem el_callM (h : EvM te σ H n f) (hs : ∀ a H1, Ex H H1 → Tab H1 a n f → SpL sp [.ref a] H1 xs) : EvL (tCall sp [] E (tCons te tNil)) σ H xs := fun H1 e Q q =>
  h H1 e _ fun p rs H2 hp e2 hT => hs p H2 (e.trans e2) ⟨rs, hT.toTabR⟩ H2 (Ex.refl H2) Q (fun r H3 hr e3 h3 => q r H3 (fresh_back e2 hr) (e2.trans e3) h3) E
theorem el_callML (h : EvM te σ H n f) (hl : EvL tl σ H ys) (hs : ∀ a b H1, Ex H H1 → Tab H1 a n f → H1 b = some (.lst ys) → SpL sp [.ref a, .ref b] H1 xs) : EvL (tCall sp [] E (tCons te (tCons tl tNil))) σ H xs := fun H1 e Q q =>
  h H1 e _ fun p rs H2 hp e2 hT => hl H2 (e.trans e2) _ fun b H3 hb e3 hB => hs p b H3 ((e.trans e2).trans e3) ⟨rs, hT.toTabR.mono e3⟩ hB H3 (Ex.refl H3) Q (fun r H4 hr e4 h4 => q r H4 (fresh_back (e2.trans e3) hr) ((e2.trans e3).trans e4) h4) E
theorem el_callMLL (h : EvM te σ H n f) (hl : EvL tl σ H ys) (hl2 : EvL tl2 σ H zs) (hs : ∀ a b c H1, Ex H H1 → Tab H1 a n f → H1 b = some (.lst ys) → H1 c = some (.lst zs) → SpL sp [.ref a, .ref b, .ref c] H1 xs) : EvL (tCall sp [] E (tCons te (tCons tl (tCons tl2 tNil)))) σ H xs := fun H1 e Q q =>
  h H1 e _ fun p rs H2 hp e2 hT => hl H2 (e.trans e2) _ fun b H3 hb e3 hB => hl2 H3 ((e.trans e2).trans e3) _ fun c H4 hc e4 hC => hs p b c H4 (((e.trans e2).trans e3).trans e4) ⟨rs, hT.toTabR.mono (e3.trans e4)⟩ (e4 _ _ hB) hC H4 (Ex.refl H4) Q
    (fun r H5 hr e5 h5 => q r H5 (fresh_back ((e2.trans e3).trans e4) hr) (((e2.trans e3).trans e4).trans e5) h5) E
/-- a def that hands back a new table -/
def RetM (n : Nat) (f : Nat → Nat → Int) (H : Hp) (Q : VK) : Prop := ∀ p rs H2, H p = none → Ex H H2 → NewTab H H2 p n rs f → Q (.ref p) H2
def SpM (sp : Sp) (vs : List V) (H : Hp) (n : Nat) (f : Nat → Nat → Int) : Prop := ∀ H1, Ex H H1 → ∀ Q : VK, RetM n f H1 Q → ∀ E : XK, sp vs H1 Q E
theorem NewTab.back {H H1 H2 : Hp} {p : Addr} {rs : Nat → Addr} (e : Ex H H1) (t : NewTab H1 H2 p n rs f) : NewTab H H2 p n rs f := ⟨t.toTabR, fun i hi => fresh_back e (t.fr i hi), t.ne, t.inj⟩
theorem em_call {ta : TA} {vs dvs : List V} (h : EvA ta σ H vs) (hs : SpM sp (vs ++ dvs) H n f) : EvM (tCall sp dvs E ta) σ H n f := fun H1 e Q q =>
  h H1 e _ fun H2 e2 => hs H2 (e.trans e2) Q (fun p rs H3 hp e3 h3 => q p rs H3 (fresh_back e2 hp) (e2.trans e3) (h3.back e2)) E
theorem s_retM {D : Ends} (h : EvM te σ H n f) (k : ∀ p rs H1, H p = none → Ex H H1 → NewTab H H1 p n rs f → D.rt (.ref p) H1) : tRet te D σ H := h H (Ex.refl H) _ k
end
end Fb
namespace Fb
open PySem PySem.Spec PyProof.Rows L2 Evl
section
variable {P : Program} {K : PySem.W.Frag} {w : World} {base : Heap} {mg : Str → Option Value}
/-! ### check_debts -/
theorem scChk : FnScope ["owed", "count", "payer", "debt"] ["owed"] (defScope sChk) := ⟨rfl, rfl, rfl, by decide +kernel, rfl, by decide +kernel, by decide +kernel⟩
def spChk : Sp := fun vs H Q _ => ∃ (a : Addr) (n : Nat) (f : Nat → Nat → Int), vs = [.ref a] ∧ Tab H a n f ∧ Good 1000000 n f ∧ RetV .non H Q
theorem ok_chk {f : Addr} {fd : FuncData} (F : Fun K "check_debts" "check_debts" sChk f fd) (T : Txt mg) : FnOk P w K mg base CX0 1 f fd ["owed"] spChk := by
  refine F.ok scChk (fun vs H Q E h => ?_) (fun cdv A outer s H vs Q E hr h => ?_)
  · obtain ⟨a, n, f, rfl, _⟩ := h
    rfl
  · obtain ⟨a, n, f, rfl, ⟨rs, hT⟩, G, q⟩ := h
    obtain ⟨t1, hmh⟩ := T.mh
    obtain ⟨t2, hld⟩ := T.ld
    refine ⟨_, pss_cons (ps_set (i := 1) scChk.nd rfl (.inl rfl) (pe_callB call_len_seq (by rfl) T.len PySem.boot_len (pa_cons (pv 0) pa_nil)))
      (pss_cons (ps_if (pt_not (pt_chain op_le op_le pe_int (pv 1) (pe_gi (by rfl) hmh))) (pss_one ps_never) pss_nil)
      (pss_one (ps_for PassesOwn.never rfl (pi_range1 (by rfl) T.range (pa_cons (pv 1) pa_nil)) (pg_name (i := 2) scChk.nd rfl (.inl rfl))
        (pss_cons (ps_if (PW.pt (pw_or (pt_cmpR op_ne (pe_callB call_len_seq (by rfl) T.len PySem.boot_len (pa_cons (pe_ix ix_list (pv 0) (pv 2) (fun _ _ => rfl)) pa_nil)) (pv 1) (nomark _))
            (pw_or1 (pt_cmpR op_ne (pe_ix ix_list (pe_ix ix_list (pv 0) (pv 2) (fun _ _ => rfl)) (pv 2) (fun _ _ => rfl)) pe_int (nomark _))))) (pss_one ps_never) pss_nil)
        (pss_one (ps_for PassesOwn.never rfl (pi_list (pe_ix ix_list (pv 0) (pv 2) (fun _ _ => rfl))) (pg_name (i := 3) scChk.nd rfl (.inl rfl))
          (pss_one (ps_if (pt_not (pt_chain op_le op_le pe_int (pv 3) (pe_gi (by rfl) hld))) (pss_one ps_never) pss_nil)))))))), ?_⟩
    have hn1 := G.pos
    have hn2 := G.most
    refine q_asg (ev_lenR (n := n) (ev_var rfl) (sq_of hT.ls)) fun H1 e1 => ?_
    refine q_when (et_not (et_chain ev_c (ev_var rfl) rv_I0 ev_c rv_I0)) (fun z => ?_) fun _ H2 e2 => ?_
    · have c1 : decide ((1 : Int) ≤ (n : Int)) = true := decide_eq_true (by omega)
      have c2 : decide ((n : Int) ≤ 13) = true := decide_eq_true (by omega)
      rw [c1, c2] at z
      cases z
    · have e02 : Ex H H2 := e1.trans e2
      refine s_forR1 (n := (n : Int)) (ea_cons (ev_var rfl) ea_nil) ⟨by omega, by omega⟩ (fun i σ' H' => Ex H H' ∧ ∃ x2 x3, σ' = [some (.ref a), some (.int (n : Int)), x2, x3]) (fun H3 e3 => ⟨e02.trans e3, _, _, rfl⟩) (fun i σ' H' hi p => ?_) (fun σ' H' p => q H' p.1)
      obtain ⟨eh, x2, x3, rfl⟩ := p
      have hi' : i < n := by omega
      have hT' := hT.mono eh
      refine q_when (et_or (et_test (ev_op (ev_lenR (n := n) (ev_ixR (g := fun i => V.ref (rs i)) (ev_var rfl) (ev_var rfl) (sq_of hT'.ls) hi') (sq_of (hT'.rw i hi'))) (ev_var rfl) (rv_ne rfl))) fun _ => et_test (ev_op (ev_ix2 (ev_var rfl) (ev_var rfl) (ev_var rfl) hT' hi' hi') ev_c (rv_ne rfl))) (fun z => ?_) fun _ H3 e3 => ?_
      · rw [G.dg i hi', decide_eq_true rfl, decide_eq_true rfl] at z
        cases z
      · have eh3 := eh.trans e3
        have hT3 := hT.mono eh3
        refine s_forLn (xs := ivec n (f i)) (ev_ixR (g := fun i => V.ref (rs i)) (ev_var rfl) (ev_var rfl) (sq_of hT3.ls) hi') (sq_of (hT3.rw i hi')) (fun k σ' H' => Ex H H' ∧ ∃ x2 x3, σ' = [some (.ref a), some (.int (n : Int)), x2, x3]) (fun H4 e4 => ⟨eh3.trans e4, _, _, rfl⟩) (fun k σ' H' _ p => sq_of (hT.mono p.1 |>.rw i hi')) (fun k x σ' H' hx p => ?_) (fun σ' H' p => p)
        obtain ⟨eh4, y2, y3, rfl⟩ := p
        obtain ⟨hk, rfl⟩ := lr_inv hx
        refine s_when (et_not (et_chain ev_c (ev_var rfl) rv_I0 ev_c rv_I0)) (fun z => ?_) fun _ H5 e5 => ⟨eh4.trans e5, _, _, rfl⟩
        have c1 : decide ((0 : Int) ≤ f i k) = true := decide_eq_true (G.nn i k hi' hk)
        have c2 : decide (f i k ≤ 1000000000000000) = true := decide_eq_true (by
          have := G.le i k hi' hk
          omega)
        rw [c1, c2] at z
        cases z
end
end Fb
namespace Fb
open PySem PySem.Spec PyProof.Rows L2 Evl
section
variable {P : Program} {K : PySem.W.Frag} {w : World} {base : Heap} {mg : Str → Option Value}
theorem sv_chk {H : Hp} {a : Addr} {n : Nat} {f : Nat → Nat → Int} (hT : Tab H a n f) (G : Good 1000000 n f) : SpV spChk [.ref a] H .non := fun H1 e Q q _ => ⟨a, n, f, rfl, hT.mono e, G, q⟩
/-! ### net_amounts -/
theorem scNet : FnScope ["owed", "house", "row"] ["owed"] (defScope sNet) := ⟨rfl, rfl, rfl, by decide +kernel, rfl, by decide +kernel, by decide +kernel⟩
def spNet : Sp := fun vs H Q _ => ∃ (a : Addr) (n : Nat) (f : Nat → Nat → Int), vs = [.ref a] ∧ Tab H a n f ∧ Good 1000000 n f ∧ RetL (ivec n (net f n)) H Q
theorem sl_net {H : Hp} {a : Addr} {n : Nat} {f : Nat → Nat → Int} (hT : Tab H a n f) (G : Good 1000000 n f) : SpL spNet [.ref a] H (ivec n (net f n)) := fun H1 e Q q _ => ⟨a, n, f, rfl, hT.mono e, G, q⟩
theorem ok_net {f : Addr} {fd : FuncData} (F : Fun K "net_amounts" "net_amounts" sNet f fd) (T : Txt mg) (C1 : Cal P w K mg base "check_debts" 1 ["owed"] spChk) : FnOk P w K mg base CX0 2 f fd ["owed"] spNet := by
  refine F.ok scNet (fun vs H Q E h => ?_) (fun cdv A outer s H vs Q E hr h => ?_)
  · obtain ⟨a, n, f, rfl, _⟩ := h
    rfl
  · obtain ⟨a, n, f, rfl, ⟨rs, hT⟩, G, q⟩ := h
    refine ⟨_, pss_cons (ps_expr (pe_fn C1 hr (pa_cons (pv 0) pa_nil)))
      (pss_one (ps_ret (pe_lc (own := [("house", 1)]) (g := gName 1) (tt := tYes)
          (te := tOp (rI0 fun i j => .int (i - j)) (tCB (rSum K) (tCons (tLc (iList K (tVar 0)) (gName 2) tYes (tOp (rIxL K) (tVar 2) (tVar 1)) [2]) tNil)) (tCB (rSum K) (tCons (tOp (rIxL K) (tVar 0) (tVar 1)) tNil)))
          rfl scNet.nd (pi_rng T (pe_len T (pv 0))) (blkOk_by (by kernel_rfl)) (fun _ _ _ _ _ => pg_name (i := 1) scNet.nd rfl (Or.inr rfl)) (fun _ _ _ _ _ => pts_nil)
        (fun _ _ _ _ _ => ?el)))), ?_⟩
    case el =>
      refine pe_op op_sub ?_ ?_
      · refine pe_sum rfl T ?_
        refine pe_lc (own := [("row", 2)]) (g := gName 2) (tt := tYes) rfl scNet.nd (pi_list (pv 0)) (blkOk_by (by kernel_rfl)) (fun _ _ _ _ _ => pg_name (i := 2) scNet.nd rfl (Or.inl rfl)) (fun _ _ _ _ _ => pts_nil) (fun _ _ _ _ _ => ?_)
        exact pe_ixl (pv 2) (pv 1)
      · exact pe_sum rfl T (pe_ixl (pv 0) (pv 1))
    have hn := G.most
    refine q_drop (ev_call (ea_cons (ev_var rfl) ea_nil) (sv_chk ⟨rs, hT⟩ G)) fun H1 e1 => ?_
    have hT1 := hT.mono e1
    refine s_retL (el_vecR (n := n) (fun i => V.int (net f n i)) (ea_cons (ev_lenR (n := n) (ev_var rfl) (sq_of hT1.ls)) ea_nil) (by omega) (fun _ => rfl) fun i H2 e2 hi => ?_) fun p H2 hp e2 h2 => q p H2 (fresh_back e1 hp) (e1.trans e2) h2
    have hT2 := hT1.mono e2
    refine ev_op (x := .int (col f n i)) (y := .int (row f n i)) (ev_sumN (el_vecL (n := n) (g := fun k => V.ref (rs k)) (fun k => V.int (f k i)) (ev_var rfl) (sq_of hT2.ls) (by omega) (fun _ => rfl) fun k H3 e3 hk => ?_)) (ev_sumR (ev_ixR (g := fun k => V.ref (rs k)) (ev_var rfl) (ev_var rfl) (sq_of hT2.ls) hi) (sq_of (hT2.rw i hi))) rv_I0
    exact ev_ixR (g := fun j => V.int (f k j)) (ev_var rfl) (ev_var rfl) (sq_of ((hT2.mono e3).rw k hk)) hi
end
end Fb
namespace Fb
open PySem PySem.Spec PyProof.Rows L2 Evl
/-- weights: few, from 0 to a million -/
structure Wts (n : Nat) (g : Nat → Int) : Prop where
  pos : 1 ≤ n
  most : n ≤ 13
  nn : ∀ i, i < n → 0 ≤ g i
  le : ∀ i, i < n → g i ≤ 1000000
theorem Good.wts {n : Nat} {f : Nat → Nat → Int} (G : Good 1000000 n f) {i : Nat} (hi : i < n) : Wts n (f i) := ⟨G.pos, G.most, fun j hj => G.nn i j hi hj, fun j hj => G.le i j hi hj⟩
theorem Wts.s0 {n : Nat} {g : Nat → Int} (W : Wts n g) : 0 ≤ sm g n := sm_nn W.nn
theorem Wts.sB {n : Nat} {g : Nat → Int} (W : Wts n g) : sm g n ≤ 13000000 := by
  have h1 := sm_le W.le
  have h2 := nB_le (B := 1000000) (by decide) W.most
  omega
section
variable {P : Program} {K : PySem.W.Frag} {w : World} {base : Heap} {mg : Str → Option Value}
/-! ### check_weights -/
theorem scCkw : FnScope ["amount", "weights", "weight"] ["amount", "weights"] (defScope sCkw) := ⟨rfl, rfl, rfl, by decide +kernel, rfl, by decide +kernel, by decide +kernel⟩
def spCkw : Sp := fun vs H Q _ => ∃ (a : Addr) (n : Nat) (g : Nat → Int), vs = [.int (sm g n), .ref a] ∧ H a = some (.lst (ivec n g)) ∧ Wts n g ∧ RetV .non H Q
theorem sv_ckw {H : Hp} {a : Addr} {n : Nat} {g : Nat → Int} (hA : H a = some (.lst (ivec n g))) (W : Wts n g) : SpV spCkw [.int (sm g n), .ref a] H .non := fun H1 e Q q _ => ⟨a, n, g, rfl, e _ _ hA, W, q⟩
theorem ok_ckw {f : Addr} {fd : FuncData} (F : Fun K "check_weights" "check_weights" sCkw f fd) (T : Txt mg) : FnOk P w K mg base CX0 1 f fd ["amount", "weights"] spCkw := by
  refine F.ok scCkw (fun vs H Q E h => ?_) (fun cdv A outer s H vs Q E hr h => ?_)
  · obtain ⟨a, n, f, rfl, _⟩ := h
    rfl
  · obtain ⟨a, n, g, rfl, hA, W, q⟩ := h
    obtain ⟨t1, hmw⟩ := T.mw
    obtain ⟨t2, hlw⟩ := T.lw
    refine ⟨_, pss_cons (ps_if (pt_not (pt_chain op_le op_le pe_int (pe_len T (pv 1)) (pe_gi (by rfl) hmw))) (pss_one ps_never) pss_nil)
      (pss_cons (ps_for PassesOwn.never rfl (pi_list (pv 1)) (pg_name (i := 2) scCkw.nd rfl (.inl rfl)) (pss_one (ps_if (pt_not (pt_chain op_le op_le pe_int (pv 2) (pe_gi (by rfl) hlw))) (pss_one ps_never) pss_nil)))
      (pss_one (ps_if (PW.pt (pw_and (pt_cmpR op_gt (pv 0) pe_int (nomark _)) (pw_and1 (pt_cmpR op_eq (pe_sum rfl T (pv 1)) pe_int (nomark _))))) (pss_one ps_never) pss_nil))), ?_⟩
    have h1 := W.pos
    have h2 := W.most
    refine q_when (et_not (et_chain ev_c (ev_lenR (n := n) (ev_var rfl) (sq_of hA)) rv_I0 ev_c rv_I0)) (fun z => ?_) fun _ H1 e1 => ?_
    · have c1 : decide ((1 : Int) ≤ (n : Int)) = true := decide_eq_true (by omega)
      have c2 : decide ((n : Int) ≤ 40) = true := decide_eq_true (by omega)
      rw [c1, c2] at z
      cases z
    refine q_forLn (xs := ivec n g) (ev_var rfl) (sq_of (e1 _ _ hA)) (fun k σ' H' => Ex H H' ∧ ∃ x2, σ' = [some (.int (sm g n)), some (.ref a), x2]) (fun H2 e2 => ⟨e1.trans e2, _, rfl⟩) (fun k σ' H' _ p => sq_of (p.1 _ _ hA)) (fun k x σ' H' hx p => ?_) (fun σ' H' p => ?_)
    · obtain ⟨eh, x2, rfl⟩ := p
      obtain ⟨hk, rfl⟩ := lr_inv hx
      refine s_when (et_not (et_chain ev_c (ev_var rfl) rv_I0 ev_c rv_I0)) (fun z => ?_) fun _ H3 e3 => ⟨eh.trans e3, _, rfl⟩
      have c1 : decide ((0 : Int) ≤ g k) = true := decide_eq_true (W.nn k hk)
      have c2 : decide (g k ≤ 1000000000000000) = true := decide_eq_true (by
        have := W.le k hk
        omega)
      rw [c1, c2] at z
      cases z
    · obtain ⟨eh, x2, rfl⟩ := p
      refine s_when (et_and (et_test (ev_op (ev_var rfl) ev_c rv_I0)) fun _ => et_test (ev_op (ev_sumR (g := g) (n := n) (ev_var rfl) (sq_of (eh _ _ hA))) ev_c (rv_eq rfl))) (fun z => ?_) fun _ H3 e3 => q H3 (eh.trans e3)
      obtain ⟨z1, z2⟩ := Bool.and_eq_true_iff.mp z
      have y1 := of_decide_eq_true z1
      have y2 := V.int.inj (of_decide_eq_true z2)
      omega
/-! ### split, of an amount that is the weights' sum -/
theorem scSpl : FnScope ["amount", "weights", "total", "parts", "step", "weight"] ["amount", "weights"] (defScope sSpl) := ⟨rfl, rfl, rfl, by decide +kernel, rfl, by decide +kernel, by decide +kernel⟩
def spSpl : Sp := fun vs H Q _ => ∃ (a : Addr) (n : Nat) (g : Nat → Int), vs = [.int (sm g n), .ref a] ∧ H a = some (.lst (ivec n g)) ∧ Wts n g ∧ RetL (ivec n g) H Q
theorem sl_spl {H : Hp} {a : Addr} {n : Nat} {g : Nat → Int} (hA : H a = some (.lst (ivec n g))) (W : Wts n g) : SpL spSpl [.int (sm g n), .ref a] H (ivec n g) := fun H1 e Q q _ => ⟨a, n, g, rfl, e _ _ hA, W, q⟩
theorem ok_spl {f : Addr} {fd : FuncData} (F : Fun K "split" "split" sSpl f fd) (T : Txt mg) (C1 : Cal P w K mg base "check_weights" 1 ["amount", "weights"] spCkw) : FnOk P w K mg base CX0 2 f fd ["amount", "weights"] spSpl := by
  refine F.ok scSpl (fun vs H Q E h => ?_) (fun cdv A outer s H vs Q E hr h => ?_)
  · obtain ⟨a, n, f, rfl, _⟩ := h
    rfl
  · obtain ⟨a, n, g, rfl, hA, W, q⟩ := h
    obtain ⟨t1, hla⟩ := T.la
    refine ⟨_, pss_cons (ps_if (pt_not (pt_chain op_le op_le pe_int (pv 0) (pe_gi (by rfl) hla))) (pss_one ps_never) pss_nil)
      (pss_cons (ps_expr (pe_fn C1 hr (pa_cons (pv 0) (pa_cons (pv 1) pa_nil))))
      (pss_cons (ps_set (i := 2) scSpl.nd rfl (.inr rfl) (pe_sum rfl T (pv 1)))
      (pss_cons (ps_if (pt_cmpR op_eq (pv 2) pe_int (nomark _)) (pss_one (ps_ret (pe_lc (own := [("weight", 5)]) (g := gName 5) (tt := tYes) (te := tC (.int 0)) rfl scSpl.nd (pi_list (pv 1)) (blkOk_by (by kernel_rfl)) (fun _ _ _ _ _ => pg_name (i := 5) scSpl.nd rfl (Or.inl rfl)) (fun _ _ _ _ _ => pts_nil) (fun _ _ _ _ _ => ?el1)))) pss_nil)
      (pss_cons (ps_setLc (i := 3) (own := [("weight", 5)]) (g := gName 5) (tt := tYes) (te := tOp (rI CDiv fun i j => .int (i / j)) (tOp (rI CMul fun i j => .int (i * j)) (tVar 0) (tVar 5)) (tVar 2)) rfl scSpl.nd rfl rfl (sw_true rfl rfl rfl (by decide +kernel)) (pi_list (pv 1)) (blkOk_by (by kernel_rfl)) (fun _ _ _ _ _ => pg_name (i := 5) scSpl.nd rfl (Or.inl rfl)) (fun _ _ _ _ _ => pts_nil) (fun _ _ _ _ _ => ?el2))
      (pss_cons (ps_for PassesOwn.never rfl (pi_rng T (pe_op op_sub (pv 0) (pe_sum rfl T (pv 3)))) (pg_name (i := 4) scSpl.nd rfl (.inl rfl)) pss_never)
      (pss_one (ps_ret (pv 3)))))))), ?_⟩
    case el1 => exact pe_int
    case el2 => exact pe_op op_fdiv (pe_op op_mul (pv 0) (pv 5)) (pv 2)
    have h1 := W.pos
    have h2 := W.most
    have s0 := W.s0
    have sB := W.sB
    refine q_when (et_not (et_chain ev_c (ev_var rfl) rv_I0 ev_c rv_I0)) (fun z => ?_) fun _ H1 e1 => ?_
    · have c1 : decide ((0 : Int) ≤ sm g n) = true := decide_eq_true s0
      have c2 : decide (sm g n ≤ 1000000000000000000) = true := decide_eq_true (by omega)
      rw [c1, c2] at z
      cases z
    refine q_drop (ev_call (ea_cons (ev_var rfl) (ea_cons (ev_var rfl) ea_nil)) (sv_ckw (e1 _ _ hA) W)) fun H2 e2 => ?_
    have e02 := e1.trans e2
    refine q_asg (ev_sumR (g := g) (n := n) (ev_var rfl) (sq_of (e02 _ _ hA))) fun H3 e3 => ?_
    have e03 := e02.trans e3
    refine q_when (et_test (ev_op (ev_var rfl) ev_c (rv_eq rfl))) (fun z H4 e4 => ?_) fun z H4 e4 => ?_
    · have z0 : sm g n = 0 := V.int.inj (of_decide_eq_true z)
      have e04 := e03.trans e4
      refine s_retL (el_vecL (n := n) (g := fun i => V.int (g i)) (fun i => V.int (g i)) (ev_var rfl) (sq_of (e04 _ _ hA)) (by omega) (fun _ => rfl) fun i H5 e5 hi => ?_) fun p H5 hp e5 h5 => q p H5 (fresh_back e04 hp) (e04.trans e5) h5
      rw [sm_all0 W.nn z0 hi]
      exact ev_c
    · have z0 : sm g n ≠ 0 := fun y => of_decide_eq_false z (by rw [y])
      have e04 := e03.trans e4
      refine q_asgL (el_vecL (n := n) (g := fun i => V.int (g i)) (fun i => V.int (g i)) (ev_var rfl) (sq_of (e04 _ _ hA)) (by omega) (fun _ => rfl) fun i H5 e5 hi => ?_) fun p H5 hp e5 h5 => ?_
      · have := W.nn i hi
        have := W.le i hi
        refine ev_is (ev_op (ev_op (ev_var rfl) (ev_var rfl) (rv_I (.inl ⟨by omega, by omega⟩))) (ev_var rfl) (rv_I ⟨by omega, by omega⟩)) ?_
        rw [Int.mul_ediv_cancel_left _ z0]
      · have e05 := e04.trans e5
        refine q_forR1 (n := 0) (ea_cons (ev_is (ev_op (ev_var rfl) (ev_sumR (g := g) (n := n) (ev_var rfl) (sq_of h5)) rv_I0) (by rw [Int.sub_self])) ea_nil) ⟨by omega, by omega⟩ (fun i σ' H' => Ex H5 H' ∧ σ' = [some (.int (sm g n)), some (.ref a), some (.int (sm g n)), some (.ref p), none, none]) (fun H6 e6 => ⟨e6, rfl⟩) (fun i σ' H' hi _ => absurd hi (by omega)) fun σ' H' pp => ?_
        obtain ⟨e6, rfl⟩ := pp
        exact s_ret (ev_var rfl) fun H7 e7 => q p H7 (fresh_back e04 hp) (e05.trans (e6.trans e7)) ((e6.trans e7) _ _ h5)
end
end Fb
namespace Fb
open PySem PySem.Spec PyProof.Rows L2 Evl
/-! ### lists of ints compared -/
def pyI (xs : List Int) : PyData := .list (xs.map PyData.int)
theorem lay_ints : ∀ xs : List Int, PyData.canLayAll0 (xs.map PyData.int) = true
  | [] => rfl
  | x :: r => by
    show PyData.canLayAll0 (.int x :: r.map PyData.int) = true
    rw [PyData.canLayAll0, lay_ints r]
    rfl
theorem depth_ints : ∀ xs : List Int, PyData.depthAll (xs.map PyData.int) = 0
  | [] => rfl
  | x :: r => by
    show PyData.depthAll (.int x :: r.map PyData.int) = 0
    rw [PyData.depthAll, depth_ints r]
    rfl
theorem shaped_ints (xs : List Int) : SeqAt.shaped (pyI xs) = true := by
  unfold SeqAt.shaped pyI
  rw [PyData.canLay0, lay_ints, PyData.depth, depth_ints]
  rfl
theorem eqv_ints (xs : List Int) : PyData.eqv (pyI xs) (pyI xs) = true := SeqAt.eqv_refl _ (by
  unfold pyI
  rw [PyData.canLay0, lay_ints])
theorem dp_all {K : PySem.W.Frag} {H : Hp} : ∀ xs : List Int, DpAll K H (xs.map V.int) (xs.map PyData.int)
  | [] => .nil
  | x :: r => .cons (.int x) (dp_all r)
theorem dp_ints {K : PySem.W.Frag} {H : Hp} {p : Addr} {n : Nat} {g : Nat → Int} (h : SqL K H p (ivec n g)) : Dp K H (.ref p) (pyI (lr n g)) := by
  rw [ivec_map] at h
  exact .lst h (dp_all _)
/-- two lists of the same ints differ nowhere -/
theorem rv_neD {K : PySem.W.Frag} {H : Hp} {p q : Addr} {n : Nat} {g : Nat → Int} (h : SqL K H p (ivec n g)) (h' : SqL K H q (ivec n g)) : RV (rNeD K) (.ref p) (.ref q) H (.bl false) := fun H1 e Q k =>
  ⟨pyI (lr n g), pyI (lr n g), dp_ints (ex_l e h), dp_ints (ex_l e h'), shaped_ints _, shaped_ints _, by rw [eqv_ints]; exact k H1 (Ex.refl H1)⟩
section
variable {P : Program} {K : PySem.W.Frag} {w : World} {base : Heap} {mg : Str → Option Value}
/-! ### check_day -/
theorem scDay : FnScope ["owed", "cash", "amount"] ["owed", "cash"] (defScope sDay) := ⟨rfl, rfl, rfl, by decide +kernel, rfl, by decide +kernel, by decide +kernel⟩
/-- cash from 0 to the bound -/
def Csh (n : Nat) (c : Nat → Int) : Prop := ∀ i, i < n → 0 ≤ c i ∧ c i ≤ 100000000000000000
def spDay : Sp := fun vs H Q _ => ∃ (a b : Addr) (n : Nat) (f : Nat → Nat → Int) (c : Nat → Int), vs = [.ref a, .ref b] ∧ Tab H a n f ∧ Good 1000000 n f ∧ H b = some (.lst (ivec n c)) ∧ Csh n c ∧ RetV .non H Q
theorem sv_day {H : Hp} {a b : Addr} {n : Nat} {f : Nat → Nat → Int} {c : Nat → Int} (hT : Tab H a n f) (G : Good 1000000 n f) (hB : H b = some (.lst (ivec n c))) (hc : Csh n c) : SpV spDay [.ref a, .ref b] H .non := fun H1 e Q q _ => ⟨a, b, n, f, c, rfl, hT.mono e, G, e _ _ hB, hc, q⟩
theorem ok_day {f : Addr} {fd : FuncData} (F : Fun K "check_day" "check_day" sDay f fd) (T : Txt mg) (C1 : Cal P w K mg base "check_debts" 1 ["owed"] spChk) : FnOk P w K mg base CX0 2 f fd ["owed", "cash"] spDay := by
  refine F.ok scDay (fun vs H Q E h => ?_) (fun cdv A outer s H vs Q E hr h => ?_)
  · obtain ⟨a, b, n, f, c, rfl, _⟩ := h
    rfl
  · obtain ⟨a, b, n, f, c, rfl, ⟨rs, hT⟩, G, hB, hc, q⟩ := h
    obtain ⟨t1, hlc⟩ := T.lc
    refine ⟨_, pss_cons (ps_expr (pe_fn C1 hr (pa_cons (pv 0) pa_nil)))
      (pss_cons (ps_if (pt_cmpR op_ne (pe_len T (pv 1)) (pe_len T (pv 0)) (nomark _)) (pss_one ps_never) pss_nil)
      (pss_one (ps_for PassesOwn.never rfl (pi_list (pv 1)) (pg_name (i := 2) scDay.nd rfl (.inl rfl)) (pss_one (ps_if (pt_not (pt_chain op_le op_le pe_int (pv 2) (pe_gi (by rfl) hlc))) (pss_one ps_never) pss_nil))))), ?_⟩
    refine q_drop (ev_call (ea_cons (ev_var rfl) ea_nil) (sv_chk ⟨rs, hT⟩ G)) fun H1 e1 => ?_
    refine q_when (et_test (ev_op (ev_lenR (n := n) (ev_var rfl) (sq_of (e1 _ _ hB))) (ev_lenR (n := n) (ev_var rfl) (sq_of (hT.mono e1).ls)) (rv_ne rfl))) (fun z => ?_) fun _ H2 e2 => ?_
    · rw [decide_eq_true rfl] at z
      cases z
    have e02 := e1.trans e2
    refine s_forLn (xs := ivec n c) (ev_var rfl) (sq_of (e02 _ _ hB)) (fun k σ' H' => Ex H H' ∧ ∃ x2, σ' = [some (.ref a), some (.ref b), x2]) (fun H3 e3 => ⟨e02.trans e3, _, rfl⟩) (fun k σ' H' _ p => sq_of (p.1 _ _ hB)) (fun k x σ' H' hx p => ?_) (fun σ' H' p => q H' p.1)
    obtain ⟨eh, x2, rfl⟩ := p
    obtain ⟨hk, rfl⟩ := lr_inv hx
    refine s_when (et_not (et_chain ev_c (ev_var rfl) rv_I0 ev_c rv_I0)) (fun z => ?_) fun _ H3 e3 => ⟨eh.trans e3, _, rfl⟩
    have c1 : decide ((0 : Int) ≤ c k) = true := decide_eq_true (hc k hk).1
    have c2 : decide (c k ≤ 100000000000000000) = true := decide_eq_true (hc k hk).2
    rw [c1, c2] at z
    cases z
/-! ### receipts, of all debts paid in full -/
theorem scRcp : FnScope ["owed", "pay", "house"] ["owed", "pay"] (defScope sRcp) := ⟨rfl, rfl, rfl, by decide +kernel, rfl, by decide +kernel, by decide +kernel⟩
def spRcp : Sp := fun vs H Q _ => ∃ (a b : Addr) (n : Nat) (f : Nat → Nat → Int), vs = [.ref a, .ref b] ∧ Tab H a n f ∧ Good 1000000 n f ∧ H b = some (.lst (ivec n (row f n))) ∧ RetM n f H Q
theorem sm_rcp {H : Hp} {a b : Addr} {n : Nat} {f : Nat → Nat → Int} (hT : Tab H a n f) (G : Good 1000000 n f) (hB : H b = some (.lst (ivec n (row f n)))) : SpM spRcp [.ref a, .ref b] H n f := fun H1 e Q q _ => ⟨a, b, n, f, rfl, hT.mono e, G, e _ _ hB, q⟩
theorem ok_rcp {f : Addr} {fd : FuncData} (F : Fun K "receipts" "receipts" sRcp f fd) (T : Txt mg) (C1 : Cal P w K mg base "split" 2 ["amount", "weights"] spSpl) : FnOk P w K mg base CX0 3 f fd ["owed", "pay"] spRcp := by
  refine F.ok scRcp (fun vs H Q E h => ?_) (fun cdv A outer s H vs Q E hr h => ?_)
  · obtain ⟨a, b, n, f, rfl, _⟩ := h
    rfl
  · obtain ⟨a, b, n, f, rfl, ⟨rs, hT⟩, G, hB, q⟩ := h
    refine ⟨_, pss_one (ps_ret (pe_lc (own := [("house", 2)]) (g := gName 2) (tt := tYes) (te := tCall spSpl [] E0 (tCons (tOp (rIxL K) (tVar 1) (tVar 2)) (tCons (tOp (rIxL K) (tVar 0) (tVar 2)) tNil)))
      rfl scRcp.nd (pi_rng T (pe_len T (pv 0))) (blkOk_by (by kernel_rfl)) (fun _ _ _ _ _ => pg_name (i := 2) scRcp.nd rfl (Or.inl rfl)) (fun _ _ _ _ _ => pts_nil) (fun _ _ _ _ _ => ?el))), ?_⟩
    case el => exact pe_fn C1 hr (pa_cons (pe_ixl (pv 1) (pv 2)) (pa_cons (pe_ixl (pv 0) (pv 2)) pa_nil))
    have hn := G.most
    refine s_retM (em_rng (n := n) (ea_cons (ev_lenR (n := n) (ev_var rfl) (sq_of hT.ls)) ea_nil) (by omega) (fun _ => rfl) fun i H1 e1 hi => ?_) q
    have hT1 := hT.mono e1
    exact el_call (ea_cons (ev_ixR (g := fun i => V.int (row f n i)) (ev_var rfl) (ev_var rfl) (sq_of (e1 _ _ hB)) hi) (ea_cons (ev_ixR (g := fun i => V.ref (rs i)) (ev_var rfl) (ev_var rfl) (sq_of hT1.ls) hi) ea_nil)) (sl_spl (hT1.rw i hi) (G.wts hi))
/-! ### received -/
theorem scRcv : FnScope ["owed", "pay", "rows", "house", "row"] ["owed", "pay"] (defScope sRcv) := ⟨rfl, rfl, rfl, by decide +kernel, rfl, by decide +kernel, by decide +kernel⟩
def spRcv : Sp := fun vs H Q _ => ∃ (a b : Addr) (n : Nat) (f : Nat → Nat → Int), vs = [.ref a, .ref b] ∧ Tab H a n f ∧ Good 1000000 n f ∧ H b = some (.lst (ivec n (row f n))) ∧ RetL (ivec n (col f n)) H Q
theorem sl_rcv {H : Hp} {a b : Addr} {n : Nat} {f : Nat → Nat → Int} (hT : Tab H a n f) (G : Good 1000000 n f) (hB : H b = some (.lst (ivec n (row f n)))) : SpL spRcv [.ref a, .ref b] H (ivec n (col f n)) := fun H1 e Q q _ => ⟨a, b, n, f, rfl, hT.mono e, G, e _ _ hB, q⟩
theorem ok_rcv {f : Addr} {fd : FuncData} (F : Fun K "received" "received" sRcv f fd) (T : Txt mg) (C1 : Cal P w K mg base "receipts" 3 ["owed", "pay"] spRcp) : FnOk P w K mg base CX0 4 f fd ["owed", "pay"] spRcv := by
  refine F.ok scRcv (fun vs H Q E h => ?_) (fun cdv A outer s H vs Q E hr h => ?_)
  · obtain ⟨a, b, n, f, rfl, _⟩ := h
    rfl
  · obtain ⟨a, b, n, f, rfl, ⟨rs, hT⟩, G, hB, q⟩ := h
    refine ⟨_, pss_cons (ps_set (i := 2) scRcv.nd rfl (.inr rfl) (pe_fn C1 hr (pa_cons (pv 0) (pa_cons (pv 1) pa_nil))))
      (pss_one (ps_ret (pe_lc (own := [("house", 3)]) (g := gName 3) (tt := tYes) (te := tCB (rSum K) (tCons (tLc (iList K (tVar 2)) (gName 4) tYes (tOp (rIxL K) (tVar 4) (tVar 3)) [4]) tNil))
      rfl scRcv.nd (pi_rng T (pe_len T (pv 0))) (blkOk_by (by kernel_rfl)) (fun _ _ _ _ _ => pg_name (i := 3) scRcv.nd rfl (Or.inr rfl)) (fun _ _ _ _ _ => pts_nil) (fun _ _ _ _ _ => ?el)))), ?_⟩
    case el =>
      refine pe_sum rfl T ?_
      refine pe_lc (own := [("row", 4)]) (g := gName 4) (tt := tYes) rfl scRcv.nd (pi_list (pv 2)) (blkOk_by (by kernel_rfl)) (fun _ _ _ _ _ => pg_name (i := 4) scRcv.nd rfl (Or.inl rfl)) (fun _ _ _ _ _ => pts_nil) (fun _ _ _ _ _ => ?_)
      exact pe_ixl (pv 4) (pv 3)
    have hn := G.most
    refine q_asgM (em_call (ea_cons (ev_var rfl) (ea_cons (ev_var rfl) ea_nil)) (sm_rcp ⟨rs, hT⟩ G hB)) fun p rs2 H1 hp e1 N => ?_
    have hT1 := hT.mono e1
    refine s_retL (el_vecR (n := n) (fun i => V.int (col f n i)) (ea_cons (ev_lenR (n := n) (ev_var rfl) (sq_of hT1.ls)) ea_nil) (by omega) (fun _ => rfl) fun i H2 e2 hi => ?_) fun p H2 hp e2 h2 => q p H2 (fresh_back e1 hp) (e1.trans e2) h2
    have hT2 := N.toTabR.mono e2
    refine ev_sumN (el_vecL (n := n) (g := fun k => V.ref (rs2 k)) (fun k => V.int (f k i)) (ev_var rfl) (sq_of hT2.ls) (by omega) (fun _ => rfl) fun k H3 e3 hk => ?_)
    exact ev_ixR (g := fun j => V.int (f k j)) (ev_var rfl) (ev_var rfl) (sq_of ((hT2.mono e3).rw k hk)) hi
/-! ### round_of -/
theorem scRnd : FnScope ["owed", "cash", "pay", "income", "house"] ["owed", "cash", "pay"] (defScope sRnd) := ⟨rfl, rfl, rfl, by decide +kernel, rfl, by decide +kernel, by decide +kernel⟩
/-- each house can pay in full if all do -/
def Can (n : Nat) (f : Nat → Nat → Int) (c : Nat → Int) : Prop := ∀ i, i < n → row f n i ≤ c i + col f n i
def spRnd : Sp := fun vs H Q _ => ∃ (a b d : Addr) (n : Nat) (f : Nat → Nat → Int) (c : Nat → Int), vs = [.ref a, .ref b, .ref d] ∧ Tab H a n f ∧ Good 1000000 n f ∧ H b = some (.lst (ivec n c)) ∧ H d = some (.lst (ivec n (row f n))) ∧ Can n f c ∧ RetL (ivec n (row f n)) H Q
theorem sl_rnd {H : Hp} {a b d : Addr} {n : Nat} {f : Nat → Nat → Int} {c : Nat → Int} (hT : Tab H a n f) (G : Good 1000000 n f) (hB : H b = some (.lst (ivec n c))) (hD : H d = some (.lst (ivec n (row f n)))) (hc : Can n f c) : SpL spRnd [.ref a, .ref b, .ref d] H (ivec n (row f n)) :=
  fun H1 e Q q _ => ⟨a, b, d, n, f, c, rfl, hT.mono e, G, e _ _ hB, e _ _ hD, hc, q⟩
theorem ok_rnd {f : Addr} {fd : FuncData} (F : Fun K "round_of" "round_of" sRnd f fd) (T : Txt mg) (C1 : Cal P w K mg base "received" 4 ["owed", "pay"] spRcv) : FnOk P w K mg base CX0 5 f fd ["owed", "cash", "pay"] spRnd := by
  refine F.ok scRnd (fun vs H Q E h => ?_) (fun cdv A outer s H vs Q E hr h => ?_)
  · obtain ⟨a, b, d, n, f, c, rfl, _⟩ := h
    rfl
  · obtain ⟨a, b, d, n, f, c, rfl, ⟨rs, hT⟩, G, hB, hD, hc, q⟩ := h
    refine ⟨_, pss_cons (ps_set (i := 3) scRnd.nd rfl (.inr rfl) (pe_fn C1 hr (pa_cons (pv 0) (pa_cons (pv 2) pa_nil))))
      (pss_one (ps_ret (pe_lc (own := [("house", 4)]) (g := gName 4) (tt := tYes) (te := tCB rMin2 (tCons (tCB (rSum K) (tCons (tOp (rIxL K) (tVar 0) (tVar 4)) tNil)) (tCons (tOp (rI0 fun i j => .int (i + j)) (tOp (rIxL K) (tVar 1) (tVar 4)) (tOp (rIxL K) (tVar 3) (tVar 4))) tNil)))
      rfl scRnd.nd (pi_rng T (pe_len T (pv 0))) (blkOk_by (by kernel_rfl)) (fun _ _ _ _ _ => pg_name (i := 4) scRnd.nd rfl (Or.inl rfl)) (fun _ _ _ _ _ => pts_nil) (fun _ _ _ _ _ => ?el)))), ?_⟩
    case el => exact pe_min rfl T (pe_sum rfl T (pe_ixl (pv 0) (pv 4))) (pe_op op_add (pe_ixl (pv 1) (pv 4)) (pe_ixl (pv 3) (pv 4)))
    have hn := G.most
    refine q_asgL (el_call (ea_cons (ev_var rfl) (ea_cons (ev_var rfl) ea_nil)) (sl_rcv ⟨rs, hT⟩ G hD)) fun p H1 hp e1 hP => ?_
    have hT1 := hT.mono e1
    refine s_retL (el_vecR (n := n) (fun i => V.int (row f n i)) (ea_cons (ev_lenR (n := n) (ev_var rfl) (sq_of hT1.ls)) ea_nil) (by omega) (fun _ => rfl) fun i H2 e2 hi => ?_) fun p H2 hp e2 h2 => q p H2 (fresh_back e1 hp) (e1.trans e2) h2
    have hT2 := hT1.mono e2
    refine ev_is (ev_min2 (ev_sumR (g := f i) (n := n) (ev_ixR (g := fun k => V.ref (rs k)) (ev_var rfl) (ev_var rfl) (sq_of hT2.ls) hi) (sq_of (hT2.rw i hi))) (ev_op (ev_ixR (g := fun i => V.int (c i)) (ev_var rfl) (ev_var rfl) (sq_of (e2 _ _ (e1 _ _ hB))) hi) (ev_ixR (g := fun i => V.int (col f n i)) (ev_var rfl) (ev_var rfl) (sq_of (e2 _ _ hP)) hi) rv_I0)) ?_
    have h := hc i hi
    rw [if_neg (show ¬ c i + col f n i < sm (f i) n from by
      show ¬ c i + col f n i < row f n i
      omega)]
    rfl
/-! ### clearing -/
theorem scClr : FnScope ["owed", "cash", "pay", "following", "row"] ["owed", "cash"] (defScope sClr) := ⟨rfl, rfl, rfl, by decide +kernel, rfl, by decide +kernel, by decide +kernel⟩
def spClr : Sp := fun vs H Q _ => ∃ (a b : Addr) (n : Nat) (f : Nat → Nat → Int) (c : Nat → Int), vs = [.ref a, .ref b] ∧ Tab H a n f ∧ Good 1000000 n f ∧ H b = some (.lst (ivec n c)) ∧ Csh n c ∧ Can n f c ∧ RetL (ivec n (row f n)) H Q
theorem sl_clr {H : Hp} {a b : Addr} {n : Nat} {f : Nat → Nat → Int} {c : Nat → Int} (hT : Tab H a n f) (G : Good 1000000 n f) (hB : H b = some (.lst (ivec n c))) (h1 : Csh n c) (h2 : Can n f c) : SpL spClr [.ref a, .ref b] H (ivec n (row f n)) :=
  fun H1 e Q q _ => ⟨a, b, n, f, c, rfl, hT.mono e, G, e _ _ hB, h1, h2, q⟩
theorem ok_clr {f : Addr} {fd : FuncData} (F : Fun K "clearing" "clearing" sClr f fd) (T : Txt mg) (C1 : Cal P w K mg base "check_day" 2 ["owed", "cash"] spDay) (C2 : Cal P w K mg base "round_of" 5 ["owed", "cash", "pay"] spRnd) : FnOk P w K mg base CX0 6 f fd ["owed", "cash"] spClr := by
  refine F.ok scClr (fun vs H Q E h => ?_) (fun cdv A outer s H vs Q E hr h => ?_)
  · obtain ⟨a, b, n, f, c, rfl, _⟩ := h
    rfl
  · obtain ⟨a, b, n, f, c, rfl, ⟨rs, hT⟩, G, hB, hC1, hC2, q⟩ := h
    refine ⟨_, pss_cons (ps_expr (pe_fn C1 (hr.mono (by decide)) (pa_cons (pv 0) (pa_cons (pv 1) pa_nil))))
      (pss_cons (ps_setLc (i := 2) (own := [("row", 4)]) (g := gName 4) (tt := tYes) (te := tCB (rSum K) (tCons (tVar 4) tNil)) rfl scClr.nd rfl rfl (sw_true rfl rfl rfl (by decide +kernel)) (pi_list (pv 0)) (blkOk_by (by kernel_rfl)) (fun _ _ _ _ _ => pg_name (i := 4) scClr.nd rfl (Or.inl rfl)) (fun _ _ _ _ _ => pts_nil) (fun _ _ _ _ _ => ?el))
      (pss_cons (ps_set (i := 3) scClr.nd rfl (.inl rfl) (pe_fn C2 hr (pa_cons (pv 0) (pa_cons (pv 1) (pa_cons (pv 2) pa_nil)))))
      (pss_cons (ps_while PassesOwn.never (pt_cmpR (op_neD hr.units) (pv 3) (pv 2) (nomark _)) pss_never)
      (pss_one (ps_ret (pv 2)))))), ?_⟩
    case el => exact pe_sum rfl T (pv 4)
    have hn := G.most
    refine q_drop (ev_call (ea_cons (ev_var rfl) (ea_cons (ev_var rfl) ea_nil)) (sv_day ⟨rs, hT⟩ G hB hC1)) fun H1 e1 => ?_
    have hT1 := hT.mono e1
    refine q_asgL (el_vecL (n := n) (g := fun i => V.ref (rs i)) (fun i => V.int (row f n i)) (ev_var rfl) (sq_of hT1.ls) (by omega) (fun _ => rfl) fun i H2 e2 hi => ?_) fun p H2 hp e2 h2 => ?_
    · exact ev_sumR (g := f i) (n := n) (ev_var rfl) (sq_of ((hT1.mono e2).rw i hi))
    have e02 := e1.trans e2
    refine q_asgL (el_call (ea_cons (ev_var rfl) (ea_cons (ev_var rfl) (ea_cons (ev_var rfl) ea_nil))) (sl_rnd ⟨rs, hT.mono e02⟩ G (e02 _ _ hB) h2 hC2)) fun r H3 hr3 e3 h3 => ?_
    refine q_while (fun _ σ' H' => Ex H3 H' ∧ σ' = [some (.ref a), some (.ref b), some (.ref p), some (.ref r), none]) 0 ⟨Ex.refl H3, rfl⟩ fun m σ' H' ⟨e4, hσ⟩ => ⟨false, ?_, fun z => absurd z Bool.false_ne_true, fun _ H5 e5 => ?_⟩
    · subst hσ
      exact et_test (ev_op (ev_var rfl) (ev_var rfl) (rv_neD (sq_of (e4 _ _ h3)) (sq_of (e4 _ _ (e3 _ _ h2)))))
    · subst hσ
      exact s_ret (ev_var rfl) fun H6 e6 => q p H6 (fresh_back e1 hp) (e02.trans (e3.trans (e4.trans (e5.trans e6)))) ((e3.trans (e4.trans (e5.trans e6))) _ _ h2)
/-! ### cash_after -/
theorem scCsh : FnScope ["owed", "cash", "pay", "income", "house"] ["owed", "cash", "pay"] (defScope sCsh) := ⟨rfl, rfl, rfl, by decide +kernel, rfl, by decide +kernel, by decide +kernel⟩
def spCsh : Sp := fun vs H Q _ => ∃ (a b d : Addr) (n : Nat) (f : Nat → Nat → Int) (c : Nat → Int), vs = [.ref a, .ref b, .ref d] ∧ Tab H a n f ∧ Good 1000000 n f ∧ H b = some (.lst (ivec n c)) ∧ H d = some (.lst (ivec n (row f n))) ∧ RetL (ivec n fun i => c i + net f n i) H Q
theorem sl_csh {H : Hp} {a b d : Addr} {n : Nat} {f : Nat → Nat → Int} {c : Nat → Int} (hT : Tab H a n f) (G : Good 1000000 n f) (hB : H b = some (.lst (ivec n c))) (hD : H d = some (.lst (ivec n (row f n)))) : SpL spCsh [.ref a, .ref b, .ref d] H (ivec n fun i => c i + net f n i) :=
  fun H1 e Q q _ => ⟨a, b, d, n, f, c, rfl, hT.mono e, G, e _ _ hB, e _ _ hD, q⟩
theorem ok_csh {f : Addr} {fd : FuncData} (F : Fun K "cash_after" "cash_after" sCsh f fd) (T : Txt mg) (C1 : Cal P w K mg base "received" 4 ["owed", "pay"] spRcv) : FnOk P w K mg base CX0 5 f fd ["owed", "cash", "pay"] spCsh := by
  refine F.ok scCsh (fun vs H Q E h => ?_) (fun cdv A outer s H vs Q E hr h => ?_)
  · obtain ⟨a, b, d, n, f, c, rfl, _⟩ := h
    rfl
  · obtain ⟨a, b, d, n, f, c, rfl, ⟨rs, hT⟩, G, hB, hD, q⟩ := h
    refine ⟨_, pss_cons (ps_set (i := 3) scCsh.nd rfl (.inr rfl) (pe_fn C1 hr (pa_cons (pv 0) (pa_cons (pv 2) pa_nil))))
      (pss_one (ps_ret (pe_lc (own := [("house", 4)]) (g := gName 4) (tt := tYes) (te := tOp (rI0 fun i j => .int (i - j)) (tOp (rI0 fun i j => .int (i + j)) (tOp (rIxL K) (tVar 1) (tVar 4)) (tOp (rIxL K) (tVar 3) (tVar 4))) (tOp (rIxL K) (tVar 2) (tVar 4)))
      rfl scCsh.nd (pi_rng T (pe_len T (pv 0))) (blkOk_by (by kernel_rfl)) (fun _ _ _ _ _ => pg_name (i := 4) scCsh.nd rfl (Or.inl rfl)) (fun _ _ _ _ _ => pts_nil) (fun _ _ _ _ _ => ?el)))), ?_⟩
    case el => exact pe_op op_sub (pe_op op_add (pe_ixl (pv 1) (pv 4)) (pe_ixl (pv 3) (pv 4))) (pe_ixl (pv 2) (pv 4))
    have hn := G.most
    refine q_asgL (el_call (ea_cons (ev_var rfl) (ea_cons (ev_var rfl) ea_nil)) (sl_rcv ⟨rs, hT⟩ G hD)) fun p H1 hp e1 hP => ?_
    have hT1 := hT.mono e1
    refine s_retL (el_vecR (n := n) (fun i => V.int (c i + net f n i)) (ea_cons (ev_lenR (n := n) (ev_var rfl) (sq_of hT1.ls)) ea_nil) (by omega) (fun _ => rfl) fun i H2 e2 hi => ?_) fun p H2 hp e2 h2 => q p H2 (fresh_back e1 hp) (e1.trans e2) h2
    refine ev_is (ev_op (ev_op (ev_ixR (g := fun i => V.int (c i)) (ev_var rfl) (ev_var rfl) (sq_of (e2 _ _ (e1 _ _ hB))) hi) (ev_ixR (g := fun i => V.int (col f n i)) (ev_var rfl) (ev_var rfl) (sq_of (e2 _ _ hP)) hi) rv_I0) (ev_ixR (g := fun i => V.int (row f n i)) (ev_var rfl) (ev_var rfl) (sq_of (e2 _ _ (e1 _ _ hD))) hi) rv_I0) ?_
    show V.int (c i + col f n i - row f n i) = V.int (c i + (col f n i - row f n i))
    congr 1
    omega
/-! ### fallen -/
theorem scFal : FnScope ["owed", "pay", "house"] ["owed", "pay"] (defScope sFal) := ⟨rfl, rfl, rfl, by decide +kernel, rfl, by decide +kernel, by decide +kernel⟩
def spFal : Sp := fun vs H Q _ => ∃ (a b : Addr) (n : Nat) (f : Nat → Nat → Int), vs = [.ref a, .ref b] ∧ Tab H a n f ∧ Good 1000000 n f ∧ H b = some (.lst (ivec n (row f n))) ∧ RetL [] H Q
theorem sl_fal {H : Hp} {a b : Addr} {n : Nat} {f : Nat → Nat → Int} (hT : Tab H a n f) (G : Good 1000000 n f) (hB : H b = some (.lst (ivec n (row f n)))) : SpL spFal [.ref a, .ref b] H [] := fun H1 e Q q _ => ⟨a, b, n, f, rfl, hT.mono e, G, e _ _ hB, q⟩
theorem given_non {n : Nat} {v : Nat → V} : given n (fun _ => false) v = [] := by
  unfold given
  rw [List.filter_eq_nil_iff.mpr fun _ _ => Bool.false_ne_true]
  rfl
theorem ok_fal {f : Addr} {fd : FuncData} (F : Fun K "fallen" "fallen" sFal f fd) (T : Txt mg) : FnOk P w K mg base CX0 1 f fd ["owed", "pay"] spFal := by
  refine F.ok scFal (fun vs H Q E h => ?_) (fun cdv A outer s H vs Q E hr h => ?_)
  · obtain ⟨a, b, n, f, rfl, _⟩ := h
    rfl
  · obtain ⟨a, b, n, f, rfl, ⟨rs, hT⟩, G, hB, q⟩ := h
    refine ⟨_, pss_one (ps_ret (pe_lc (own := [("house", 2)]) (g := gName 2) (tt := tTest (tOp (rI0 fun i j => .bl (decide (i < j))) (tOp (rIxL K) (tVar 1) (tVar 2)) (tCB (rSum K) (tCons (tOp (rIxL K) (tVar 0) (tVar 2)) tNil)))) (te := tVar 2)
      rfl scFal.nd (pi_rng T (pe_len T (pv 0))) (blkOk_by (by kernel_rfl)) (fun _ _ _ _ _ => pg_name (i := 2) scFal.nd rfl (Or.inl rfl)) (fun _ _ _ _ _ => ?ts) (fun _ _ _ _ _ => ?el))), ?_⟩
    case ts => exact pts_one (pt_cmpR op_lt (pe_ixl (pv 1) (pv 2)) (pe_sum rfl T (pe_ixl (pv 0) (pv 2))) (nomark _))
    case el => exact pv 2
    have hn := G.most
    have z := el_lcR1 (σ := start ["owed", "pay", "house"] [.ref a, .ref b]) (H := H) (t := tTest (tOp (rI0 fun i j => .bl (decide (i < j))) (tOp (rIxL K) (tVar 1) (tVar 2)) (tCB (rSum K) (tCons (tOp (rIxL K) (tVar 0) (tVar 2)) tNil)))) (te := tVar 2) (j := 2) (vs := [2]) (n := (n : Int)) (ta := tCons (tCB (rLenS K) (tCons (tVar 0) tNil)) tNil) (fun _ => false) (fun _ => V.non)
      (ea_cons (ev_lenR (n := n) (ev_var rfl) (sq_of hT.ls)) ea_nil) ⟨by omega, by omega⟩ (fun _ => rfl) (fun i H1 e1 hi => ?_) (fun i H1 e1 hi hf => nomatch hf)
    · rw [given_non] at z
      exact s_retL z q
    · have hi' : i < n := by omega
      have hT1 := hT.mono e1
      refine et_is (et_test (ev_op (ev_ixR (g := fun i => V.int (row f n i)) (ev_var rfl) (ev_var rfl) (sq_of (e1 _ _ hB)) hi') (ev_sumR (g := f i) (n := n) (ev_ixR (g := fun k => V.ref (rs k)) (ev_var rfl) (ev_var rfl) (sq_of hT1.ls) hi') (sq_of (hT1.rw i hi'))) rv_I0)) ?_
      exact decide_eq_false (Int.lt_irrefl _)
end
end Fb
namespace Fb
open PySem PySem.Spec PyProof.Rows L2 Evl
/-- a list of payments: tuples (payer, receiver, amount) -/
def payT (q : Pay) : List V := [.int (q.1 : Int), .int (q.2.1 : Int), .int q.2.2]
structure PayR (H : Hp) (p : Addr) (ts : Nat → Addr) (ps : List Pay) : Prop where
  ls : H p = some (.lst (rvec ps.length ts))
  tp : ∀ k q, ps[k]? = some q → H (ts k) = some (.tup (payT q))
def PayAt (H : Hp) (p : Addr) (ps : List Pay) : Prop := ∃ ts, PayR H p ts ps
theorem PayR.mono {H H' : Hp} {p : Addr} {ts : Nat → Addr} {ps : List Pay} (e : Ex H H') (h : PayR H p ts ps) : PayR H' p ts ps := ⟨e _ _ h.ls, fun k q hk => e _ _ (h.tp k q hk)⟩
/-- a write elsewhere -/
theorem PayR.off {H : Hp} {p O : Addr} {ts : Nat → Addr} {ps : List Pay} {xs ys : List V} (h : PayR H p ts ps) (hO : H O = some (.lst xs)) (ne : O ≠ p) : PayR (upd H O (.lst ys)) p ts ps := by
  refine ⟨by rw [upd_ne (Ne.symm ne)]; exact h.ls, fun k q hk => ?_⟩
  have e := h.tp k q hk
  rw [upd_ne (ne_of e hO (fun z => nomatch z))]
  exact e
theorem PayR.app {H : Hp} {p t : Addr} {ts : Nat → Addr} {ps : List Pay} {q : Pay} (h : PayR H p ts ps) (ht : H t = some (.tup (payT q))) :
    PayR (upd H p (.lst (rvec ps.length ts ++ [.ref t]))) p (fun k => if k = ps.length then t else ts k) (ps ++ [q]) := by
  have np : ∀ {b : Addr} {xs : List V}, H b = some (.tup xs) → b ≠ p := fun e => ne_of e h.ls (fun z => nomatch z)
  refine ⟨?_, fun k r hk => ?_⟩
  · rw [upd_same, List.length_append]
    have e : rvec ps.length (fun k => if k = ps.length then t else ts k) = rvec ps.length ts := lr_congr fun k hk => by
      dsimp only
      rw [if_neg (Nat.ne_of_lt hk)]
    show some (HO.lst (rvec ps.length ts ++ [.ref t])) = some (.lst (rvec (ps.length + 1) fun k => if k = ps.length then t else ts k))
    have e2 : rvec (ps.length + 1) (fun k => if k = ps.length then t else ts k) = rvec ps.length (fun k => if k = ps.length then t else ts k) ++ [V.ref (if ps.length = ps.length then t else ts ps.length)] := lr_succ
    rw [e2, e, if_pos rfl]
  · by_cases z : k = ps.length
    · subst z
      rw [List.getElem?_append_right (Nat.le_refl _), Nat.sub_self] at hk
      have e : q = r := Option.some.inj hk
      subst e
      rw [if_pos rfl, upd_ne (np ht)]
      exact ht
    · have hl : k < (ps ++ [q]).length := (List.getElem?_eq_some_iff.mp hk).1
      rw [List.length_append] at hl
      have hl2 : k < ps.length := by
        have : ([q] : List Pay).length = 1 := rfl
        omega
      rw [List.getElem?_append_left hl2] at hk
      have e := h.tp k r hk
      rw [if_neg z, upd_ne (np e)]
      exact e
theorem q_augL {K : PySem.W.Frag} {σ : L2.St} {H : Hp} {ta tb te : TE} {D : Ends} {tz : TS} {g : Int → Int → Int} {l : Addr} {n j : Nat} {c : Nat → Int} {y : Int} (hl : H l = some (.lst (ivec n c))) (ho : Ev ta σ H (.ref l)) (hi : Ev tb σ H (.int (j : Int))) (hj : j < n) (he : Ev te σ H (.int y))
    (k : ∀ H1, Ex H H1 → tz D σ (upd H1 l (.lst (ivec n fun i => if i = j then g (c j) y else c i)))) : tSeq (tAugS ta tb te (rAt K) (ipI g) rSetL) tz D σ H := s_augL (D := { D with nx := tz D }) hl ho hi hj he k
section
variable {P : Program} {K : PySem.W.Frag} {w : World} {base : Heap} {mg : Str → Option Value}
/-! ### compress -/
theorem scCmp : FnScope ["owed", "open_amounts", "payments", "payer", "receiver", "count", "amount"] ["owed"] (defScope sCmp) := ⟨rfl, rfl, rfl, by decide +kernel, rfl, by decide +kernel, by decide +kernel⟩
/-- a def that hands back payments that give each house its net -/
def RetP (n : Nat) (v : Nat → Int) (H : Hp) (Q : VK) : Prop := ∀ p ps H2, H p = none → Ex H H2 → PayAt H2 p ps → PayOk n v ps → Q (.ref p) H2
def spCmp : Sp := fun vs H Q _ => ∃ (a : Addr) (n : Nat) (f : Nat → Nat → Int), vs = [.ref a] ∧ Tab H a n f ∧ Good 1000000 n f ∧ RetP n (net f n) H Q
/-- the loop's word: m the measure -/
structure CmpW (H : Hp) (a O L : Addr) (n : Nat) (v : Nat → Int) (m : Nat) (σ' : L2.St) (H' : Hp) (o : Nat → Int) (ps : List Pay) (p r : Nat) (ts : Nat → Addr) (x6 : Option V) : Prop where
  sl : σ' = [some (.ref a), some (.ref O), some (.ref L), some (.int (p : Int)), some (.int (r : Int)), some (.int (n : Int)), x6]
  ex : Ex H H'
  op : H' O = some (.lst (ivec n o))
  py : PayR H' L ts ps
  md : Mid n v o ps p r
  me : mu n o p r = m
  fw : ps.length + m ≤ 4 * n
theorem ok_cmp {f : Addr} {fd : FuncData} (F : Fun K "compress" "compress" sCmp f fd) (T : Txt mg) (C1 : Cal P w K mg base "net_amounts" 2 ["owed"] spNet) : FnOk P w K mg base CX0 3 f fd ["owed"] spCmp := by
  refine F.ok scCmp (fun vs H Q E h => ?_) (fun cdv A outer s H vs Q E hr h => ?_)
  · obtain ⟨a, n, f, rfl, _⟩ := h
    rfl
  · obtain ⟨a, n, f, rfl, ⟨rs, hT⟩, G, q⟩ := h
    have nd := scCmp.nd
    refine ⟨_, pss_cons (ps_set (i := 1) nd rfl (.inl rfl) (pe_fn C1 hr (pa_cons (pv 0) pa_nil)))
      (pss_cons (ps_set (i := 2) nd rfl (.inl rfl) (pe_lst pa_nil))
      (pss_cons (ps_set (i := 3) nd rfl (.inl rfl) pe_int)
      (pss_cons (ps_set (i := 4) nd rfl (.inl rfl) pe_int)
      (pss_cons (ps_set (i := 5) nd rfl (.inl rfl) (pe_len T (pv 0)))
      (pss_cons (ps_while PassesOwn.never (PW.pt (pw_and (pt_cmpR op_lt (pv 3) (pv 5) (nomark _)) (pw_and1 (pt_cmpR op_lt (pv 4) (pv 5) (nomark _)))))
        (pss_one (ps_if (pt_cmpR op_ge (pe_ixl (pv 1) (pv 3)) pe_int (nomark _)) (pss_one (ps_aug (i := 3) nd rfl (.inl rfl) pe_int ip_add))
          (pss_one (ps_if (pt_cmpR op_le (pe_ixl (pv 1) (pv 4)) pe_int (nomark _)) (pss_one (ps_aug (i := 4) nd rfl (.inl rfl) pe_int ip_add))
            (pss_cons (ps_set (i := 6) nd rfl (.inl rfl) (pe_min rfl T (pe_un un_neg (pe_ixl (pv 1) (pv 3))) (pe_ixl (pv 1) (pv 4))))
            (pss_cons (ps_expr (pe_bm PySem.F.plainAttrs_list PySem.F.slot_list_append PySem.F.type_list_append mt_append (pv 2) (pa_cons (pe_tup (pa_cons (pv 3) (pa_cons (pv 4) (pa_cons (pv 6) pa_nil)))) pa_nil)))
            (pss_cons (ps_augS (pv 1) (pv 3) get_at (pv 6) ip_add set_list)
            (pss_one (ps_augS (pv 1) (pv 4) get_at (pv 6) ip_sub set_list))))))))))
      (pss_one (ps_ret (pv 2)))))))), ?_⟩
    have hn1 := G.pos
    have hn2 := G.most
    refine q_asgL (el_call (ea_cons (ev_var rfl) ea_nil) (sl_net ⟨rs, hT⟩ G)) fun O H1 hO e1 h1 => ?_
    refine q_asgL (el_lst ea_nil (by show 0 ≤ 100000; omega)) fun L H2 hL e2 h2 => ?_
    refine q_asg ev_c fun H3 e3 => ?_
    refine q_asg ev_c fun H4 e4 => ?_
    have e24 := e3.trans e4
    have e04 := (e1.trans e2).trans e24
    refine q_asg (ev_lenR (n := n) (ev_var rfl) (sq_of (hT.mono e04).ls)) fun H5 e5 => ?_
    have e25 := e24.trans e5
    have e05 := e04.trans e5
    have nOL : O ≠ L := ne_of_none h1 hL
    have hL0 : H L = none := fresh_back e1 hL
    refine q_while (fun m σ' H' => ∃ o ps p r ts x6, CmpW H a O L n (net f n) m σ' H' o ps p r ts x6) (mu n (net f n) 0 0) ⟨net f n, [], 0, 0, fun _ => 0, none, rfl, e05, e25 _ _ (e2 _ _ h1), ⟨e25 _ _ h2, fun k q hk => by simp at hk⟩, mid_start (net_sum f n), rfl, ?_⟩ fun m σ' H' hW => ?_
    · unfold mu
      show 0 + _ ≤ _
      split <;> split <;> omega
    obtain ⟨o, ps, p, r, ts, x6, rfl, ex, op, py, md, me, fw⟩ := hW
    refine ⟨decide ((p : Int) < (n : Int)) && decide ((r : Int) < (n : Int)), et_and (et_test (ev_op (ev_var rfl) (ev_var rfl) rv_I0)) (fun _ => et_test (ev_op (ev_var rfl) (ev_var rfl) rv_I0)), fun hb H6 e6 => ?_, fun hb H6 e6 => ?_⟩
    · obtain ⟨hb1, hb2⟩ := Bool.and_eq_true_iff.mp hb
      have hp : p < n := by
        have := of_decide_eq_true hb1
        omega
      have hr' : r < n := by
        have := of_decide_eq_true hb2
        omega
      refine ⟨fun σ2 H2 => ∃ m', m' < m ∧ ∃ o ps p r ts x6, CmpW H a O L n (net f n) m' σ2 H2 o ps p r ts x6, fun σ2 H2 z => z, ?_⟩
      have op6 := e6 _ _ op
      have py6 := py.mono e6
      have ex6 := ex.trans e6
      refine s_if (et_test (ev_op (ev_ixR (g := fun i => V.int (o i)) (ev_var rfl) (ev_var rfl) (sq_of op6) hp) ev_c rv_I0)) (fun z H7 e7 => ?_) fun z H7 e7 => ?_
      · have z' := of_decide_eq_true z
        obtain ⟨M, lt⟩ := md.payer hp z'
        refine s_aug rfl ev_c fun H8 e8 => ?_
        have e68 := e7.trans e8
        exact ⟨_, by rw [← me]; exact lt, o, ps, p + 1, r, ts, x6, rfl, ex6.trans e68, e68 _ _ op6, py6.mono e68, M, rfl, by omega⟩
      have z1 : o p < 0 := by
        have := of_decide_eq_false z
        omega
      have op7 := e7 _ _ op6
      have py7 := py6.mono e7
      have ex7 := ex6.trans e7
      refine s_if (et_test (ev_op (ev_ixR (g := fun i => V.int (o i)) (ev_var rfl) (ev_var rfl) (sq_of op7) hr') ev_c rv_I0)) (fun z H8 e8 => ?_) fun z H8 e8 => ?_
      · have z' := of_decide_eq_true z
        obtain ⟨M, lt⟩ := md.receiver hr' z'
        refine s_aug rfl ev_c fun H9 e9 => ?_
        have e79 := e8.trans e9
        exact ⟨_, by rw [← me]; exact lt, o, ps, p, r + 1, ts, x6, rfl, ex7.trans e79, e79 _ _ op7, py7.mono e79, M, rfl, by omega⟩
      have z2 : 0 < o r := by
        have := of_decide_eq_false z
        omega
      have op8 := e8 _ _ op7
      have py8 := py7.mono e8
      have ex8 := ex7.trans e8
      have npr : r ≠ p := fun e => by
        rw [e] at z2
        omega
      obtain ⟨c, hc⟩ : ∃ c, c = if o r < -o p then o r else -o p := ⟨_, rfl⟩
      obtain ⟨M, lt⟩ := md.pay hp hr' z1 z2 hc
      refine q_asg (v := .int c) (ev_is (ev_min2 (ev_un (ev_ixR (g := fun i => V.int (o i)) (ev_var rfl) (ev_var rfl) (sq_of op8) hp) ru_neg) (ev_ixR (g := fun i => V.int (o i)) (ev_var rfl) (ev_var rfl) (sq_of op8) hr')) (by rw [hc])) fun H9 e9 => ?_
      have op9 := e9 _ _ op8
      have py9 := py8.mono e9
      have ex9 := ex8.trans e9
      refine q_appU (ys := payT (p, r, c)) py9.ls (ev_var rfl) (eu_tup (ea_cons (ev_var rfl) (ea_cons (ev_var rfl) (ea_cons (ev_var rfl) ea_nil))) (by show 3 ≤ 100000; omega)) (by rw [lr_len]; omega) fun t H10 ht e10 h10 => ?_
      have py10 := (py9.mono e10).app h10
      have op10 : (upd H10 L (.lst (rvec ps.length ts ++ [.ref t]))) O = some (.lst (ivec n o)) := by
        rw [upd_ne nOL]
        exact e10 _ _ op9
      have ex10 : Ex H (upd H10 L (.lst (rvec ps.length ts ++ [.ref t]))) := Ex.mut (ex9.trans e10) hL0
      refine q_augL op10 (ev_var rfl) (ev_var rfl) hp (ev_var rfl) fun H11 e11 => ?_
      have py11 := (py10.mono e11).off (ys := ivec n fun i => if i = p then o p + c else o i) (e11 _ _ op10) nOL
      have ex11 : Ex H (upd H11 O (.lst (ivec n fun i => if i = p then o p + c else o i))) := Ex.mut (ex10.trans e11) hO
      refine s_augL (c := fun i => if i = p then o p + c else o i) upd_same (ev_var rfl) (ev_var rfl) hr' (ev_var rfl) fun H12 e12 => ?_
      have e : (ivec n fun i => if i = r then (if r = p then o p + c else o r) - c else if i = p then o p + c else o i) = ivec n (after o p r c) := lr_congr fun i hi => by
        rw [if_neg npr]
        rfl
      have py12 := (py11.mono e12).off (ys := ivec n (after o p r c)) (e12 _ _ upd_same) nOL
      have ex12 : Ex H (upd H12 O (.lst (ivec n (after o p r c)))) := Ex.mut (ex11.trans e12) hO
      dsimp only
      rw [e]
      refine ⟨_, by rw [← me]; exact lt, after o p r c, ps ++ [(p, r, c)], p, r, _, _, rfl, ex12, upd_same, py12, M, rfl, ?_⟩
      rw [List.length_append]
      show ps.length + 1 + _ ≤ _
      omega
    · have hd : ¬ (p < n ∧ r < n) := fun ⟨y1, y2⟩ => by
        have c1 : decide ((p : Int) < (n : Int)) = true := decide_eq_true (by omega)
        have c2 : decide ((r : Int) < (n : Int)) = true := decide_eq_true (by omega)
        rw [c1, c2] at hb
        cases hb
      refine s_ret (ev_var rfl) fun H7 e7 => q L ps H7 hL0 (ex.trans (e6.trans e7)) ⟨ts, py.mono (e6.trans e7)⟩ ⟨md.fit, by omega, fun i hi => md.done hd hi⟩
end
end Fb
namespace Fb
open PySem PySem.Spec PyProof.Rows L2 Evl
section
variable {P : Program} {K : PySem.W.Frag} {w : World} {base : Heap} {mg : Str → Option Value}
/-! ### _law_cell -/
theorem scCel : FnScope ["_law_script", "_law_k"] ["_law_script", "_law_k"] (defScope sCel) := ⟨rfl, rfl, rfl, by decide +kernel, rfl, by decide +kernel, by decide +kernel⟩
def spCel (K : PySem.W.Frag) : Sp := fun vs H Q _ => ∃ (a : Addr) (ns : List Int) (k : Nat), vs = [.ref a, .int (k : Int)] ∧ SqL K H a (ns.map V.int) ∧ RetV (.int (cell ns k)) H Q
theorem sv_cel {H : Hp} {a : Addr} {ns : List Int} {k : Nat} (hS : SqL K H a (ns.map V.int)) : SpV (spCel K) [.ref a, .int (k : Int)] H (.int (cell ns k)) := fun H1 e Q q _ => ⟨a, ns, k, rfl, ex_l e hS, q⟩
theorem ok_cel {f : Addr} {fd : FuncData} (F : Fun K "_law_cell" "_law_cell" sCel f fd) (T : Txt mg) : FnOk P w K mg base CX0 1 f fd ["_law_script", "_law_k"] (spCel K) := by
  refine F.ok scCel (fun vs H Q E h => ?_) (fun cdv A outer s H vs Q E hr h => ?_)
  · obtain ⟨a, n, k, rfl, _⟩ := h
    rfl
  · obtain ⟨a, ns, k, rfl, hS, q⟩ := h
    refine ⟨_, pss_cons (ps_if (pt_cmpR op_lt (pv 1) (pe_len T (pv 0)) (nomark _)) (pss_one (ps_ret (pe_ixl (pv 0) (pv 1)))) pss_nil)
      (pss_one (ps_ret pe_int)), ?_⟩
    refine q_when (et_test (ev_op (ev_var rfl) (ev_len (ev_var rfl) hS) rv_I0)) (fun z H1 e1 => ?_) fun z H1 e1 => ?_
    · have hk : k < ns.length := by
        have := of_decide_eq_true z
        rw [List.length_map] at this
        omega
      have e : (ns.map V.int)[k]? = some (V.int (cell ns k)) := by
        unfold cell
        rw [List.getElem?_map, List.getElem?_eq_getElem hk, List.getD_eq_getElem?_getD, List.getElem?_eq_getElem hk]
        rfl
      exact s_ret (ev_op (ev_var rfl) (ev_var rfl) (rv_ixL (ex_l e1 hS) (atI_nat e))) fun H2 e2 => q H2 (e1.trans e2)
    · have hk : ns.length ≤ k := by
        have := of_decide_eq_false z
        rw [List.length_map] at this
        omega
      have e : cell ns k = 0 := by
        unfold cell
        rw [List.getD_eq_getElem?_getD, List.getElem?_eq_none hk]
        rfl
      rw [e] at q
      exact s_ret ev_c fun H2 e2 => q H2 (e1.trans e2)
/-! ### _law_draws -/
theorem scDrw : FnScope ["_law_cell_here", "_law_count", "_law_size", "_law_draws_here", "_law_rest", "_law_k"] ["_law_cell_here", "_law_count", "_law_size"] (defScope sDrw) := ⟨rfl, rfl, rfl, by decide +kernel, rfl, by decide +kernel, by decide +kernel⟩
def spDrw : Sp := fun vs H Q _ => ∃ (c : Int) (n : Nat) (s : Int), vs = [.int c, .int (n : Int), .int s] ∧ n ≤ 100 ∧ (0 < s ∧ s < 1073741824) ∧ RetL (ivec n (draw c s)) H Q
theorem sl_drw {H : Hp} {c : Int} {n : Nat} {s : Int} (hn : n ≤ 100) (hs : 0 < s ∧ s < 1073741824) : SpL spDrw [.int c, .int (n : Int), .int s] H (ivec n (draw c s)) := fun H1 e Q q _ => ⟨c, n, s, rfl, hn, hs, q⟩
theorem ok_drw {f : Addr} {fd : FuncData} (F : Fun K "_law_draws" "_law_draws" sDrw f fd) (T : Txt mg) : FnOk P w K mg base CX0 1 f fd ["_law_cell_here", "_law_count", "_law_size"] spDrw := by
  refine F.ok scDrw (fun vs H Q E h => ?_) (fun cdv A outer s H vs Q E hr h => ?_)
  · obtain ⟨c, n, s, rfl, _⟩ := h
    rfl
  · obtain ⟨c, n, s, rfl, hn, hs, q⟩ := h
    have nd := scDrw.nd
    refine ⟨_, pss_cons (ps_set (i := 3) nd rfl (.inl rfl) (pe_lst pa_nil))
      (pss_cons (ps_set (i := 4) nd rfl (.inl rfl) (pe_abs T (pv 0)))
      (pss_cons (ps_if (pt_cmpR op_ge (pv 4) pe_int (nomark _))
        (pss_cons (ps_for PassesOwn.never rfl (pi_rng T (pv 1)) (pg_name (i := 5) nd rfl (.inl rfl))
          (pss_cons (ps_expr (pe_bm PySem.F.plainAttrs_list PySem.F.slot_list_append PySem.F.type_list_append mt_append (pv 3) (pa_cons (pe_op op_mod (pe_int' T (pv 4)) (pv 2)) pa_nil)))
          (pss_one (ps_set (i := 4) nd rfl (.inl rfl) (pe_op op_fdiv (pv 4) (pv 2))))))
        (pss_one (ps_ret (pv 3)))) pss_nil)
      (pss_cons (ps_for PassesOwn.never rfl (pi_rng T (pv 1)) (pg_name (i := 5) nd rfl (.inl rfl))
          (pss_cons (ps_set (i := 4) nd rfl (.inl rfl) (pe_op op_mod (pe_int' T (pe_op op_add (pe_op op_add (pe_op op_mul (pv 4) pe_int) (pe_op op_mul (pv 5) pe_int)) pe_int)) pe_int))
          (pss_one (ps_expr (pe_bm PySem.F.plainAttrs_list PySem.F.slot_list_append PySem.F.type_list_append mt_append (pv 3) (pa_cons (pe_op op_mod (pe_op op_mod (pe_int' T (pe_op op_add (pe_op op_mul (pv 4) pe_int) (pv 5))) pe_int) (pv 2)) pa_nil))))))
      (pss_one (ps_ret (pv 3)))))), ?_⟩
    refine q_asgL (el_lst ea_nil (by show 0 ≤ 100000; omega)) fun L H1 hL e1 h1 => ?_
    refine q_asg (ev_abs (ev_var rfl)) fun H2 e2 => ?_
    have e02 := e1.trans e2
    refine q_when (et_test (ev_op (ev_var rfl) ev_c rv_I0)) (fun z H3 e3 => ?_) fun z H3 e3 => ?_
    · have z' : 1000000000000000000 ≤ ab c := of_decide_eq_true z
      have ed : ∀ k, draw c s k = stB c s k % s := fun k => if_pos z'
      refine q_forR1 (n := (n : Int)) (ea_cons (ev_var rfl) ea_nil) ⟨by omega, by omega⟩ (fun k σ' H' => Ex H H' ∧ H' L = some (.lst (ivec k (draw c s))) ∧ ∃ x5, σ' = [some (.int c), some (.int (n : Int)), some (.int s), some (.ref L), some (.int (stB c s k)), x5]) (fun H4 e4 => ⟨(e02.trans e3).trans e4, e4 _ _ (e3 _ _ (e2 _ _ h1)), _, rfl⟩) (fun k σ' H' hk p => ?_) (fun σ' H' p => ?_)
      · obtain ⟨ex, hl, x5, rfl⟩ := p
        refine q_app hl (ev_var rfl) (ev_op (ev_int (ev_var rfl)) (ev_var rfl) (rv_I hs.1)) (by rw [lr_len]; omega) fun H5 e5 => ?_
        refine s_asg (ev_op (ev_var rfl) (ev_var rfl) (rv_I ⟨hs.1, hs.2⟩)) fun H6 e6 => ⟨(Ex.mut (ex.trans e5) hL).trans e6, ?_, _, rfl⟩
        refine e6 _ _ ?_
        rw [upd_same]
        have e : ivec (k + 1) (draw c s) = ivec k (draw c s) ++ [V.int (draw c s k)] := lr_succ
        rw [e, ed k]
      · obtain ⟨ex, hl, x5, rfl⟩ := p
        exact s_ret (ev_var rfl) fun H5 e5 => q L H5 hL (ex.trans e5) (by
          rw [Int.toNat_natCast] at hl
          exact e5 _ _ hl)
    · have z' : ab c < 1000000000000000000 := by
        have z2 : ¬ 1000000000000000000 ≤ ab c := of_decide_eq_false z
        omega
      have ed : ∀ k, draw c s k = (stS c (k + 1) * 16807 + (k : Int)) % 2147483629 % s := fun k => if_neg (by omega)
      refine q_forR1 (n := (n : Int)) (ea_cons (ev_var rfl) ea_nil) ⟨by omega, by omega⟩ (fun k σ' H' => Ex H H' ∧ H' L = some (.lst (ivec k (draw c s))) ∧ ∃ x5, σ' = [some (.int c), some (.int (n : Int)), some (.int s), some (.ref L), some (.int (stS c k)), x5]) (fun H4 e4 => ⟨(e02.trans e3).trans e4, e4 _ _ (e3 _ _ (e2 _ _ h1)), _, rfl⟩) (fun k σ' H' hk p => ?_) (fun σ' H' p => ?_)
      · obtain ⟨ex, hl, x5, rfl⟩ := p
        have b1 := stS_small z' k
        have b2 := stS_small z' (k + 1)
        refine q_asg (v := .int (stS c (k + 1))) (ev_op (ev_int (ev_op (ev_op (ev_op (ev_var rfl) ev_c (rv_I (.inr ⟨by omega, by omega⟩))) (ev_op (ev_var rfl) ev_c (rv_I (.inr ⟨by omega, by omega⟩))) rv_I0) ev_c rv_I0)) ev_c (rv_I (by decide))) fun H5 e5 => ?_
        refine s_app (e5 _ _ hl) (ev_var rfl) (ev_op (ev_op (ev_int (ev_op (ev_op (ev_var rfl) ev_c (rv_I (.inr ⟨by omega, by omega⟩))) (ev_var rfl) rv_I0)) ev_c (rv_I (by decide))) (ev_var rfl) (rv_I hs.1)) (by rw [lr_len]; omega) fun H6 e6 => ⟨Ex.mut ((ex.trans e5).trans e6) hL, ?_, _, rfl⟩
        rw [upd_same]
        have e : ivec (k + 1) (draw c s) = ivec k (draw c s) ++ [V.int (draw c s k)] := lr_succ
        rw [e, ed k]
      · obtain ⟨ex, hl, x5, rfl⟩ := p
        exact s_ret (ev_var rfl) fun H5 e5 => q L H5 hL (ex.trans e5) (by
          rw [Int.toNat_natCast] at hl
          exact e5 _ _ hl)
end
end Fb
namespace Fb
open PySem PySem.Spec PyProof.Rows L2 Evl
section
variable {X : Cx} {pos : Pos}
/-- a built-in class as a value -/
theorem pe_ty {x : Str} {n : String} (hg : Gl X x) (hm : X.mg x = none) (hv : bootBuiltins x = some (.type n)) (hn : x ≠ "__name__" := by decide) (hd : (x == ("__debug__" : Str)) = false := by decide) : PE X (.Name x pos) (tC (.ty n)) := pe_bltn (v := .ty n) hg hm hv rfl hn hd
end
theorem bt_int : bootBuiltins "int" = some (.type "int") := by decide +kernel
theorem bt_bool : bootBuiltins "bool" = some (.type "bool") := by decide +kernel
theorem bt_list : bootBuiltins "list" = some (.type "list") := by decide +kernel
theorem bt_tuple : bootBuiltins "tuple" = some (.type "tuple") := by decide +kernel
theorem kit_ii {K : PySem.W.Frag} : PySem.W.kitOne K (.type "int") (.type "int") = some true := kit_ty (by decide +kernel)
theorem kit_ib {K : PySem.W.Frag} : PySem.W.kitOne K (.type "int") (.type "bool") = some false := kit_ty (by decide +kernel)
theorem kit_ll {K : PySem.W.Frag} : PySem.W.kitOne K (.type "list") (.type "list") = some true := kit_ty (by decide +kernel)
theorem kit_tt {K : PySem.W.Frag} : PySem.W.kitOne K (.type "tuple") (.type "tuple") = some true := kit_ty (by decide +kernel)
section
variable {K : PySem.W.Frag} {σ : L2.St} {H : Hp} {ta tc : TE} {i : Int} {a : Addr} {xs : List V}
theorem ev_iiT (ha : Ev ta σ H (.int i)) : Ev (tCB (rIsi K) (tCons ta (tCons (tC (.ty "int")) tNil))) σ H (.bl true) := ev_isi ha ev_c (.ty _) (fun _ _ => .base (.int i)) kit_ii
theorem ev_ibF (ha : Ev ta σ H (.int i)) : Ev (tCB (rIsi K) (tCons ta (tCons (tC (.ty "bool")) tNil))) σ H (.bl false) := ev_isi ha ev_c (.ty _) (fun _ _ => .base (.int i)) kit_ib
theorem ev_llT (ha : Ev ta σ H (.ref a)) (h : H a = some (.lst xs)) : Ev (tCB (rIsi K) (tCons ta (tCons (tC (.ty "list")) tNil))) σ H (.bl true) := ev_isi ha ev_c (.ty _) (fun _ e => .base (.lst (e _ _ h))) kit_ll
theorem ev_ttT (ha : Ev ta σ H (.ref a)) (h : H a = some (.tup xs)) : Ev (tCB (rIsi K) (tCons ta (tCons (tC (.ty "tuple")) tNil))) σ H (.bl true) := ev_isi ha ev_c (.ty _) (fun _ e => .base (.tup (e _ _ h))) kit_tt
end
section
variable {P : Program} {K : PySem.W.Frag} {w : World} {base : Heap} {mg : Str → Option Value}
/-! ### _law_is_integer -/
theorem scIsi : FnScope ["_law_actual"] ["_law_actual"] (defScope sIsi) := ⟨rfl, rfl, rfl, by decide +kernel, rfl, by decide +kernel, by decide +kernel⟩
def spIsi : Sp := fun vs H Q _ => ∃ i : Int, vs = [.int i] ∧ RetV (.bl true) H Q
theorem sv_isi {H : Hp} {i : Int} : SpV spIsi [.int i] H (.bl true) := fun H1 e Q q _ => ⟨i, rfl, q⟩
theorem ok_isi {f : Addr} {fd : FuncData} (F : Fun K "_law_is_integer" "_law_is_integer" sIsi f fd) (T : Txt mg) : FnOk P w K mg base CX0 1 f fd ["_law_actual"] spIsi := by
  refine F.ok scIsi (fun vs H Q E h => ?_) (fun cdv A outer s H vs Q E hr h => ?_)
  · obtain ⟨i, rfl, _⟩ := h
    rfl
  · obtain ⟨i, rfl, q⟩ := h
    refine ⟨_, pss_one (ps_ret (pe_and (pe_isi T (pv 0) (pe_ty (by rfl) T.int bt_int)) (pe_one (pe_not (pe_isi T (pv 0) (pe_ty (by rfl) T.bool bt_bool)))))), ?_⟩
    exact s_ret (ev_andV (ev_iiT (ev_var rfl)) fun _ => ev_notV (ev_ibF (ev_var rfl))) q
/-! ### _law_integers -/
theorem scIns : FnScope ["_law_actual", "_law_count", "_law_part"] ["_law_actual", "_law_count"] (defScope sIns) := ⟨rfl, rfl, rfl, by decide +kernel, rfl, by decide +kernel, by decide +kernel⟩
def spIns : Sp := fun vs H Q _ => ∃ (a : Addr) (n : Nat) (g : Nat → Int), vs = [.ref a, .int (n : Int)] ∧ H a = some (.lst (ivec n g)) ∧ RetV (.bl true) H Q
theorem sv_ins {H : Hp} {a : Addr} {n : Nat} {g : Nat → Int} (hA : H a = some (.lst (ivec n g))) : SpV spIns [.ref a, .int (n : Int)] H (.bl true) := fun H1 e Q q _ => ⟨a, n, g, rfl, e _ _ hA, q⟩
theorem ok_ins {f : Addr} {fd : FuncData} (F : Fun K "_law_integers" "_law_integers" sIns f fd) (T : Txt mg) : FnOk P w K mg base CX0 1 f fd ["_law_actual", "_law_count"] spIns := by
  refine F.ok scIns (fun vs H Q E h => ?_) (fun cdv A outer s H vs Q E hr h => ?_)
  · obtain ⟨a, n, g, rfl, _⟩ := h
    rfl
  · obtain ⟨a, n, g, rfl, hA, q⟩ := h
    refine ⟨_, pss_cons (ps_if (PW.pt (pw_or (pt_not (pt_val (pe_isi T (pv 0) (pe_ty (by rfl) T.list bt_list)))) (pw_or1 (pt_cmpR op_ne (pe_len T (pv 0)) (pv 1) (nomark _))))) (pss_one (ps_ret pe_bl)) pss_nil)
      (pss_cons (ps_for PassesOwn.never rfl (pi_list (pv 0)) (pg_name (i := 2) scIns.nd rfl (.inl rfl))
        (pss_one (ps_if (PW.pt (pw_or (pt_not (pt_val (pe_isi T (pv 2) (pe_ty (by rfl) T.int bt_int)))) (pw_or1 (pt_val (pe_isi T (pv 2) (pe_ty (by rfl) T.bool bt_bool)))))) (pss_one (ps_ret pe_bl)) pss_nil)))
      (pss_one (ps_ret pe_bl))), ?_⟩
    refine q_when (et_or (et_not (et_B (ev_llT (ev_var rfl) hA))) fun _ => et_test (ev_op (ev_lenR (n := n) (ev_var rfl) (sq_of hA)) (ev_var rfl) (rv_ne rfl))) (fun z => ?_) fun _ H1 e1 => ?_
    · rw [decide_eq_true rfl] at z
      cases z
    refine q_forLn (xs := ivec n g) (ev_var rfl) (sq_of (e1 _ _ hA)) (fun k σ' H' => Ex H H' ∧ ∃ x2, σ' = [some (.ref a), some (.int (n : Int)), x2]) (fun H2 e2 => ⟨e1.trans e2, _, rfl⟩) (fun k σ' H' _ p => sq_of (p.1 _ _ hA)) (fun k x σ' H' hx p => ?_) (fun σ' H' p => ?_)
    · obtain ⟨eh, x2, rfl⟩ := p
      obtain ⟨hk, rfl⟩ := lr_inv hx
      exact s_when (et_or (et_not (et_B (ev_iiT (ev_var rfl)))) fun _ => et_B (ev_ibF (ev_var rfl))) (fun z => nomatch z) fun _ H3 e3 => ⟨eh.trans e3, _, rfl⟩
    · obtain ⟨eh, x2, rfl⟩ := p
      exact s_ret ev_c fun H3 e3 => q H3 (eh.trans e3)
/-! ### _law_market_size -/
theorem scSiz : FnScope ["_law_shape", "_law_kind"] ["_law_shape"] (defScope sSiz) := ⟨rfl, rfl, rfl, by decide +kernel, rfl, by decide +kernel, by decide +kernel⟩
def RetU (xs : List V) (H : Hp) (Q : VK) : Prop := ∀ p H2, H p = none → Ex H H2 → H2 p = some (.tup xs) → Q (.ref p) H2
def spSiz : Sp := fun vs H Q _ => ∃ c : Int, vs = [.int c] ∧ RetU [.int (count c), .int (size c)] H Q
theorem RetU.go {xs : List V} {H H' : Hp} {Q : VK} (k : RetU xs H Q) (e : Ex H H') {p : Addr} {H2 : Hp} (hp : H' p = none) (e2 : Ex H' H2) (h : H2 p = some (.tup xs)) : Q (.ref p) H2 := k p H2 (fresh_back e hp) (e.trans e2) h
theorem eu_call {σ : L2.St} {H : Hp} {sp : Sp} {vs xs : List V} {E : XK} {ta : TA} (h : EvA ta σ H vs) (hs : ∀ H1, Ex H H1 → ∀ Q : VK, RetU xs H1 Q → ∀ E : XK, sp (vs ++ []) H1 Q E) : EvU (tCall sp [] E ta) σ H xs :=
  fun Ha ea Q q => h Ha ea _ fun Hb eb => hs Hb (ea.trans eb) Q (fun t Hc ht ec hc => q t Hc (fresh_back eb ht) (eb.trans ec) hc) E
/-- [..][i] -/
theorem ev_menu {σ : L2.St} {H : Hp} {ta : TA} {tb : TE} {xs : List V} {k : Nat} {v : V} (h : EvA ta σ H xs) (hl : xs.length ≤ 100000) (hb : Ev tb σ H (.int (k : Int))) (hv : xs[k]? = some v) : Ev (tOp (rIxL K) (tLst ta) tb) σ H v :=
  ev_opL1 (el_lst h hl) (fun _ e => hb.mono e) fun p H1 hp _ => rv_ixL (sq_of hp) (atI_nat hv)
theorem ok_siz {f : Addr} {fd : FuncData} (F : Fun K "_law_market_size" "_law_market_size" sSiz f fd) (T : Txt mg) : FnOk P w K mg base CX0 1 f fd ["_law_shape"] spSiz := by
  refine F.ok scSiz (fun vs H Q E h => ?_) (fun cdv A outer s H vs Q E hr h => ?_)
  · obtain ⟨c, rfl, _⟩ := h
    rfl
  · obtain ⟨c, rfl, q⟩ := h
    have nd := scSiz.nd
    refine ⟨_, pss_cons (ps_set (i := 1) nd rfl (.inl rfl) (pe_op op_mod (pe_abs T (pv 0)) pe_int))
      (pss_cons (ps_if (pt_cmpR op_eq (pv 1) pe_int (nomark _)) (pss_one (ps_ret (pe_tup (pa_cons (pe_op op_add pe_int (pe_op op_mod (pe_op op_fdiv (pe_abs T (pv 0)) pe_int) pe_int)) (pa_cons pe_int pa_nil))))) pss_nil)
      (pss_cons (ps_if (pt_cmpR op_eq (pv 1) pe_int (nomark _)) (pss_one (ps_ret (pe_tup (pa_cons pe_int (pa_cons pe_int pa_nil))))) pss_nil)
      (pss_one (ps_ret (pe_tup (pa_cons (pe_op op_add pe_int (pe_op op_mod (pe_op op_fdiv (pe_abs T (pv 0)) pe_int) pe_int))
        (pa_cons (pe_ixl (pe_lst (pa_cons pe_int (pa_cons pe_int (pa_cons pe_int pa_nil)))) (pe_op op_mod (pe_op op_fdiv (pe_abs T (pv 0)) pe_int) pe_int)) pa_nil))))))), ?_⟩
    refine q_asg (ev_op (ev_abs (ev_var rfl)) ev_c (rv_I (by decide))) fun H1 e1 => ?_
    refine q_when (et_test (ev_op (ev_var rfl) ev_c (rv_eq rfl))) (fun z H2 e2 => ?_) fun z H2 e2 => ?_
    · have z' : ab c % 5 = 1 := V.int.inj (of_decide_eq_true z)
      have ec : count c = 2 + ab c / 5 % 2 := if_pos z'
      have es : size c = 9999 := if_pos z'
      refine s_retU (eu_tup (ea_cons (ev_op ev_c (ev_op (ev_op (ev_abs (ev_var rfl)) ev_c (rv_I ⟨by decide, by decide⟩)) ev_c (rv_I (by decide))) rv_I0) (ea_cons ev_c ea_nil)) (by show 2 ≤ 100000; omega)) fun p H3 hp e3 h3 => ?_
      rw [ec, es] at q
      exact q.go (e1.trans e2) hp e3 h3
    have z1 : ab c % 5 ≠ 1 := fun y => of_decide_eq_false z (by rw [y])
    refine q_when (et_test (ev_op (ev_var rfl) ev_c (rv_eq rfl))) (fun z H3 e3 => ?_) fun z H3 e3 => ?_
    · have z' : ab c % 5 = 2 := V.int.inj (of_decide_eq_true z)
      have ec : count c = 12 := by
        unfold count
        rw [if_neg z1, if_pos z']
      have es : size c = 30 := by
        unfold size
        rw [if_neg z1, if_pos z']
      refine s_retU (eu_tup (ea_cons ev_c (ea_cons ev_c ea_nil)) (by show 2 ≤ 100000; omega)) fun p H4 hp e4 h4 => ?_
      rw [ec, es] at q
      exact q.go ((e1.trans e2).trans e3) hp e4 h4
    have z2 : ab c % 5 ≠ 2 := fun y => of_decide_eq_false z (by rw [y])
    have ec : count c = 1 + ab c / 5 % 6 := by
      unfold count
      rw [if_neg z1, if_neg z2]
    obtain ⟨k, hk⟩ : ∃ k : Nat, ab c / 30 % 3 = (k : Int) := ⟨(ab c / 30 % 3).toNat, by
      have := Int.emod_nonneg (ab c / 30) (show (3 : Int) ≠ 0 by decide)
      omega⟩
    have hm : ([.int 400, .int 3, .int 40] : List V)[k]? = some (.int (size c)) := by
      have h3 : k < 3 := by
        have := Int.emod_lt_of_pos (ab c / 30) (show (0 : Int) < 3 by decide)
        omega
      unfold size
      rw [if_neg z1, if_neg z2, hk]
      rcases (show k = 0 ∨ k = 1 ∨ k = 2 by omega) with rfl | rfl | rfl <;> rfl
    refine s_retU (eu_tup (ea_cons (ev_op ev_c (ev_op (ev_op (ev_abs (ev_var rfl)) ev_c (rv_I ⟨by decide, by decide⟩)) ev_c (rv_I (by decide))) rv_I0)
      (ea_cons (ev_menu (ea_cons ev_c (ea_cons ev_c (ea_cons ev_c ea_nil))) (by show 3 ≤ 100000; omega) (ev_is (ev_op (ev_op (ev_abs (ev_var rfl)) ev_c (rv_I ⟨by decide, by decide⟩)) ev_c (rv_I (by decide))) (by rw [hk])) hm) ea_nil)) (by show 2 ≤ 100000; omega)) fun p H4 hp e4 h4 => ?_
    rw [ec] at q
    exact q.go ((e1.trans e2).trans e3) hp e4 h4
end
end Fb
namespace Fb
open PySem PySem.Spec PyProof.Rows L2 Evl
/-- d * int(d % 3 == 1) -/
theorem ev_thin {σ : L2.St} {H : Hp} {ta : TE} {d : Int} (h : Ev ta σ H (.int d)) :
    Ev (tOp (rI CMul fun i j => .int (i * j)) ta (tCB rInt (tCons (tOp rEq (tOp (rI (fun _ j => 0 < j) fun i j => .int (i % j)) ta (tC (.int 3))) (tC (.int 1))) tNil))) σ H (.int (thin d)) := by
  refine ev_is (ev_op h (ev_intB (ev_op (ev_op h ev_c (rv_I (by decide))) ev_c (rv_eq rfl))) (rv_I (.inr ?_))) ?_
  · split <;> decide
  · unfold thin
    by_cases z : d % 3 = 1
    · rw [decide_eq_true (congrArg V.int z), if_pos rfl, if_pos z]
    · rw [decide_eq_false (fun y => z (V.int.inj y)), if_neg Bool.false_ne_true, if_neg z]
section
variable {P : Program} {K : PySem.W.Frag} {w : World} {base : Heap} {mg : Str → Option Value}
/-! ### _law_row -/
theorem scRow : FnScope ["_law_cell_here", "_law_shape", "_law_payer", "_law_count", "_law_size", "_law_draws_here", "_law_draw"] ["_law_cell_here", "_law_shape", "_law_payer", "_law_count", "_law_size"] (defScope sRow) := ⟨rfl, rfl, rfl, by decide +kernel, rfl, by decide +kernel, by decide +kernel⟩
def spRow : Sp := fun vs H Q _ => ∃ (c shape : Int) (p n : Nat) (s : Int), vs = [.int c, .int shape, .int (p : Int), .int (n : Int), .int s] ∧ p < n ∧ n ≤ 13 ∧ (3 ≤ s ∧ s ≤ 9999) ∧ RetL (ivec n (cellR c shape p n s)) H Q
theorem sl_row {H : Hp} {c shape : Int} {p n : Nat} {s : Int} (hp : p < n) (hn : n ≤ 13) (hs : 3 ≤ s ∧ s ≤ 9999) : SpL spRow [.int c, .int shape, .int (p : Int), .int (n : Int), .int s] H (ivec n (cellR c shape p n s)) := fun H1 e Q q _ => ⟨c, shape, p, n, s, rfl, hp, hn, hs, q⟩
theorem ok_row {f : Addr} {fd : FuncData} (F : Fun K "_law_row" "_law_row" sRow f fd) (T : Txt mg) (C1 : Cal P w K mg base "_law_draws" 1 ["_law_cell_here", "_law_count", "_law_size"] spDrw) : FnOk P w K mg base CX0 2 f fd ["_law_cell_here", "_law_shape", "_law_payer", "_law_count", "_law_size"] spRow := by
  refine F.ok scRow (fun vs H Q E h => ?_) (fun cdv A outer s H vs Q E hr h => ?_)
  · obtain ⟨c, shape, p, n, s, rfl, _⟩ := h
    rfl
  · obtain ⟨c, shape, p, n, s, rfl, hp, hn, hs, q⟩ := h
    have nd := scRow.nd
    refine ⟨_, pss_cons (ps_set (i := 5) nd rfl (.inl rfl) (pe_fn C1 hr (pa_cons (pv 0) (pa_cons (pv 3) (pa_cons (pe_op op_add (pv 4) pe_int) pa_nil)))))
      (pss_cons (ps_if (pt_cmpR op_eq (pe_op op_mod (pe_abs T (pv 1)) pe_int) pe_int (nomark _))
        (pss_cons (ps_setLc (i := 5) (own := [("_law_draw", 6)]) (g := gName 6) (tt := tYes) (te := tOp (rI (fun _ j => 0 < j) fun i j => .int (i % j)) (tCB rInt (tCons (tVar 6) tNil)) (tC (.int 2))) rfl nd rfl rfl (sw_true rfl rfl rfl (by decide +kernel)) (pi_list (pv 5)) (blkOk_by (by kernel_rfl)) (fun _ _ _ _ _ => pg_name (i := 6) nd rfl (Or.inl rfl)) (fun _ _ _ _ _ => pts_nil) (fun _ _ _ _ _ => ?el1))
        (pss_one (ps_asg (pv 4) (pg_sub (pv 5) (pe_op op_mod (pe_int' T (pe_op op_add (pv 2) pe_int)) (pv 3)) set_list)))) pss_nil)
      (pss_cons (ps_if (pt_cmpR op_eq (pe_op op_mod (pe_abs T (pv 1)) pe_int) pe_int (nomark _))
        (pss_one (ps_setLc (i := 5) (own := [("_law_draw", 6)]) (g := gName 6) (tt := tYes) (te := tOp (rI CMul fun i j => .int (i * j)) (tVar 6) (tCB rInt (tCons (tOp rEq (tOp (rI (fun _ j => 0 < j) fun i j => .int (i % j)) (tVar 6) (tC (.int 3))) (tC (.int 1))) tNil))) rfl nd rfl rfl (sw_true rfl rfl rfl (by decide +kernel)) (pi_list (pv 5)) (blkOk_by (by kernel_rfl)) (fun _ _ _ _ _ => pg_name (i := 6) nd rfl (Or.inl rfl)) (fun _ _ _ _ _ => pts_nil) (fun _ _ _ _ _ => ?el2))) pss_nil)
      (pss_cons (ps_asg pe_int (pg_sub (pv 5) (pv 2) set_list))
      (pss_one (ps_ret (pv 5)))))), ?_⟩
    case el1 => exact pe_op op_mod (pe_int' T (pv 6)) pe_int
    case el2 => exact pe_op op_mul (pv 6) (pe_int' T (pe_cmpR op_eq (pe_op op_mod (pv 6) pe_int) pe_int (nomark _)))
    refine q_asgL (el_call (ea_cons (ev_var rfl) (ea_cons (ev_var rfl) (ea_cons (ev_op (ev_var rfl) ev_c rv_I0) ea_nil))) (sl_drw (by omega) ⟨by omega, by omega⟩)) fun L H1 hL e1 h1 => ?_
    refine q_when (et_test (ev_op (ev_op (ev_abs (ev_var rfl)) ev_c (rv_I (by decide))) ev_c (rv_eq rfl))) (fun z H2 e2 => ?_) fun z H2 e2 => ?_
    · -- a great debt to the next one
      have z' : ab shape % 5 = 3 := V.int.inj (of_decide_eq_true z)
      refine q_asgL (el_vecL (n := n) (g := fun i => V.int (draw c (s + 1) i)) (fun i => V.int (draw c (s + 1) i % 2)) (ev_var rfl) (sq_of (e2 _ _ h1)) (by omega) (fun _ => rfl) fun i H3 e3 hi => ev_op (ev_int (ev_var rfl)) ev_c (rv_I (by decide))) fun M H3 hM e3 h3 => ?_
      obtain ⟨j, hj⟩ : ∃ j : Nat, j = (p + 1) % n := ⟨_, rfl⟩
      have hjn : j < n := by
        rw [hj]
        exact Nat.mod_lt _ (by omega)
      have ej : ((p : Int) + 1) % (n : Int) = (j : Int) := by
        rw [hj, Int.natCast_emod, Int.natCast_add]
        rfl
      refine s_setL (j := j) h3 (ev_var rfl) (ev_var rfl) (ev_is (ev_op (ev_int (ev_op (ev_var rfl) ev_c rv_I0)) (ev_var rfl) (rv_I (by omega))) (by rw [ej])) (by rw [lr_len]; exact hjn) fun H4 e4 => ?_
      have hM0 : H M = none := fresh_back (e1.trans e2) hM
      have ex : Ex H (upd H4 M (.lst ((ivec n fun i => draw c (s + 1) i % 2).set j (.int s)))) := Ex.mut (((e1.trans e2).trans e3).trans e4) hM0
      refine q_when (et_test (ev_op (ev_op (ev_abs (ev_var rfl)) ev_c (rv_I (by decide))) ev_c (rv_eq rfl))) (fun y => ?_) fun _ H5 e5 => ?_
      · have y' : ab shape % 5 = 4 := V.int.inj (of_decide_eq_true y)
        omega
      have h5 := e5 _ _ (upd_same (H := H4) (a := M) (o := .lst ((ivec n fun i => draw c (s + 1) i % 2).set j (.int s))))
      refine q_setL (j := p) h5 ev_c (ev_var rfl) (ev_var rfl) (by rw [List.length_set, lr_len]; exact hp) fun H6 e6 => ?_
      have e : ((ivec n fun i => draw c (s + 1) i % 2).set j (.int s)).set p (.int 0) = ivec n (cellR c shape p n s) := by
        rw [lr_set, lr_set]
        refine lr_congr fun i hi => ?_
        try dsimp only
        unfold cellR
        by_cases a1 : i = p
        · rw [if_pos a1, if_pos a1]
        · rw [if_neg a1, if_neg a1, if_pos z', ← hj]
          by_cases a2 : i = j
          · rw [if_pos a2, if_pos a2]
          · rw [if_neg a2, if_neg a2]
      rw [e]
      exact s_ret (ev_var rfl) fun H7 e7 => q M H7 hM0 ((Ex.mut ((ex.trans e5).trans e6) hM0).trans e7) (e7 _ _ upd_same)
    have z1 : ab shape % 5 ≠ 3 := fun y => of_decide_eq_false z (by rw [y])
    refine q_when (et_test (ev_op (ev_op (ev_abs (ev_var rfl)) ev_c (rv_I (by decide))) ev_c (rv_eq rfl))) (fun y H3 e3 => ?_) fun y H3 e3 => ?_
    · -- most debts zero
      have y' : ab shape % 5 = 4 := V.int.inj (of_decide_eq_true y)
      refine s_asgL (el_vecL (n := n) (g := fun i => V.int (draw c (s + 1) i)) (fun i => V.int (thin (draw c (s + 1) i))) (ev_var rfl) (sq_of (e3 _ _ (e2 _ _ h1))) (by omega) (fun _ => rfl) fun i H4 e4 hi => ev_thin (ev_var rfl)) fun M H4 hM e4 h4 => ?_
      have e03 := (e1.trans e2).trans e3
      have hM0 : H M = none := fresh_back e03 hM
      refine q_setL (j := p) h4 ev_c (ev_var rfl) (ev_var rfl) (by rw [lr_len]; exact hp) fun H6 e6 => ?_
      have e : (ivec n fun i => thin (draw c (s + 1) i)).set p (.int 0) = ivec n (cellR c shape p n s) := by
        rw [lr_set]
        refine lr_congr fun i hi => ?_
        try dsimp only
        unfold cellR
        by_cases a1 : i = p
        · rw [if_pos a1, if_pos a1]
        · rw [if_neg a1, if_neg a1, if_neg z1, if_pos y']
      rw [e]
      exact s_ret (ev_var rfl) fun H7 e7 => q M H7 hM0 ((Ex.mut ((e03.trans e4).trans e6) hM0).trans e7) (e7 _ _ upd_same)
    · have y1 : ab shape % 5 ≠ 4 := fun x => of_decide_eq_false y (by rw [x])
      have e03 := (e1.trans e2).trans e3
      have h3 := e3 _ _ (e2 _ _ h1)
      refine q_setL (j := p) h3 ev_c (ev_var rfl) (ev_var rfl) (by rw [lr_len]; exact hp) fun H6 e6 => ?_
      have e : (ivec n (draw c (s + 1))).set p (.int 0) = ivec n (cellR c shape p n s) := by
        rw [lr_set]
        refine lr_congr fun i hi => ?_
        try dsimp only
        unfold cellR
        by_cases a1 : i = p
        · rw [if_pos a1, if_pos a1]
        · rw [if_neg a1, if_neg a1, if_neg z1, if_neg y1]
      rw [e]
      exact s_ret (ev_var rfl) fun H7 e7 => q L H7 hL ((Ex.mut (e03.trans e6) hL).trans e7) (e7 _ _ upd_same)
/-! ### _law_market -/
theorem scMkt : FnScope ["_law_script", "_law_shape", "_law_count", "_law_size", "_law_k"] ["_law_script"] (defScope sMkt) := ⟨rfl, rfl, rfl, by decide +kernel, rfl, by decide +kernel, by decide +kernel⟩
abbrev mN (ns : List Int) : Nat := (count (cell ns 0)).toNat
def spMkt (K : PySem.W.Frag) : Sp := fun vs H Q _ => ∃ (a : Addr) (ns : List Int), vs = [.ref a] ∧ SqL K H a (ns.map V.int) ∧ RetM (mN ns) (market ns) H Q
theorem sm_mkt {H : Hp} {a : Addr} {ns : List Int} (hS : SqL K H a (ns.map V.int)) : SpM (spMkt K) [.ref a] H (mN ns) (market ns) := fun H1 e Q q _ => ⟨a, ns, rfl, ex_l e hS, q⟩
theorem ok_mkt {f : Addr} {fd : FuncData} (F : Fun K "_law_market" "_law_market" sMkt f fd) (T : Txt mg) (C1 : Cal P w K mg base "_law_cell" 1 ["_law_script", "_law_k"] (spCel K)) (C2 : Cal P w K mg base "_law_market_size" 1 ["_law_shape"] spSiz)
    (C3 : Cal P w K mg base "_law_row" 2 ["_law_cell_here", "_law_shape", "_law_payer", "_law_count", "_law_size"] spRow) : FnOk P w K mg base CX0 3 f fd ["_law_script"] (spMkt K) := by
  refine F.ok scMkt (fun vs H Q E h => ?_) (fun cdv A outer s H vs Q E hr h => ?_)
  · obtain ⟨a, ns, rfl, _⟩ := h
    rfl
  · obtain ⟨a, ns, rfl, hS, q⟩ := h
    have nd := scMkt.nd
    have hr1 : Room 1 (A.deeper (envOfC "_law_market" (defScope sMkt) s.heap.objs.size f cdv)) := hr.mono (by decide)
    refine ⟨_, pss_cons (ps_set (i := 1) nd rfl (.inr rfl) (pe_fn C1 hr1 (pa_cons (pv 0) (pa_cons pe_int pa_nil))))
      (pss_cons (ps_asg (pe_fn C2 hr1 (pa_cons (pv 1) pa_nil)) (pg_tup rfl (pgs_cons (pg_name (i := 2) nd rfl (.inr rfl)) (pgs_cons (pg_name (i := 3) nd rfl (.inr rfl)) pgs_nil))))
      (pss_one (ps_ret (pe_lc (own := [("_law_k", 4)]) (g := gName 4) (tt := tYes)
        (te := tCall spRow [] E0 (tCons (tCall (spCel K) [] E0 (tCons (tVar 0) (tCons (tOp (rI0 fun i j => .int (i + j)) (tC (.int 3)) (tVar 4)) tNil))) (tCons (tVar 1) (tCons (tVar 4) (tCons (tVar 2) (tCons (tVar 3) tNil))))))
        rfl nd (pi_rng T (pv 2)) (blkOk_by (by kernel_rfl)) (fun _ _ _ _ _ => pg_name (i := 4) nd rfl (Or.inl rfl)) (fun _ _ _ _ _ => pts_nil) (fun _ _ _ _ _ => ?el))))), ?_⟩
    case el => exact pe_fn C3 hr (pa_cons (pe_fn C1 hr1 (pa_cons (pv 0) (pa_cons (pe_op op_add pe_int (pv 4)) pa_nil))) (pa_cons (pv 1) (pa_cons (pv 4) (pa_cons (pv 2) (pa_cons (pv 3) pa_nil)))))
    have hc := count_bd (cell ns 0)
    have hs := size_bd (cell ns 0)
    have hn : ((mN ns : Nat) : Int) = count (cell ns 0) := Int.toNat_of_nonneg (by omega)
    refine q_asg (ev_call (ea_cons (ev_var rfl) (ea_cons ev_c ea_nil)) (sv_cel (k := 0) hS)) fun H1 e1 => ?_
    have hu : EvU (tCall spSiz [] E0 (tCons (tVar 1) tNil)) ((start ["_law_script", "_law_shape", "_law_count", "_law_size", "_law_k"] [V.ref a]).set 1 (some (.int (cell ns 0)))) H1 [.int (count (cell ns 0)), .int (size (cell ns 0))] := eu_call (ea_cons (ev_var rfl) ea_nil) fun H2 e2 Q q _ => ⟨_, rfl, q⟩
    refine hu H1 (Ex.refl H1) _ fun t H2 ht e2 h2 => ?_
    refine ⟨t, _, rfl, st_of h2, rfl, _, _, rfl, _, _, rfl, rfl, ?_⟩
    have e02 := e1.trans e2
    refine s_retM (em_rng (n := mN ns) (ea_cons (ev_is (ev_var rfl) (by rw [hn])) ea_nil) (by omega) (fun _ => rfl) fun i H3 e3 hi => ?_) fun p rs H3 hp e3 h3 => q p rs H3 (fresh_back e02 hp) (e02.trans e3) (h3.back e02)
    refine el_call (vs := [.int (cell ns (3 + i)), .int (cell ns 0), .int (i : Int), .int ((mN ns : Nat) : Int), .int (size (cell ns 0))]) (ea_cons (ev_call (ea_cons (ev_var rfl) (ea_cons (ev_is (ev_op ev_c (ev_var rfl) rv_I0) rfl) ea_nil)) (sv_cel (k := 3 + i) (ex_l (e02.trans e3) hS))) (ea_cons (ev_var rfl) (ea_cons (ev_var rfl) (ea_cons (ev_is (ev_var rfl) (by rw [hn])) (ea_cons (ev_var rfl) ea_nil))))) (sl_row hi (by omega) hs)
/-! ### _law_cash -/
theorem scLch : FnScope ["_law_script", "_law_count", "_law_size", "_law_draws_here", "_law_draw"] ["_law_script", "_law_count"] (defScope sLch) := ⟨rfl, rfl, rfl, by decide +kernel, rfl, by decide +kernel, by decide +kernel⟩
def spLch (K : PySem.W.Frag) : Sp := fun vs H Q _ => ∃ (a : Addr) (ns : List Int) (n : Nat), vs = [.ref a, .int (n : Int)] ∧ SqL K H a (ns.map V.int) ∧ n ≤ 100 ∧ RetL (ivec n (cash ns)) H Q
theorem sl_lch {H : Hp} {a : Addr} {ns : List Int} {n : Nat} (hS : SqL K H a (ns.map V.int)) (hn : n ≤ 100) : SpL (spLch K) [.ref a, .int (n : Int)] H (ivec n (cash ns)) := fun H1 e Q q _ => ⟨a, ns, n, rfl, ex_l e hS, hn, q⟩
theorem ok_lch {f : Addr} {fd : FuncData} (F : Fun K "_law_cash" "_law_cash" sLch f fd) (T : Txt mg) (C1 : Cal P w K mg base "_law_cell" 1 ["_law_script", "_law_k"] (spCel K)) (C2 : Cal P w K mg base "_law_draws" 1 ["_law_cell_here", "_law_count", "_law_size"] spDrw) : FnOk P w K mg base CX0 2 f fd ["_law_script", "_law_count"] (spLch K) := by
  refine F.ok scLch (fun vs H Q E h => ?_) (fun cdv A outer s H vs Q E hr h => ?_)
  · obtain ⟨a, ns, n, rfl, _⟩ := h
    rfl
  · obtain ⟨a, ns, n, rfl, hS, hn, q⟩ := h
    have nd := scLch.nd
    refine ⟨_, pss_cons (ps_set (i := 2) nd rfl (.inl rfl) (pe_ixl (pe_lst (pa_cons pe_int (pa_cons pe_int (pa_cons pe_int (pa_cons pe_int (pa_cons pe_int pa_nil)))))) (pe_op op_mod (pe_abs T (pe_fn C1 hr (pa_cons (pv 0) (pa_cons pe_int pa_nil)))) pe_int)))
      (pss_cons (ps_set (i := 3) nd rfl (.inl rfl) (pe_fn C2 hr (pa_cons (pe_fn C1 hr (pa_cons (pv 0) (pa_cons pe_int pa_nil))) (pa_cons (pv 1) (pa_cons (pv 2) pa_nil)))))
      (pss_cons (ps_if (pt_cmpR op_eq (pe_op op_mod (pe_op op_fdiv (pe_abs T (pe_fn C1 hr (pa_cons (pv 0) (pa_cons pe_int pa_nil)))) pe_int) pe_int) pe_int (nomark _))
        (pss_one (ps_setLc (i := 3) (own := [("_law_draw", 4)]) (g := gName 4) (tt := tYes) (te := tOp (rI CMul fun i j => .int (i * j)) (tVar 4) (tCB rInt (tCons (tOp rEq (tOp (rI (fun _ j => 0 < j) fun i j => .int (i % j)) (tVar 4) (tC (.int 3))) (tC (.int 1))) tNil))) rfl nd rfl rfl (sw_true rfl rfl rfl (by decide +kernel)) (pi_list (pv 3)) (blkOk_by (by kernel_rfl)) (fun _ _ _ _ _ => pg_name (i := 4) nd rfl (Or.inl rfl)) (fun _ _ _ _ _ => pts_nil) (fun _ _ _ _ _ => ?el))) pss_nil)
      (pss_one (ps_ret (pv 3))))), ?_⟩
    case el => exact pe_op op_mul (pv 4) (pe_int' T (pe_cmpR op_eq (pe_op op_mod (pv 4) pe_int) pe_int (nomark _)))
    obtain ⟨k, hk⟩ : ∃ k : Nat, ab (cell ns 1) % 5 = (k : Int) := ⟨(ab (cell ns 1) % 5).toNat, by
      have := Int.emod_nonneg (ab (cell ns 1)) (show (5 : Int) ≠ 0 by decide)
      omega⟩
    have hm : ([.int 1, .int 4, .int 60, .int 600, .int 1000000001] : List V)[k]? = some (.int (csize (cell ns 1))) := by
      have h3 : k < 5 := by
        have := Int.emod_lt_of_pos (ab (cell ns 1)) (show (0 : Int) < 5 by decide)
        omega
      unfold csize
      rw [hk]
      rcases (show k = 0 ∨ k = 1 ∨ k = 2 ∨ k = 3 ∨ k = 4 by omega) with rfl | rfl | rfl | rfl | rfl <;> rfl
    have hs := csize_bd (cell ns 1)
    refine q_asg (ev_menu (ea_cons ev_c (ea_cons ev_c (ea_cons ev_c (ea_cons ev_c (ea_cons ev_c ea_nil))))) (by show 5 ≤ 100000; omega) (ev_is (ev_op (ev_abs (ev_call (ea_cons (ev_var rfl) (ea_cons ev_c ea_nil)) (sv_cel (k := 1) hS))) ev_c (rv_I (by decide))) (by rw [hk])) hm) fun H1 e1 => ?_
    refine q_asgL (el_call (vs := [.int (cell ns 2), .int (n : Int), .int (csize (cell ns 1))]) (ea_cons (ev_call (ea_cons (ev_var rfl) (ea_cons ev_c ea_nil)) (sv_cel (k := 2) (ex_l e1 hS))) (ea_cons (ev_var rfl) (ea_cons (ev_var rfl) ea_nil))) (sl_drw hn ⟨by omega, by omega⟩)) fun L H2 hL e2 h2 => ?_
    have e02 := e1.trans e2
    refine q_when (et_test (ev_op (ev_op (ev_op (ev_abs (ev_call (ea_cons (ev_var rfl) (ea_cons ev_c ea_nil)) (sv_cel (k := 1) (ex_l e02 hS)))) ev_c (rv_I ⟨by decide, by decide⟩)) ev_c (rv_I (by decide))) ev_c (rv_eq rfl))) (fun z H3 e3 => ?_) fun z H3 e3 => ?_
    · have z' : ab (cell ns 1) / 5 % 3 = 1 := V.int.inj (of_decide_eq_true z)
      have e : ivec n (cash ns) = ivec n fun i => thin (draw (cell ns 2) (csize (cell ns 1)) i) := lr_congr fun i hi => by
        dsimp only
        unfold cash
        rw [if_pos z']
      rw [e] at q
      refine s_asgL (el_vecL (n := n) (g := fun i => V.int (draw (cell ns 2) (csize (cell ns 1)) i)) (fun i => V.int (thin (draw (cell ns 2) (csize (cell ns 1)) i))) (ev_var rfl) (sq_of (e3 _ _ h2)) (by omega) (fun _ => rfl) fun i H4 e4 hi => ev_thin (ev_var rfl)) fun M H4 hM e4 h4 => ?_
      have e03 := e02.trans e3
      exact s_ret (ev_var rfl) fun H5 e5 => q M H5 (fresh_back e03 hM) (e03.trans (e4.trans e5)) (e5 _ _ h4)
    · have z1 : ab (cell ns 1) / 5 % 3 ≠ 1 := fun y => of_decide_eq_false z (by rw [y])
      have e : ivec n (cash ns) = ivec n fun i => draw (cell ns 2) (csize (cell ns 1)) i := lr_congr fun i hi => by
        dsimp only
        unfold cash
        rw [if_neg z1]
      rw [e] at q
      exact s_ret (ev_var rfl) fun H5 e5 => q L H5 (fresh_back e1 hL) (e02.trans (e3.trans e5)) (e5 _ _ (e3 _ _ h2))
end
end Fb
namespace Fb
open PySem PySem.Spec PyProof.Rows L2 Evl
theorem take_next {α : Type} {l : List α} {i : Nat} {x : α} (h : l[i]? = some x) : l.take (i + 1) = l.take i ++ [x] := by
  rw [List.take_add_one, h]
  rfl
theorem ev_lenT {K : PySem.W.Frag} {σ : L2.St} {H : Hp} {ta : TE} {p : Addr} {xs : List V} (ha : Ev ta σ H (.ref p)) (h : SqT K H p xs) : Ev (tCB (rLenS K) (tCons ta tNil)) σ H (.int (xs.length : Int)) := fun H1 e Q q =>
  ha H1 e _ fun H2 e2 => ⟨p, xs, rfl, Or.inr (ex_t (e.trans e2) h), q H2 e2⟩
theorem ev_ixT {K : PySem.W.Frag} {σ : L2.St} {H : Hp} {ta tb : TE} {p : Addr} {xs : List V} {k : Nat} {v : V} (ha : Ev ta σ H (.ref p)) (hb : Ev tb σ H (.int (k : Int))) (h : SqT K H p xs) (hv : xs[k]? = some v) : Ev (tOp (rIxT K) ta tb) σ H v := ev_op ha hb (rv_ixT h (atI_nat hv))
section
variable {P : Program} {K : PySem.W.Frag} {w : World} {base : Heap} {mg : Str → Option Value}
/-! ### _law_debts -/
theorem scDbt : FnScope ["_law_payments", "_law_count", "_law_debts_here", "_law_payment", "_law_part", "_law_house"] ["_law_payments", "_law_count"] (defScope sDbt) := ⟨rfl, rfl, rfl, by decide +kernel, rfl, by decide +kernel, by decide +kernel⟩
def RetT (n : Nat) (f : Nat → Nat → Int) (H : Hp) (Q : VK) : Prop := ∀ p H2, Ex H H2 → Tab H2 p n f → Q (.ref p) H2
def spDbt : Sp := fun vs H Q _ => ∃ (a : Addr) (n : Nat) (v : Nat → Int) (ps : List Pay), vs = [.ref a, .int (n : Int)] ∧ PayAt H a ps ∧ n ≤ 13 ∧ (∀ q ∈ ps, Fits n v q) ∧ RetT n (owes ps) H Q
theorem ok_dbt {f : Addr} {fd : FuncData} (F : Fun K "_law_debts" "_law_debts" sDbt f fd) (T : Txt mg) (C1 : Cal P w K mg base "_law_is_integer" 1 ["_law_actual"] spIsi) : FnOk P w K mg base CX0 2 f fd ["_law_payments", "_law_count"] spDbt := by
  refine F.ok scDbt (fun vs H Q E h => ?_) (fun cdv A outer s H vs Q E hr h => ?_)
  · obtain ⟨a, n, v, ps, rfl, _⟩ := h
    rfl
  · obtain ⟨a, n, v, ps, rfl, ⟨ts, hP⟩, hn, hf, q⟩ := h
    have nd := scDbt.nd
    refine ⟨_, pss_cons (ps_setLc (i := 2) (own := [("_law_house", 5)]) (g := gName 5) (tt := tYes) (te := tLc (iRng1 (tCons (tVar 1) tNil)) (gName 5) tYes (tC (.int 0)) [5]) rfl nd rfl rfl (sw_true rfl rfl rfl (by decide +kernel)) (pi_rng T (pv 1)) (blkOk_by (by kernel_rfl)) (fun _ _ _ _ _ => pg_name (i := 5) nd rfl (Or.inl rfl)) (fun _ _ _ _ _ => pts_nil) (fun _ _ _ _ _ => ?el))
      (pss_cons (ps_if (pt_not (pt_val (pe_isi T (pv 0) (pe_ty (by rfl) T.list bt_list)))) (pss_one (ps_ret pe_non)) pss_nil)
      (pss_cons (ps_for PassesOwn.never rfl (pi_list (pv 0)) (pg_name (i := 3) nd rfl (.inl rfl))
        (pss_cons (ps_if (PW.pt (pw_or (pt_not (pt_val (pe_isi T (pv 3) (pe_ty (by rfl) T.tuple bt_tuple)))) (pw_or1 (pt_cmpR op_ne (pe_len T (pv 3)) pe_int (nomark _))))) (pss_one (ps_ret pe_non)) pss_nil)
        (pss_cons (ps_for PassesOwn.never rfl (pi_tup (pv 3)) (pg_name (i := 4) nd rfl (.inl rfl))
          (pss_one (ps_if (PW.pt (pw_or (pt_not (pt_val (pe_fn C1 hr (pa_cons (pv 4) pa_nil)))) (pw_or1 (pt_cmpR op_lt (pv 4) pe_int (nomark _))))) (pss_one (ps_ret pe_non)) pss_nil)))
        (pss_cons (ps_if (PW.pt (pw_or (pt_cmpR op_ge (pe_ixt (pv 3) pe_int) (pv 1) (nomark _)) (pw_or1 (pt_cmpR op_ge (pe_ixt (pv 3) pe_int) (pv 1) (nomark _))))) (pss_one (ps_ret pe_non)) pss_nil)
        (pss_one (ps_asg (pe_op op_add (pe_ixl (pe_ixl (pv 2) (pe_ixt (pv 3) pe_int)) (pe_ixt (pv 3) pe_int)) (pe_ixt (pv 3) pe_int)) (pg_sub (pe_ixl (pv 2) (pe_ixt (pv 3) pe_int)) (pe_ixt (pv 3) pe_int) set_list)))))))
      (pss_one (ps_ret (pv 2))))), ?_⟩
    case el =>
      refine pe_lc (own := [("_law_house", 5)]) (g := gName 5) (tt := tYes) rfl nd (pi_rng T (pv 1)) (blkOk_by (by kernel_rfl)) (fun _ _ _ _ _ => pg_name (i := 5) nd rfl (Or.inl rfl)) (fun _ _ _ _ _ => pts_nil) (fun _ _ _ _ _ => ?_)
      exact pe_int
    refine q_asgM (n := n) (f := fun _ _ => 0) (em_rng (n := n) (ea_cons (ev_var rfl) ea_nil) (by omega) (fun _ => rfl) fun i H1 e1 hi => el_vecR (n := n) (fun _ => V.int 0) (ea_cons (ev_var rfl) ea_nil) (by omega) (fun _ => rfl) fun j H2 e2 hj => ev_c) fun D rs H1 hD e1 N => ?_
    have hP1 := hP.mono e1
    refine q_when (et_not (et_B (ev_llT (ev_var rfl) hP1.ls))) (fun z => nomatch z) fun _ H2 e2 => ?_
    have hP2 := hP1.mono e2
    refine q_forLn (xs := rvec ps.length ts) (ev_var rfl) (sq_of hP2.ls) (fun k σ' H' => Ex H H' ∧ TabR H' D n rs (owes (ps.take k)) ∧ ∃ x3 x4, σ' = [some (.ref a), some (.int (n : Int)), some (.ref D), x3, x4, none]) (fun H3 e3 => ⟨(e1.trans e2).trans e3, N.toTabR.mono (e2.trans e3), _, _, rfl⟩) (fun k σ' H' _ p => sq_of (p.1 _ _ hP.ls)) (fun k x σ' H' hx p => ?_) (fun σ' H' p => ?_)
    · obtain ⟨ex, tb, x3, x4, rfl⟩ := p
      obtain ⟨hk, rfl⟩ := lr_inv hx
      obtain ⟨y, hy⟩ : ∃ y, ps[k]? = some y := ⟨_, List.getElem?_eq_getElem hk⟩
      have hF := hf y (List.mem_of_getElem? hy)
      have hT0 := hP.tp k y hy
      have hT := ex _ _ hT0
      refine q_when (et_or (et_not (et_B (ev_ttT (ev_var rfl) hT))) fun _ => et_test (ev_op (x := .int 3) (ev_lenT (xs := payT y) (ev_var rfl) (st_of hT)) ev_c (rv_ne rfl))) (fun z => ?_) fun _ H3 e3 => ?_
      · rw [decide_eq_true rfl] at z
        cases z
      have hT3 := e3 _ _ hT
      have ex3 := ex.trans e3
      have tb3 := tb.mono e3
      -- the three parts
      refine q_forT (xs := payT y) (ev_var rfl) (st_of hT3) (fun _ σ' H' => Ex H H' ∧ TabR H' D n rs (owes (ps.take k)) ∧ ∃ x4, σ' = [some (.ref a), some (.int (n : Int)), some (.ref D), some (.ref (ts k)), x4, none]) (fun H4 e4 => ⟨ex3.trans e4, tb3.mono e4, _, rfl⟩) (fun i σ' H' _ p => st_of (p.1 _ _ hT0)) (fun i x σ' H' hx p => ?_) (fun σ' H' p => ?_)
      · obtain ⟨ex', tb', x4, rfl⟩ := p
        obtain ⟨z, rfl, hz⟩ : ∃ z : Int, x = .int z ∧ 0 ≤ z := by
          have h0 := hF.nn
          match i, hx with
          | 0, hx => exact ⟨(y.1 : Int), (Option.some.inj hx).symm, by omega⟩
          | 1, hx => exact ⟨(y.2.1 : Int), (Option.some.inj hx).symm, by omega⟩
          | 2, hx => exact ⟨y.2.2, (Option.some.inj hx).symm, h0⟩
          | i + 3, hx => exact absurd hx (by simp [payT])
        refine s_when (et_or (et_not (et_B (ev_call (vs := [.int z]) (ea_cons (ev_var rfl) ea_nil) sv_isi))) fun _ => et_test (ev_op (ev_var rfl) ev_c rv_I0)) (fun c => ?_) fun _ H4 e4 => ⟨ex'.trans e4, tb'.mono e4, _, rfl⟩
        rw [decide_eq_false (show ¬ z < 0 by omega)] at c
        cases c
      · obtain ⟨ex', tb', x4, rfl⟩ := p
        have ha := hF.a
        have hb := hF.b
        have hT' := ex' _ _ hT0
        refine q_when (et_or (et_test (ev_op (ev_ixT (k := 0) (xs := payT y) (v := .int (y.1 : Int)) (ev_var rfl) ev_c (st_of hT') rfl) (ev_var rfl) rv_I0)) fun _ => et_test (ev_op (ev_ixT (k := 1) (xs := payT y) (v := .int (y.2.1 : Int)) (ev_var rfl) ev_c (st_of hT') rfl) (ev_var rfl) rv_I0)) (fun c => ?_) fun _ H4 e4 => ?_
        · rw [decide_eq_false (show ¬ (n : Int) ≤ (y.1 : Int) by omega), decide_eq_false (show ¬ (n : Int) ≤ (y.2.1 : Int) by omega)] at c
          cases c
        have hT4 := e4 _ _ hT'
        have ex4 := ex'.trans e4
        have tb4 := tb'.mono e4
        refine s_setL (l := rs y.1) (xs := ivec n (owes (ps.take k) y.1)) (j := y.2.1) (tb4.rw y.1 ha) (ev_op (ev_ixR (g := fun j => V.int (owes (ps.take k) y.1 j)) (i := y.2.1) (ev_ixR (g := fun i => V.ref (rs i)) (i := y.1) (ev_var rfl) (ev_ixT (k := 0) (xs := payT y) (v := .int (y.1 : Int)) (ev_var rfl) ev_c (st_of hT4) rfl) (sq_of tb4.ls) ha) (ev_ixT (k := 1) (xs := payT y) (v := .int (y.2.1 : Int)) (ev_var rfl) ev_c (st_of hT4) rfl) (sq_of (tb4.rw y.1 ha)) hb) (ev_ixT (k := 2) (xs := payT y) (v := .int y.2.2) (ev_var rfl) ev_c (st_of hT4) rfl) rv_I0)
          (ev_ixR (g := fun i => V.ref (rs i)) (i := y.1) (ev_var rfl) (ev_ixT (k := 0) (xs := payT y) (v := .int (y.1 : Int)) (ev_var rfl) ev_c (st_of hT4) rfl) (sq_of tb4.ls) ha) (ev_ixT (k := 1) (xs := payT y) (v := .int (y.2.1 : Int)) (ev_var rfl) ev_c (st_of hT4) rfl) (by rw [lr_len]; exact hb) fun H5 e5 => ?_
        have tb5 := tb4.mono e5
        refine ⟨Ex.mut (ex4.trans e5) (fresh_back (Ex.refl H) (N.fr y.1 ha)), ⟨by rw [upd_ne (Ne.symm (N.ne y.1 ha))]; exact tb5.ls, fun i hi => ?_⟩, _, _, rfl⟩
        rw [take_next hy]
        by_cases z : i = y.1
        · subst z
          rw [upd_same, lr_set]
          congr 2
          refine lr_congr fun j hj => ?_
          try dsimp only
          rw [owes_snoc]
          by_cases z2 : j = y.2.1
          · rw [if_pos z2, if_pos ⟨rfl, z2.symm⟩, z2]
          · rw [if_neg z2, if_neg (fun c => z2 c.2.symm), Int.add_zero]
        · rw [upd_ne (fun c => z (N.inj i y.1 hi ha c)), tb5.rw i hi]
          congr 2
          refine lr_congr fun j hj => ?_
          try dsimp only
          rw [owes_snoc, if_neg (fun c => z c.1.symm), Int.add_zero]
    · obtain ⟨ex, tb, x3, x4, rfl⟩ := p
      rw [lr_len, List.take_length] at tb
      exact s_ret (ev_var rfl) fun H3 e3 => q D H3 (ex.trans e3) ⟨rs, tb.mono e3⟩
end
end Fb
namespace Fb
open PySem PySem.Spec PyProof.Rows L2 Evl
/-- the block's scope of [list(_law_row_here) for _law_row_here in ..] -/
def cpScope : Scope := { kind := .function, names := [(Str.ofString ".0", .local), (Str.ofString "_law_row_here", .local), (Str.ofString "list", .globalImplicit)], isGenerator := false, isCoroutine := false, more := [] }
abbrev tCopy (K : PySem.W.Frag) (tl : TE) : TE := tLc (iList K tl) (gName 11) tYes (tCB (rListS K) (tCons (tVar 11) tNil)) [11]
theorem pe_copy {X : Cx} {l : Expr} {tl : TE} {p1 p2 p3 p4 pos : Pos} (hc : X.calm = true) (hN : X.N.Nodup) (h11 : X.N[11]? = some (Str.ofString "_law_row_here")) (h0 : (Str.ofString ".0") ∉ X.N) (T : Txt X.mg) (hl : PE X l tl) (hs : ∀ x, foldedSetIterable l X.env x = pure x := by intro _; rfl) :
    PE X (.ListComp (.Call (.Name "list" p1) [.Name "_law_row_here" p2] [] p3) [⟨.Name "_law_row_here" p4, l, [], 0⟩] cpScope pos) (tCopy X.K tl) := by
  refine pe_lc (own := [("_law_row_here", 11)]) (g := gName 11) (tt := tYes) (te := tCB (rListS X.K) (tCons (tVar 11) tNil)) hc hN (pi_list hl) ⟨rfl, by decide +kernel, ?_, ?_, ?_⟩ (fun _ _ _ _ _ => pg_name (i := 11) hN h11 (Or.inl rfl)) (fun _ _ _ _ _ => pts_nil) (fun _ _ _ _ _ => ?_) hs
  · intro p hp
    have e : p = ((Str.ofString "_law_row_here", 11) : Str × Nat) := by simpa using hp
    rw [e]
    exact h11
  · intro y hy e
    exact absurd e (by revert y; decide +kernel)
  · intro y hy e
    have : y = (Str.ofString ".0", .local) ∨ y = (Str.ofString "_law_row_here", .local) ∨ y = (Str.ofString "list", .globalImplicit) := by simpa [cpScope] using hy
    rcases this with rfl | rfl | rfl
    · exact .inr h0
    · exact .inl (by simp)
    · rcases e with e | e <;> cases e
  · exact pe_list T (pv 11 h11 (Or.inl rfl))
theorem ev_isN {σ : L2.St} {H : Hp} {ta : TE} {x : V} (h : Ev ta σ H x) : Ev (tIsN ta) σ H (.bl (decide (x = .non))) := fun H1 e Q q => h H1 e _ q
/-- a loop over a new tuple -/
theorem q_forNT {K : PySem.W.Frag} {σ : L2.St} {H : Hp} {D : Ends} {tu tz : TS} {g : TG} {xs : List V} {tl : TE} (h : EvU tl σ H xs) (Pv : Addr → Nat → L2.St → Hp → Prop) (h0 : ∀ p H1, H p = none → Ex H H1 → H1 p = some (.tup xs) → Pv p 0 σ H1) (hl : ∀ p i σ' H', i ≤ xs.length → Pv p i σ' H' → SqT K H' p xs)
    (hs : ∀ p i x σ' H', xs[i]? = some x → Pv p i σ' H' → g x σ' H' fun σ2 H2 => tu { D with nx := Pv p (i + 1), ct := Pv p (i + 1), bk := tz D } σ2 H2) (hd : ∀ p σ' H', Pv p xs.length σ' H' → tz D σ' H') : tSeq (tFor (iTup K tl) g tu) tz D σ H :=
  h H (Ex.refl H) _ fun p H1 hp e h1 => ⟨p, rfl, ⟨xs, st_of h1⟩, for_tup (D := { D with nx := tz D }) (Pv p) (h0 p H1 hp e h1) (hl p) (hs p) (hd p)⟩
/-- the table of the payments that compress makes -/
theorem q_dbt {σ : L2.St} {H : Hp} {D : Ends} {tz : TS} {te tc : TE} {n i : Nat} {f : Nat → Nat → Int} (em : EvM te σ H n f) (hc : Ev tc σ H (.int (n : Int))) (G : Good 1000000 n f)
    (k : ∀ W ps H2, Ex H H2 → PayOk n (net f n) ps → Tab H2 W n (owes ps) → tz D (σ.set i (some (.ref W))) H2) : tSeq (tAsg (tCall spDbt [] E0 (tCons (tCall spCmp [] E0 (tCons te tNil)) (tCons tc tNil))) (gName i)) tz D σ H :=
  em H (Ex.refl H) _ fun t rs7 H7 ht e7 N7 => ⟨t, n, f, rfl, ⟨rs7, N7.toTabR⟩, G, fun t8 ps H8 ht8 e8 hP ok => hc H8 (e7.trans e8) _ fun H9 e9 => ⟨t8, n, net f n, ps, rfl, hP.elim fun ts hP => ⟨ts, hP.mono e9⟩, G.most, ok.fit, fun W H10 e10 hW => k W ps H10 (((e7.trans e8).trans e9).trans e10) ok hW⟩⟩
/-! ### what the law's cash is -/
def lack (ns : List Int) (i : Nat) : Int := row (market ns) (mN ns) i - col (market ns) (mN ns) i
def cash1 (ns : List Int) (i : Nat) : Int := if lack ns i > cash ns i then lack ns i else cash ns i
theorem cash1_bd (ns : List Int) : Csh (mN ns) (cash1 ns) := fun i hi => by
  have G : Good 9999 (mN ns) (market ns) := market_good ns
  have h1 := G.rowB hi
  have h2 := G.col0 hi
  have h3 := cash_bd ns i
  have e : lack ns i = row (market ns) (mN ns) i - col (market ns) (mN ns) i := rfl
  unfold cash1
  split <;> omega
theorem cash1_can (ns : List Int) {f : Nat → Nat → Int} (h : ∀ i, i < mN ns → net f (mN ns) i = net (market ns) (mN ns) i) : Can (mN ns) f (cash1 ns) := fun i hi => by
  have e := h i hi
  have e1 : net f (mN ns) i = col f (mN ns) i - row f (mN ns) i := rfl
  have e2 : net (market ns) (mN ns) i = col (market ns) (mN ns) i - row (market ns) (mN ns) i := rfl
  have e3 : lack ns i = row (market ns) (mN ns) i - col (market ns) (mN ns) i := rfl
  unfold cash1
  split <;> omega
section
variable {P : Program} {K : PySem.W.Frag} {w : World} {base : Heap} {mg : Str → Option Value}
/-! ### law -/
theorem scLaw : FnScope ["_law_script", "_law_owed", "_law_count", "_law_nets", "_law_cash_here", "_law_a", "_law_lack", "_law_debts_here", "_law_table", "_law_pay", "_law_after", "_law_row_here"] ["_law_script"] (defScope sLaw) := ⟨rfl, rfl, rfl, by decide +kernel, rfl, by decide +kernel, by decide +kernel⟩
def spLaw (K : PySem.W.Frag) : Sp := fun vs H Q _ => ∃ (a : Addr) (ns : List Int), vs = [.ref a] ∧ SqL K H a (ns.map V.int) ∧ ∀ H', Q (.bl true) H'
structure Defs (P : Program) (w : World) (K : PySem.W.Frag) (mg : Str → Option Value) (base : Heap) : Prop where
  mkt : Cal P w K mg base "_law_market" 3 ["_law_script"] (spMkt K)
  net : Cal P w K mg base "net_amounts" 2 ["owed"] spNet
  ins : Cal P w K mg base "_law_integers" 1 ["_law_actual", "_law_count"] spIns
  lch : Cal P w K mg base "_law_cash" 2 ["_law_script", "_law_count"] (spLch K)
  cmp : Cal P w K mg base "compress" 3 ["owed"] spCmp
  dbt : Cal P w K mg base "_law_debts" 2 ["_law_payments", "_law_count"] spDbt
  clr : Cal P w K mg base "clearing" 6 ["owed", "cash"] spClr
  fal : Cal P w K mg base "fallen" 1 ["owed", "pay"] spFal
  csh : Cal P w K mg base "cash_after" 5 ["owed", "cash", "pay"] spCsh
theorem ok_law {f : Addr} {fd : FuncData} (F : Fun K "law" "law" sLaw f fd) (T : Txt mg) (C : Defs P w K mg base) : FnOk P w K mg base CX0 7 f fd ["_law_script"] (spLaw K) := by
  refine F.ok scLaw (fun vs H Q E h => ?_) (fun cdv A outer s H vs Q E hr h => ?_)
  · obtain ⟨a, ns, rfl, _⟩ := h
    rfl
  · obtain ⟨a, ns, rfl, hS, q⟩ := h
    have nd := scLaw.nd
    have h0 : (Str.ofString ".0") ∉ (["_law_script", "_law_owed", "_law_count", "_law_nets", "_law_cash_here", "_law_a", "_law_lack", "_law_debts_here", "_law_table", "_law_pay", "_law_after", "_law_row_here"] : List Str) := by decide +kernel
    have r1 : Room 1 (A.deeper (envOfC "law" (defScope sLaw) s.heap.objs.size f cdv)) := hr.mono (by decide)
    have r2 : Room 2 (A.deeper (envOfC "law" (defScope sLaw) s.heap.objs.size f cdv)) := hr.mono (by decide)
    have r3 : Room 3 (A.deeper (envOfC "law" (defScope sLaw) s.heap.objs.size f cdv)) := hr.mono (by decide)
    have r5 : Room 5 (A.deeper (envOfC "law" (defScope sLaw) s.heap.objs.size f cdv)) := hr.mono (by decide)
    refine ⟨_, pss_cons (ps_set (i := 1) nd rfl (.inl rfl) (pe_fn C.mkt r3 (pa_cons (pv 0) pa_nil)))
      (pss_cons (ps_set (i := 2) nd rfl (.inl rfl) (pe_len T (pv 1)))
      (pss_cons (ps_set (i := 3) nd rfl (.inr rfl) (pe_fn C.net r2 (pa_cons (pe_copy rfl nd rfl h0 T (pv 1)) pa_nil)))
      (pss_cons (ps_if (pt_not (pt_val (pe_fn C.ins r1 (pa_cons (pv 3) (pa_cons (pv 2) pa_nil))))) (pss_one (ps_ret pe_bl)) pss_nil)
      (pss_cons (ps_set (i := 4) nd rfl (.inr rfl) (pe_fn C.lch r2 (pa_cons (pv 0) (pa_cons (pv 2) pa_nil))))
      (pss_cons (ps_for PassesOwn.never rfl (pi_rng T (pv 2)) (pg_name (i := 5) nd rfl (.inr rfl))
        (pss_cons (ps_set (i := 6) nd rfl (.inl rfl) (pe_op op_sub (pe_sum rfl T (pe_ixl (pv 1) (pv 5)))
          (pe_sum rfl T (pe_lc (own := [("_law_row_here", 11)]) (g := gName 11) (tt := tYes) (te := tOp (rIxL K) (tVar 11) (tVar 5)) rfl nd (pi_list (pv 1)) (blkOk_by (by kernel_rfl)) (fun _ _ _ _ _ => pg_name (i := 11) nd rfl (Or.inl rfl)) (fun _ _ _ _ _ => pts_nil) (fun _ _ _ _ _ => ?el1)))))
        (pss_cons (ps_asg (pe_max rfl T (pe_ixl (pv 4) (pv 5)) (pv 6)) (pg_sub (pv 4) (pv 5) set_list))
        (pss_one (ps_if (pt_cmpR op_ne (pe_ixl (pv 3) (pv 5)) (pe_un un_neg (pv 6)) (nomark _)) (pss_one (ps_ret pe_bl)) pss_nil)))))
      (pss_cons (ps_set (i := 7) nd rfl (.inl rfl) (pe_fn C.dbt r2 (pa_cons (pe_fn C.cmp r3 (pa_cons (pe_copy rfl nd rfl h0 T (pv 1)) pa_nil)) (pa_cons (pv 2) pa_nil))))
      (pss_cons (ps_if (pt_cmp (pc_isN (pv 7))) (pss_one (ps_ret pe_bl)) pss_nil)
      (pss_cons (ps_for PassesOwn.never rfl (pi_tup (pe_tup (pa_cons (pv 1) (pa_cons (pv 7) pa_nil)))) (pg_name (i := 8) nd rfl (.inl rfl))
        (pss_cons (ps_set (i := 9) nd rfl (.inl rfl) (pe_fn C.clr hr (pa_cons (pe_copy rfl nd rfl h0 T (pv 8)) (pa_cons (pe_list T (pv 4)) pa_nil))))
        (pss_cons (ps_if (PW.pt (pw_or (pt_not (pt_val (pe_fn C.ins r1 (pa_cons (pv 9) (pa_cons (pv 2) pa_nil)))))
            (pw_or1 (pt_cmpR (op_neD hr.units) (pe_fn C.fal r1 (pa_cons (pe_copy rfl nd rfl h0 T (pv 8)) (pa_cons (pe_list T (pv 9)) pa_nil))) (pe_lst pa_nil) (nomark _))))) (pss_one (ps_ret pe_bl)) pss_nil)
        (pss_cons (ps_set (i := 10) nd rfl (.inl rfl) (pe_fn C.csh r5 (pa_cons (pe_copy rfl nd rfl h0 T (pv 8)) (pa_cons (pe_list T (pv 4)) (pa_cons (pe_list T (pv 9)) pa_nil)))))
        (pss_one (ps_if (pt_cmpR (op_neD hr.units) (pv 10) (pe_lc (own := [("_law_a", 5)]) (g := gName 5) (tt := tYes) (te := tOp (rI0 fun i j => .int (i + j)) (tOp (rIxL K) (tVar 4) (tVar 5)) (tOp (rIxL K) (tVar 3) (tVar 5))) rfl nd (pi_rng T (pv 2)) (blkOk_by (by kernel_rfl)) (fun _ _ _ _ _ => pg_name (i := 5) nd rfl (Or.inl rfl)) (fun _ _ _ _ _ => pts_nil) (fun _ _ _ _ _ => ?el2)) (nomark _)) (pss_one (ps_ret pe_bl)) pss_nil))))))
      (pss_one (ps_ret pe_bl)))))))))), ?_⟩
    case el1 => exact pe_ixl (pv 11) (pv 5)
    case el2 => exact pe_op op_add (pe_ixl (pv 4) (pv 5)) (pe_ixl (pv 3) (pv 5))
    have G9 : Good 9999 (mN ns) (market ns) := market_good ns
    have G : Good 1000000 (mN ns) (market ns) := G9.mono (by decide)
    generalize hN : mN ns = n at *
    generalize hF : market ns = f at *
    have hn1 := G.pos
    have hn2 := G.most
    have hc1 : Csh n (cash1 ns) := by
      rw [← hN]
      exact cash1_bd ns
    have hcan : ∀ g : Nat → Nat → Int, (∀ i, i < n → net g n i = net f n i) → Can n g (cash1 ns) := by
      rw [← hN, ← hF]
      exact fun g hg => cash1_can ns hg
    have hlack : ∀ i, lack ns i = row f n i - col f n i := fun i => by
      rw [← hN, ← hF]
      rfl
    -- the market
    have hm : SpM (spMkt K) [.ref a] H n f := by
      rw [← hN, ← hF]
      exact sm_mkt hS
    refine q_asgM (em_call (ea_cons (ev_var rfl) ea_nil) hm) fun O rs H1 hO e1 N1 => ?_
    have hT1 := N1.toTabR
    refine q_asg (ev_lenR (n := n) (ev_var rfl) (sq_of hT1.ls)) fun H2 e2 => ?_
    have hT2 := hT1.mono e2
    -- its nets
    refine q_asgL (el_callM (em_copy (i0 := 11) (ev_var rfl) hT2 (by omega) (fun _ => rfl) (fun _ => rfl)) fun b H3 e3 hT => sl_net hT G) fun Z H3 hZ e3 h3 => ?_
    have hT3 := hT2.mono e3
    refine q_when (et_not (et_B (ev_call (ea_cons (ev_var rfl) (ea_cons (ev_var rfl) ea_nil)) (sv_ins h3)))) (fun z => nomatch z) fun _ H4 e4 => ?_
    have hT4 := hT3.mono e4
    have h4 := e4 _ _ h3
    have e04 := ((e1.trans e2).trans e3).trans e4
    -- the cash
    refine q_asgL (el_call (ea_cons (ev_var rfl) (ea_cons (ev_var rfl) ea_nil)) (sl_lch (ex_l e04 hS) (by omega))) fun B H5 hB e5 h5 => ?_
    have nZB : Z ≠ B := ne_of_none h4 hB
    -- raised where it lacks
    refine q_forR1 (n := (n : Int)) (ea_cons (ev_var rfl) ea_nil) ⟨by omega, by omega⟩ (fun i σ' H' => Ex H4 H' ∧ H' B = some (.lst (ivec n fun j => if j < i then cash1 ns j else cash ns j)) ∧ ∃ x5 x6, σ' = [some (.ref a), some (.ref O), some (.int (n : Int)), some (.ref Z), some (.ref B), x5, x6, none, none, none, none, none]) (fun H6 e6 => ⟨e5.trans e6, e6 _ _ h5, _, _, rfl⟩) (fun i σ' H' hi p => ?_) (fun σ' H' p => ?_)
    · obtain ⟨ex, hb, x5, x6, rfl⟩ := p
      have hi' : i < n := by omega
      have hT' := hT4.mono ex
      refine q_asg (v := .int (lack ns i)) (ev_is (ev_op (ev_sumR (g := f i) (n := n) (ev_ixR (g := fun i => V.ref (rs i)) (ev_var rfl) (ev_var rfl) (sq_of hT'.ls) hi') (sq_of (hT'.rw i hi')))
        (ev_sumN (g := fun k => f k i) (n := n) (el_vecL (n := n) (g := fun k => V.ref (rs k)) (fun k => V.int (f k i)) (ev_var rfl) (sq_of hT'.ls) (by omega) (fun _ => rfl) fun k H7 e7 hk => ev_ixR (g := fun j => V.int (f k j)) (ev_var rfl) (ev_var rfl) (sq_of ((hT'.mono e7).rw k hk)) hi')) rv_I0) (by rw [hlack]; rfl)) fun H7 e7 => ?_
      have hb7 := e7 _ _ hb
      refine q_setL (j := i) hb7 (v := .int (cash1 ns i)) (ev_is (ev_max2 (i := cash ns i) (j := lack ns i) (ev_is (ev_ixR (g := fun j => V.int (if j < i then cash1 ns j else cash ns j)) (ev_var rfl) (ev_var rfl) (sq_of hb7) hi') (by rw [if_neg (Nat.lt_irrefl _)])) (ev_var rfl)) rfl) (ev_var rfl) (ev_var rfl) (by rw [lr_len]; exact hi') fun H8 e8 => ?_
      have e : (ivec n fun j => if j < i then cash1 ns j else cash ns j).set i (.int (cash1 ns i)) = ivec n fun j => if j < i + 1 then cash1 ns j else cash ns j := by
        rw [lr_set]
        refine lr_congr fun j hj => ?_
        try dsimp only
        by_cases z : j = i
        · subst z
          rw [if_pos rfl, if_pos (Nat.lt_succ_self j)]
        · rw [if_neg z]
          by_cases z2 : j < i
          · rw [if_pos z2, if_pos (by omega)]
          · rw [if_neg z2, if_neg (by omega)]
      rw [e]
      have ex8 : Ex H4 (upd H8 B (.lst (ivec n fun j => if j < i + 1 then cash1 ns j else cash ns j))) := Ex.mut ((ex.trans e7).trans e8) hB
      refine s_when (et_test (ev_op (ev_ixR (g := fun j => V.int (net f n j)) (ev_var rfl) (ev_var rfl) (sq_of (ex8 _ _ h4)) hi') (ev_un (ev_var rfl) ru_neg) (rv_ne rfl))) (fun z => ?_) fun _ H9 e9 => ⟨ex8.trans e9, e9 _ _ upd_same, _, _, rfl⟩
      have e2 : net f n i = -lack ns i := by
        rw [hlack]
        show col f n i - row f n i = -(row f n i - col f n i)
        omega
      rw [decide_eq_true (congrArg V.int e2)] at z
      cases z
    obtain ⟨ex6, hb6, x5, x6, rfl⟩ := p
    rw [Int.toNat_natCast] at hb6
    have eb : (ivec n fun j => if j < n then cash1 ns j else cash ns j) = ivec n (cash1 ns) := lr_congr fun j hj => by
      try dsimp only
      rw [if_pos hj]
    rw [eb] at hb6
    have hT6 := hT4.mono ex6
    -- the compressed debts
    refine q_dbt (em_copy (i0 := 11) (ev_var rfl) hT6 (by omega) (fun _ => rfl) (fun _ => rfl)) (ev_var rfl) G fun W ps H9 e69 ok hW => ?_
    have GD : Good 1000000 n (owes ps) := (ok.good G9).mono (by decide)
    refine q_when (et_B (ev_isN (ev_var rfl))) (fun z => ?_) fun _ H10 e10 => ?_
    · rw [decide_eq_false (fun c => nomatch c)] at z
      cases z
    have e6x := e69.trans e10
    have hTx : Tab H10 O n f := ⟨rs, hT6.mono e6x⟩
    have hWx : Tab H10 W n (owes ps) := hW.mono e10
    have hbx := e6x _ _ hb6
    have hzx := e6x _ _ (ex6 _ _ h4)
    -- both tables
    refine q_forNT (xs := [.ref O, .ref W]) (eu_tup (ea_cons (ev_var rfl) (ea_cons (ev_var rfl) ea_nil)) (by show 2 ≤ 100000; omega)) (fun p i σ' H' => Ex H10 H' ∧ H' p = some (.tup [.ref O, .ref W]) ∧ ∃ y8 y9 y10, σ' = [some (.ref a), some (.ref O), some (.int (n : Int)), some (.ref Z), some (.ref B), x5, x6, some (.ref W), y8, y9, y10, none]) (fun p H11 hp e11 h11 => ⟨e11, h11, _, _, _, rfl⟩) (fun p i σ' H' _ pp => st_of pp.2.1) (fun p i x σ' H' hx pp => ?_) (fun p σ' H' pp => ?_)
    · obtain ⟨ex, hp, y8, y9, y10, rfl⟩ := pp
      obtain ⟨D, g, rfl, hD, GD', hg⟩ : ∃ (D : Addr) (g : Nat → Nat → Int), x = .ref D ∧ Tab H10 D n g ∧ Good 1000000 n g ∧ ∀ i, i < n → net g n i = net f n i := by
        match i, hx with
        | 0, hx => exact ⟨O, f, (Option.some.inj hx).symm, hTx, G, fun _ _ => rfl⟩
        | 1, hx => exact ⟨W, owes ps, (Option.some.inj hx).symm, hWx, GD, fun i hi => ok.net_eq hi⟩
        | i + 2, hx => exact absurd hx (by simp)
      obtain ⟨rd, hD⟩ := hD
      have hD11 := hD.mono ex
      have hb11 := ex _ _ hbx
      have hcg := hcan g hg
      refine q_asgL (el_callML (em_copy (i0 := 11) (ev_var rfl) hD11 (by omega) (fun _ => rfl) (fun _ => rfl)) (el_list (ev_var rfl) (sq_of hb11)) fun u v H12 e12 hu hv => sl_clr hu GD' hv hc1 hcg) fun Y H12 hY e12 h12 => ?_
      have hD12 := hD11.mono e12
      refine q_when (et_or (et_not (et_B (ev_call (ea_cons (ev_var rfl) (ea_cons (ev_var rfl) ea_nil)) (sv_ins h12)))) fun _ => et_test (ev_opLL (xs := ivec 0 fun _ => 0) (ys := ivec 0 fun _ => 0) (el_callML (em_copy (i0 := 11) (ev_var rfl) hD12 (by omega) (fun _ => rfl) (fun _ => rfl)) (el_list (ev_var rfl) (sq_of h12)) fun u v H13 e13 hu hv => sl_fal hu GD' hv) (el_lst ea_nil (by show 0 ≤ 100000; omega)) fun u v H13 hu hv _ => rv_neD (sq_of hu) (sq_of hv))) (fun z => nomatch z) fun _ H13 e13 => ?_
      have hD13 := hD12.mono e13
      have h13 := e13 _ _ h12
      have hb13 := e13 _ _ (e12 _ _ hb11)
      refine q_asgL (el_callMLL (em_copy (i0 := 11) (ev_var rfl) hD13 (by omega) (fun _ => rfl) (fun _ => rfl)) (el_list (ev_var rfl) (sq_of hb13)) (el_list (ev_var rfl) (sq_of h13)) fun u v z H14 e14 hu hv hz => sl_csh hu GD' hv hz) fun R H14 hR e14 h14 => ?_
      have hb14 := e14 _ _ hb13
      have ex14 := ((ex.trans e12).trans e13).trans e14
      have hz14 := ex14 _ _ hzx
      have er : (ivec n fun i => cash1 ns i + net g n i) = ivec n fun i => cash1 ns i + net f n i := lr_congr fun i hi => by
        dsimp only
        rw [hg i hi]
      rw [er] at h14
      refine s_when (et_test (ev_opL (ev_var rfl) (el_vecR (n := n) (fun i => V.int (cash1 ns i + net f n i)) (ea_cons (ev_var rfl) ea_nil) (by omega) (fun _ => rfl) fun i H15 e15 hi => ev_op (ev_ixR (g := fun i => V.int (cash1 ns i)) (ev_var rfl) (ev_var rfl) (sq_of (e15 _ _ hb14)) hi) (ev_ixR (g := fun i => V.int (net f n i)) (ev_var rfl) (ev_var rfl) (sq_of (e15 _ _ hz14)) hi) rv_I0)
        fun u H15 hu e15 => rv_neD (sq_of (e15 _ _ h14)) (sq_of hu))) (fun z => nomatch z) fun _ H15 e15 => ⟨ex14.trans e15, e15 _ _ (e14 _ _ (e13 _ _ (e12 _ _ hp))), _, _, _, rfl⟩
    · exact s_ret ev_c fun H11 _ => q H11
end
end Fb
namespace Fb
open PySem PySem.Spec PyProof.Rows L2 Evl
/-! ### what the top has written; the law's own head -/
theorem all_mk {l : PySem.W.OpenLaw} {w : World} {K : PySem.W.Frag} {h : Heap} {mg : Str → Option Value} {fa f1 f2 f3 f4 f5 f6 f7 f8 f9 f10 f11 f12 f13 f14 f15 f16 f17 f18 f19 f20 f21 f22 : Addr} (X : K.In h) (G : h.Ns mainGlobals mg) (hfa : mg "law" = some (.ref fa))
    {od1 an1 od2 an2 od3 an3 od4 an4 od5 an5 od6 an6 od7 an7 od8 an8 od9 an9 od10 an10 od11 an11 od12 an12 od13 an13 od14 an14 od15 an15 od16 an16 od17 an17 od18 an18 od19 an19 od20 an20 od21 an21 od22 an22 : Option Addr} {sl1 sl2 sl3 sl4 sl5 sl6 sl7 sl8 sl9 sl10 sl11 sl12 sl13 sl14 sl15 sl16 sl17 sl18 sl19 sl20 sl21 sl22 : Array (Option Value)} {oc1 kV1 dc1 pm1 cd1 ct1 oc2 kV2 dc2 pm2 cd2 ct2 oc3 kV3 dc3 pm3 cd3 ct3 oc4 kV4 dc4 pm4 cd4 ct4 oc5 kV5 dc5 pm5 cd5 ct5 oc6 kV6 dc6 pm6 cd6 ct6 oc7 kV7 dc7 pm7 cd7 ct7 oc8 kV8 dc8 pm8 cd8 ct8 oc9 kV9 dc9 pm9 cd9 ct9 oc10 kV10 dc10 pm10 cd10 ct10 oc11 kV11 dc11 pm11 cd11 ct11 oc12 kV12 dc12 pm12 cd12 ct12 oc13 kV13 dc13 pm13 cd13 ct13 oc14 kV14 dc14 pm14 cd14 ct14 oc15 kV15 dc15 pm15 cd15 ct15 oc16 kV16 dc16 pm16 cd16 ct16 oc17 kV17 dc17 pm17 cd17 ct17 oc18 kV18 dc18 pm18 cd18 ct18 oc19 kV19 dc19 pm19 cd19 ct19 oc20 kV20 dc20 pm20 cd20 ct20 oc21 kV21 dc21 pm21 cd21 ct21 oc22 kV22 dc22 pm22 cd22 ct22 : Value} {t1 t2 t3 t4 t5 t6 : Tok}
    (a1 : PySem.W.nsIn K mainGlobals "check_debts" = some (some (.ref f1))) (l1 : K.lookup f1 = some ⟨oc1, od1, .func (PySem.W.fnOf "check_debts" "check_debts" (defArgs sChk) (defBody sChk) (defScope sChk) .none kV1 dc1 pm1 an1 cd1 ct1), sl1⟩) (c1 : PySem.W.codeIn K cd1 "check_debts" = true) (k1 : PySem.W.keepIn K (.ref f1) = true)
    (a2 : PySem.W.nsIn K mainGlobals "net_amounts" = some (some (.ref f2))) (l2 : K.lookup f2 = some ⟨oc2, od2, .func (PySem.W.fnOf "net_amounts" "net_amounts" (defArgs sNet) (defBody sNet) (defScope sNet) .none kV2 dc2 pm2 an2 cd2 ct2), sl2⟩) (c2 : PySem.W.codeIn K cd2 "net_amounts" = true) (k2 : PySem.W.keepIn K (.ref f2) = true)
    (a3 : PySem.W.nsIn K mainGlobals "compress" = some (some (.ref f3))) (l3 : K.lookup f3 = some ⟨oc3, od3, .func (PySem.W.fnOf "compress" "compress" (defArgs sCmp) (defBody sCmp) (defScope sCmp) .none kV3 dc3 pm3 an3 cd3 ct3), sl3⟩) (c3 : PySem.W.codeIn K cd3 "compress" = true) (k3 : PySem.W.keepIn K (.ref f3) = true)
    (a4 : PySem.W.nsIn K mainGlobals "check_weights" = some (some (.ref f4))) (l4 : K.lookup f4 = some ⟨oc4, od4, .func (PySem.W.fnOf "check_weights" "check_weights" (defArgs sCkw) (defBody sCkw) (defScope sCkw) .none kV4 dc4 pm4 an4 cd4 ct4), sl4⟩) (c4 : PySem.W.codeIn K cd4 "check_weights" = true) (k4 : PySem.W.keepIn K (.ref f4) = true)
    (a5 : PySem.W.nsIn K mainGlobals "split" = some (some (.ref f5))) (l5 : K.lookup f5 = some ⟨oc5, od5, .func (PySem.W.fnOf "split" "split" (defArgs sSpl) (defBody sSpl) (defScope sSpl) .none kV5 dc5 pm5 an5 cd5 ct5), sl5⟩) (c5 : PySem.W.codeIn K cd5 "split" = true) (k5 : PySem.W.keepIn K (.ref f5) = true)
    (a6 : PySem.W.nsIn K mainGlobals "check_day" = some (some (.ref f6))) (l6 : K.lookup f6 = some ⟨oc6, od6, .func (PySem.W.fnOf "check_day" "check_day" (defArgs sDay) (defBody sDay) (defScope sDay) .none kV6 dc6 pm6 an6 cd6 ct6), sl6⟩) (c6 : PySem.W.codeIn K cd6 "check_day" = true) (k6 : PySem.W.keepIn K (.ref f6) = true)
    (a7 : PySem.W.nsIn K mainGlobals "receipts" = some (some (.ref f7))) (l7 : K.lookup f7 = some ⟨oc7, od7, .func (PySem.W.fnOf "receipts" "receipts" (defArgs sRcp) (defBody sRcp) (defScope sRcp) .none kV7 dc7 pm7 an7 cd7 ct7), sl7⟩) (c7 : PySem.W.codeIn K cd7 "receipts" = true) (k7 : PySem.W.keepIn K (.ref f7) = true)
    (a8 : PySem.W.nsIn K mainGlobals "received" = some (some (.ref f8))) (l8 : K.lookup f8 = some ⟨oc8, od8, .func (PySem.W.fnOf "received" "received" (defArgs sRcv) (defBody sRcv) (defScope sRcv) .none kV8 dc8 pm8 an8 cd8 ct8), sl8⟩) (c8 : PySem.W.codeIn K cd8 "received" = true) (k8 : PySem.W.keepIn K (.ref f8) = true)
    (a9 : PySem.W.nsIn K mainGlobals "round_of" = some (some (.ref f9))) (l9 : K.lookup f9 = some ⟨oc9, od9, .func (PySem.W.fnOf "round_of" "round_of" (defArgs sRnd) (defBody sRnd) (defScope sRnd) .none kV9 dc9 pm9 an9 cd9 ct9), sl9⟩) (c9 : PySem.W.codeIn K cd9 "round_of" = true) (k9 : PySem.W.keepIn K (.ref f9) = true)
    (a10 : PySem.W.nsIn K mainGlobals "clearing" = some (some (.ref f10))) (l10 : K.lookup f10 = some ⟨oc10, od10, .func (PySem.W.fnOf "clearing" "clearing" (defArgs sClr) (defBody sClr) (defScope sClr) .none kV10 dc10 pm10 an10 cd10 ct10), sl10⟩) (c10 : PySem.W.codeIn K cd10 "clearing" = true) (k10 : PySem.W.keepIn K (.ref f10) = true)
    (a11 : PySem.W.nsIn K mainGlobals "cash_after" = some (some (.ref f11))) (l11 : K.lookup f11 = some ⟨oc11, od11, .func (PySem.W.fnOf "cash_after" "cash_after" (defArgs sCsh) (defBody sCsh) (defScope sCsh) .none kV11 dc11 pm11 an11 cd11 ct11), sl11⟩) (c11 : PySem.W.codeIn K cd11 "cash_after" = true) (k11 : PySem.W.keepIn K (.ref f11) = true)
    (a12 : PySem.W.nsIn K mainGlobals "fallen" = some (some (.ref f12))) (l12 : K.lookup f12 = some ⟨oc12, od12, .func (PySem.W.fnOf "fallen" "fallen" (defArgs sFal) (defBody sFal) (defScope sFal) .none kV12 dc12 pm12 an12 cd12 ct12), sl12⟩) (c12 : PySem.W.codeIn K cd12 "fallen" = true) (k12 : PySem.W.keepIn K (.ref f12) = true)
    (a13 : PySem.W.nsIn K mainGlobals "_law_cell" = some (some (.ref f13))) (l13 : K.lookup f13 = some ⟨oc13, od13, .func (PySem.W.fnOf "_law_cell" "_law_cell" (defArgs sCel) (defBody sCel) (defScope sCel) .none kV13 dc13 pm13 an13 cd13 ct13), sl13⟩) (c13 : PySem.W.codeIn K cd13 "_law_cell" = true) (k13 : PySem.W.keepIn K (.ref f13) = true)
    (a14 : PySem.W.nsIn K mainGlobals "_law_draws" = some (some (.ref f14))) (l14 : K.lookup f14 = some ⟨oc14, od14, .func (PySem.W.fnOf "_law_draws" "_law_draws" (defArgs sDrw) (defBody sDrw) (defScope sDrw) .none kV14 dc14 pm14 an14 cd14 ct14), sl14⟩) (c14 : PySem.W.codeIn K cd14 "_law_draws" = true) (k14 : PySem.W.keepIn K (.ref f14) = true)
    (a15 : PySem.W.nsIn K mainGlobals "_law_is_integer" = some (some (.ref f15))) (l15 : K.lookup f15 = some ⟨oc15, od15, .func (PySem.W.fnOf "_law_is_integer" "_law_is_integer" (defArgs sIsi) (defBody sIsi) (defScope sIsi) .none kV15 dc15 pm15 an15 cd15 ct15), sl15⟩) (c15 : PySem.W.codeIn K cd15 "_law_is_integer" = true) (k15 : PySem.W.keepIn K (.ref f15) = true)
    (a16 : PySem.W.nsIn K mainGlobals "_law_integers" = some (some (.ref f16))) (l16 : K.lookup f16 = some ⟨oc16, od16, .func (PySem.W.fnOf "_law_integers" "_law_integers" (defArgs sIns) (defBody sIns) (defScope sIns) .none kV16 dc16 pm16 an16 cd16 ct16), sl16⟩) (c16 : PySem.W.codeIn K cd16 "_law_integers" = true) (k16 : PySem.W.keepIn K (.ref f16) = true)
    (a17 : PySem.W.nsIn K mainGlobals "_law_market_size" = some (some (.ref f17))) (l17 : K.lookup f17 = some ⟨oc17, od17, .func (PySem.W.fnOf "_law_market_size" "_law_market_size" (defArgs sSiz) (defBody sSiz) (defScope sSiz) .none kV17 dc17 pm17 an17 cd17 ct17), sl17⟩) (c17 : PySem.W.codeIn K cd17 "_law_market_size" = true) (k17 : PySem.W.keepIn K (.ref f17) = true)
    (a18 : PySem.W.nsIn K mainGlobals "_law_row" = some (some (.ref f18))) (l18 : K.lookup f18 = some ⟨oc18, od18, .func (PySem.W.fnOf "_law_row" "_law_row" (defArgs sRow) (defBody sRow) (defScope sRow) .none kV18 dc18 pm18 an18 cd18 ct18), sl18⟩) (c18 : PySem.W.codeIn K cd18 "_law_row" = true) (k18 : PySem.W.keepIn K (.ref f18) = true)
    (a19 : PySem.W.nsIn K mainGlobals "_law_market" = some (some (.ref f19))) (l19 : K.lookup f19 = some ⟨oc19, od19, .func (PySem.W.fnOf "_law_market" "_law_market" (defArgs sMkt) (defBody sMkt) (defScope sMkt) .none kV19 dc19 pm19 an19 cd19 ct19), sl19⟩) (c19 : PySem.W.codeIn K cd19 "_law_market" = true) (k19 : PySem.W.keepIn K (.ref f19) = true)
    (a20 : PySem.W.nsIn K mainGlobals "_law_cash" = some (some (.ref f20))) (l20 : K.lookup f20 = some ⟨oc20, od20, .func (PySem.W.fnOf "_law_cash" "_law_cash" (defArgs sLch) (defBody sLch) (defScope sLch) .none kV20 dc20 pm20 an20 cd20 ct20), sl20⟩) (c20 : PySem.W.codeIn K cd20 "_law_cash" = true) (k20 : PySem.W.keepIn K (.ref f20) = true)
    (a21 : PySem.W.nsIn K mainGlobals "_law_debts" = some (some (.ref f21))) (l21 : K.lookup f21 = some ⟨oc21, od21, .func (PySem.W.fnOf "_law_debts" "_law_debts" (defArgs sDbt) (defBody sDbt) (defScope sDbt) .none kV21 dc21 pm21 an21 cd21 ct21), sl21⟩) (c21 : PySem.W.codeIn K cd21 "_law_debts" = true) (k21 : PySem.W.keepIn K (.ref f21) = true)
    (a22 : PySem.W.nsIn K mainGlobals "law" = some (some (.ref f22))) (l22 : K.lookup f22 = some ⟨oc22, od22, .func (PySem.W.fnOf "law" "law" (defArgs sLaw) (defBody sLaw) (defScope sLaw) .none kV22 dc22 pm22 an22 cd22 ct22), sl22⟩) (c22 : PySem.W.codeIn K cd22 "law" = true) (k22 : PySem.W.keepIn K (.ref f22) = true)
    (z1 : PySem.W.nsIn K mainGlobals "len" = some none)
    (z2 : PySem.W.nsIn K mainGlobals "range" = some none)
    (z3 : PySem.W.nsIn K mainGlobals "sum" = some none)
    (z4 : PySem.W.nsIn K mainGlobals "min" = some none)
    (z5 : PySem.W.nsIn K mainGlobals "max" = some none)
    (z6 : PySem.W.nsIn K mainGlobals "abs" = some none)
    (z7 : PySem.W.nsIn K mainGlobals "int" = some none)
    (z8 : PySem.W.nsIn K mainGlobals "isinstance" = some none)
    (z9 : PySem.W.nsIn K mainGlobals "list" = some none)
    (z10 : PySem.W.nsIn K mainGlobals "tuple" = some none)
    (z11 : PySem.W.nsIn K mainGlobals "bool" = some none)
    (y1 : PySem.W.nsIn K mainGlobals "MOST_HOUSES" = some (some (.int 13 t1)))
    (y2 : PySem.W.nsIn K mainGlobals "LARGEST_DEBT" = some (some (.int 1000000000000000 t2)))
    (y3 : PySem.W.nsIn K mainGlobals "LARGEST_AMOUNT" = some (some (.int 1000000000000000000 t3)))
    (y4 : PySem.W.nsIn K mainGlobals "LARGEST_WEIGHT" = some (some (.int 1000000000000000 t4)))
    (y5 : PySem.W.nsIn K mainGlobals "MOST_WEIGHTS" = some (some (.int 40 t5)))
    (y6 : PySem.W.nsIn K mainGlobals "LARGEST_CASH" = some (some (.int 100000000000000000 t6)))
    : ∃ fd : FuncData, (∀ (s : Shared) (v : Value), BindsTo s fd ⟨[v], []⟩ [("_law_script", v)]) ∧ ∀ base : Heap, K.In base → base.Ns mainGlobals mg → FnOk l.prog w K mg base CX0 7 fa fd ["_law_script"] (spLaw K) := by
  have e := hfa.symm.trans (PySem.W.mg_of X G a22)
  cases e
  have T : Txt mg := ⟨PySem.W.mg_none_of X G z1, PySem.W.mg_none_of X G z2, PySem.W.mg_none_of X G z3, PySem.W.mg_none_of X G z4, PySem.W.mg_none_of X G z5, PySem.W.mg_none_of X G z6, PySem.W.mg_none_of X G z7, PySem.W.mg_none_of X G z8, PySem.W.mg_none_of X G z9, PySem.W.mg_none_of X G z10, PySem.W.mg_none_of X G z11, ⟨_, PySem.W.mg_of X G y1⟩, ⟨_, PySem.W.mg_of X G y2⟩, ⟨_, PySem.W.mg_of X G y3⟩, ⟨_, PySem.W.mg_of X G y4⟩, ⟨_, PySem.W.mg_of X G y5⟩, ⟨_, PySem.W.mg_of X G y6⟩⟩
  have F1 := fun_mk (st := sChk) l1 c1 k1
  have F2 := fun_mk (st := sNet) l2 c2 k2
  have F3 := fun_mk (st := sCmp) l3 c3 k3
  have F4 := fun_mk (st := sCkw) l4 c4 k4
  have F5 := fun_mk (st := sSpl) l5 c5 k5
  have F6 := fun_mk (st := sDay) l6 c6 k6
  have F7 := fun_mk (st := sRcp) l7 c7 k7
  have F8 := fun_mk (st := sRcv) l8 c8 k8
  have F9 := fun_mk (st := sRnd) l9 c9 k9
  have F10 := fun_mk (st := sClr) l10 c10 k10
  have F11 := fun_mk (st := sCsh) l11 c11 k11
  have F12 := fun_mk (st := sFal) l12 c12 k12
  have F13 := fun_mk (st := sCel) l13 c13 k13
  have F14 := fun_mk (st := sDrw) l14 c14 k14
  have F15 := fun_mk (st := sIsi) l15 c15 k15
  have F16 := fun_mk (st := sIns) l16 c16 k16
  have F17 := fun_mk (st := sSiz) l17 c17 k17
  have F18 := fun_mk (st := sRow) l18 c18 k18
  have F19 := fun_mk (st := sMkt) l19 c19 k19
  have F20 := fun_mk (st := sLch) l20 c20 k20
  have F21 := fun_mk (st := sDbt) l21 c21 k21
  have F22 := fun_mk (st := sLaw) l22 c22 k22
  have b1 := F1.binds (ps := ["owed"]) fun _ _ _ _ _ _ us hl => match us, hl with | [_], _ => rfl
  have b2 := F2.binds (ps := ["owed"]) fun _ _ _ _ _ _ us hl => match us, hl with | [_], _ => rfl
  have b3 := F3.binds (ps := ["owed"]) fun _ _ _ _ _ _ us hl => match us, hl with | [_], _ => rfl
  have b4 := F4.binds (ps := ["amount", "weights"]) fun _ _ _ _ _ _ us hl => match us, hl with | [_, _], _ => rfl
  have b5 := F5.binds (ps := ["amount", "weights"]) fun _ _ _ _ _ _ us hl => match us, hl with | [_, _], _ => rfl
  have b6 := F6.binds (ps := ["owed", "cash"]) fun _ _ _ _ _ _ us hl => match us, hl with | [_, _], _ => rfl
  have b7 := F7.binds (ps := ["owed", "pay"]) fun _ _ _ _ _ _ us hl => match us, hl with | [_, _], _ => rfl
  have b8 := F8.binds (ps := ["owed", "pay"]) fun _ _ _ _ _ _ us hl => match us, hl with | [_, _], _ => rfl
  have b9 := F9.binds (ps := ["owed", "cash", "pay"]) fun _ _ _ _ _ _ us hl => match us, hl with | [_, _, _], _ => rfl
  have b10 := F10.binds (ps := ["owed", "cash"]) fun _ _ _ _ _ _ us hl => match us, hl with | [_, _], _ => rfl
  have b11 := F11.binds (ps := ["owed", "cash", "pay"]) fun _ _ _ _ _ _ us hl => match us, hl with | [_, _, _], _ => rfl
  have b12 := F12.binds (ps := ["owed", "pay"]) fun _ _ _ _ _ _ us hl => match us, hl with | [_, _], _ => rfl
  have b13 := F13.binds (ps := ["_law_script", "_law_k"]) fun _ _ _ _ _ _ us hl => match us, hl with | [_, _], _ => rfl
  have b14 := F14.binds (ps := ["_law_cell_here", "_law_count", "_law_size"]) fun _ _ _ _ _ _ us hl => match us, hl with | [_, _, _], _ => rfl
  have b15 := F15.binds (ps := ["_law_actual"]) fun _ _ _ _ _ _ us hl => match us, hl with | [_], _ => rfl
  have b16 := F16.binds (ps := ["_law_actual", "_law_count"]) fun _ _ _ _ _ _ us hl => match us, hl with | [_, _], _ => rfl
  have b17 := F17.binds (ps := ["_law_shape"]) fun _ _ _ _ _ _ us hl => match us, hl with | [_], _ => rfl
  have b18 := F18.binds (ps := ["_law_cell_here", "_law_shape", "_law_payer", "_law_count", "_law_size"]) fun _ _ _ _ _ _ us hl => match us, hl with | [_, _, _, _, _], _ => rfl
  have b19 := F19.binds (ps := ["_law_script"]) fun _ _ _ _ _ _ us hl => match us, hl with | [_], _ => rfl
  have b20 := F20.binds (ps := ["_law_script", "_law_count"]) fun _ _ _ _ _ _ us hl => match us, hl with | [_, _], _ => rfl
  have b21 := F21.binds (ps := ["_law_payments", "_law_count"]) fun _ _ _ _ _ _ us hl => match us, hl with | [_, _], _ => rfl
  refine ⟨PySem.W.fnOf "law" "law" (defArgs sLaw) (defBody sLaw) (defScope sLaw) .none kV22 dc22 pm22 an22 cd22 ct22, fun s v => .of_eq rfl, fun base _ _ => ?_⟩
  have C1 : Cal l.prog w K mg base "check_debts" 1 ["owed"] spChk := ⟨f1, _, ok_chk F1 T, PySem.W.mg_of X G a1, k1, b1⟩
  have C2 : Cal l.prog w K mg base "net_amounts" 2 ["owed"] spNet := ⟨f2, _, ok_net F2 T C1, PySem.W.mg_of X G a2, k2, b2⟩
  have C3 : Cal l.prog w K mg base "compress" 3 ["owed"] spCmp := ⟨f3, _, ok_cmp F3 T C2, PySem.W.mg_of X G a3, k3, b3⟩
  have C4 : Cal l.prog w K mg base "check_weights" 1 ["amount", "weights"] spCkw := ⟨f4, _, ok_ckw F4 T, PySem.W.mg_of X G a4, k4, b4⟩
  have C5 : Cal l.prog w K mg base "split" 2 ["amount", "weights"] spSpl := ⟨f5, _, ok_spl F5 T C4, PySem.W.mg_of X G a5, k5, b5⟩
  have C6 : Cal l.prog w K mg base "check_day" 2 ["owed", "cash"] spDay := ⟨f6, _, ok_day F6 T C1, PySem.W.mg_of X G a6, k6, b6⟩
  have C7 : Cal l.prog w K mg base "receipts" 3 ["owed", "pay"] spRcp := ⟨f7, _, ok_rcp F7 T C5, PySem.W.mg_of X G a7, k7, b7⟩
  have C8 : Cal l.prog w K mg base "received" 4 ["owed", "pay"] spRcv := ⟨f8, _, ok_rcv F8 T C7, PySem.W.mg_of X G a8, k8, b8⟩
  have C9 : Cal l.prog w K mg base "round_of" 5 ["owed", "cash", "pay"] spRnd := ⟨f9, _, ok_rnd F9 T C8, PySem.W.mg_of X G a9, k9, b9⟩
  have C10 : Cal l.prog w K mg base "clearing" 6 ["owed", "cash"] spClr := ⟨f10, _, ok_clr F10 T C6 C9, PySem.W.mg_of X G a10, k10, b10⟩
  have C11 : Cal l.prog w K mg base "cash_after" 5 ["owed", "cash", "pay"] spCsh := ⟨f11, _, ok_csh F11 T C8, PySem.W.mg_of X G a11, k11, b11⟩
  have C12 : Cal l.prog w K mg base "fallen" 1 ["owed", "pay"] spFal := ⟨f12, _, ok_fal F12 T, PySem.W.mg_of X G a12, k12, b12⟩
  have C13 : Cal l.prog w K mg base "_law_cell" 1 ["_law_script", "_law_k"] (spCel K) := ⟨f13, _, ok_cel F13 T, PySem.W.mg_of X G a13, k13, b13⟩
  have C14 : Cal l.prog w K mg base "_law_draws" 1 ["_law_cell_here", "_law_count", "_law_size"] spDrw := ⟨f14, _, ok_drw F14 T, PySem.W.mg_of X G a14, k14, b14⟩
  have C15 : Cal l.prog w K mg base "_law_is_integer" 1 ["_law_actual"] spIsi := ⟨f15, _, ok_isi F15 T, PySem.W.mg_of X G a15, k15, b15⟩
  have C16 : Cal l.prog w K mg base "_law_integers" 1 ["_law_actual", "_law_count"] spIns := ⟨f16, _, ok_ins F16 T, PySem.W.mg_of X G a16, k16, b16⟩
  have C17 : Cal l.prog w K mg base "_law_market_size" 1 ["_law_shape"] spSiz := ⟨f17, _, ok_siz F17 T, PySem.W.mg_of X G a17, k17, b17⟩
  have C18 : Cal l.prog w K mg base "_law_row" 2 ["_law_cell_here", "_law_shape", "_law_payer", "_law_count", "_law_size"] spRow := ⟨f18, _, ok_row F18 T C14, PySem.W.mg_of X G a18, k18, b18⟩
  have C19 : Cal l.prog w K mg base "_law_market" 3 ["_law_script"] (spMkt K) := ⟨f19, _, ok_mkt F19 T C13 C17 C18, PySem.W.mg_of X G a19, k19, b19⟩
  have C20 : Cal l.prog w K mg base "_law_cash" 2 ["_law_script", "_law_count"] (spLch K) := ⟨f20, _, ok_lch F20 T C13 C14, PySem.W.mg_of X G a20, k20, b20⟩
  have C21 : Cal l.prog w K mg base "_law_debts" 2 ["_law_payments", "_law_count"] spDbt := ⟨f21, _, ok_dbt F21 T C15, PySem.W.mg_of X G a21, k21, b21⟩
  exact ok_law F22 T ⟨C19, C2, C16, C20, C3, C21, C10, C12, C11⟩
end Fb
open PySem PySem.W PyProof.Rows
set_option maxRecDepth 100000 in
set_option maxHeartbeats 0 in
theorem PySem.Challenge.cw_fairbourse_k60_whole_compressed_day_holds : PySem.Challenge.rw_fairbourse_k60_whole_compressed_day.Holds := by
  w_on; o_law; k_head; (case hw => w_witness2)
  k_fill
  refine L2.walk_of (l := PySem.Challenge.rw_fairbourse_k60_whole_compressed_day) (n := 63) (k := 7) (x := "_law_script") (CX := fun _ => L2.CX0) (sp := fun w => Fb.spLaw _) rfl (by decide) rfl ⟨rfl, by decide, by decide⟩ (fun w h Y => PySem.W.kIn_of Y) ?F (fun _ _ a ns _ _ hS => ⟨a, ns, rfl, hS, fun _ => rfl⟩) (fun _ _ _ _ _ h => h)
  case F =>
    intro w mg fa h KX G hmg
    refine' Fb.all_mk KX G hmg ?a1 ?l1 ?c1 ?k1 ?a2 ?l2 ?c2 ?k2 ?a3 ?l3 ?c3 ?k3 ?a4 ?l4 ?c4 ?k4 ?a5 ?l5 ?c5 ?k5 ?a6 ?l6 ?c6 ?k6 ?a7 ?l7 ?c7 ?k7 ?a8 ?l8 ?c8 ?k8 ?a9 ?l9 ?c9 ?k9 ?a10 ?l10 ?c10 ?k10 ?a11 ?l11 ?c11 ?k11 ?a12 ?l12 ?c12 ?k12 ?a13 ?l13 ?c13 ?k13 ?a14 ?l14 ?c14 ?k14 ?a15 ?l15 ?c15 ?k15 ?a16 ?l16 ?c16 ?k16 ?a17 ?l17 ?c17 ?k17 ?a18 ?l18 ?c18 ?k18 ?a19 ?l19 ?c19 ?k19 ?a20 ?l20 ?c20 ?k20 ?a21 ?l21 ?c21 ?k21 ?a22 ?l22 ?c22 ?k22 ?z1 ?z2 ?z3 ?z4 ?z5 ?z6 ?z7 ?z8 ?z9 ?z10 ?z11 ?y1 ?y2 ?y3 ?y4 ?y5 ?y6
    (case a1 => k_is)
    (case l1 => k_is)
    (case c1 => k_is)
    (case k1 => k_is)
    (case a2 => k_is)
    (case l2 => k_is)
    (case c2 => k_is)
    (case k2 => k_is)
    (case a3 => k_is)
    (case l3 => k_is)
    (case c3 => k_is)
    (case k3 => k_is)
    (case a4 => k_is)
    (case l4 => k_is)
    (case c4 => k_is)
    (case k4 => k_is)
    (case a5 => k_is)
    (case l5 => k_is)
    (case c5 => k_is)
    (case k5 => k_is)
    (case a6 => k_is)
    (case l6 => k_is)
    (case c6 => k_is)
    (case k6 => k_is)
    (case a7 => k_is)
    (case l7 => k_is)
    (case c7 => k_is)
    (case k7 => k_is)
    (case a8 => k_is)
    (case l8 => k_is)
    (case c8 => k_is)
    (case k8 => k_is)
    (case a9 => k_is)
    (case l9 => k_is)
    (case c9 => k_is)
    (case k9 => k_is)
    (case a10 => k_is)
    (case l10 => k_is)
    (case c10 => k_is)
    (case k10 => k_is)
    (case a11 => k_is)
    (case l11 => k_is)
    (case c11 => k_is)
    (case k11 => k_is)
    (case a12 => k_is)
    (case l12 => k_is)
    (case c12 => k_is)
    (case k12 => k_is)
    (case a13 => k_is)
    (case l13 => k_is)
    (case c13 => k_is)
    (case k13 => k_is)
    (case a14 => k_is)
    (case l14 => k_is)
    (case c14 => k_is)
    (case k14 => k_is)
    (case a15 => k_is)
    (case l15 => k_is)
    (case c15 => k_is)
    (case k15 => k_is)
    (case a16 => k_is)
    (case l16 => k_is)
    (case c16 => k_is)
    (case k16 => k_is)
    (case a17 => k_is)
    (case l17 => k_is)
    (case c17 => k_is)
    (case k17 => k_is)
    (case a18 => k_is)
    (case l18 => k_is)
    (case c18 => k_is)
    (case k18 => k_is)
    (case a19 => k_is)
    (case l19 => k_is)
    (case c19 => k_is)
    (case k19 => k_is)
    (case a20 => k_is)
    (case l20 => k_is)
    (case c20 => k_is)
    (case k20 => k_is)
    (case a21 => k_is)
    (case l21 => k_is)
    (case c21 => k_is)
    (case k21 => k_is)
    (case a22 => k_is)
    (case l22 => k_is)
    (case c22 => k_is)
    (case k22 => k_is)
    (case z1 => k_is)
    (case z2 => k_is)
    (case z3 => k_is)
    (case z4 => k_is)
    (case z5 => k_is)
    (case z6 => k_is)
    (case z7 => k_is)
    (case z8 => k_is)
    (case z9 => k_is)
    (case z10 => k_is)
    (case z11 => k_is)
    (case y1 => k_is)
    (case y2 => k_is)
    (case y3 => k_is)
    (case y4 => k_is)
    (case y5 => k_is)
    (case y6 => k_is)
