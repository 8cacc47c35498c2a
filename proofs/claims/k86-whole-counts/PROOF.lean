import PyProof.Rows.All
import Wide.All
import OpenK.AllK
import Wide.FinOn
import HandS.ForMost
import HandS.ForExc
import HandS.TupAny
import HandS.Wide
import HandS.RaiseMore
import HandS.IsInst
import HandS.Deep
import HandS.Zip
import HandS.SetKeys
import HandS.More
import HandS.Conv
import HandS.CallRecv
import KE.SortData
import KE.KDictKeyed
import KE.KDictPairs
import KE.KDictCopyH
import KE.KDictSum
import PySem.Challenge.RW_readorder_k86_whole_counts_by_their_part
import HandS.Walk
import HandS.SetBool
import KE.KDictDisplayH
import KE.KDictWalk
import KE.GoesEnum
import KE.SortLaws
set_option Elab.async false
set_option linter.all false
set_option maxRecDepth 100000
/-! RoMath1: families of logs, the count of readers, the count of orders: plain mathematics. -/
namespace Ro

/-! ### products -/
def prod : List Nat → Nat
  | [] => 1
  | x :: r => x * prod r
theorem prod_cons (x : Nat) (r : List Nat) : prod (x :: r) = x * prod r := rfl
theorem prod_append : ∀ a b : List Nat, prod (a ++ b) = prod a * prod b
  | [], b => by simp [prod]
  | x :: a, b => by
    show x * prod (a ++ b) = x * prod a * prod b
    rw [prod_append a b, Nat.mul_assoc]
theorem prod_perm {a b : List Nat} (h : a.Perm b) : prod a = prod b := by
  induction h with
  | nil => rfl
  | cons x _ ih => show x * _ = x * _; rw [ih]
  | swap x y l => show y * (x * prod l) = x * (y * prod l); rw [Nat.mul_left_comm]
  | trans _ _ ih1 ih2 => exact ih1.trans ih2
theorem sum_perm {a b : List Nat} (h : a.Perm b) : a.sum = b.sum := by
  induction h with
  | nil => rfl
  | cons x _ ih => rw [List.sum_cons, List.sum_cons, ih]
  | swap x y l => rw [List.sum_cons, List.sum_cons, List.sum_cons, List.sum_cons]; omega
  | trans _ _ ih1 ih2 => exact ih1.trans ih2
theorem prod_pos : ∀ {l : List Nat}, (∀ x ∈ l, 1 ≤ x) → 1 ≤ prod l
  | [], _ => Nat.le_refl 1
  | x :: r, h => by
    have h1 := h x List.mem_cons_self
    have h2 := prod_pos (l := r) fun y hy => h y (List.mem_cons_of_mem _ hy)
    show 1 ≤ x * prod r
    exact Nat.mul_le_mul h1 h2
theorem prod_le {β : Type} {f g : β → Nat} : ∀ {l : List β}, (∀ x ∈ l, f x ≤ g x) → prod (l.map f) ≤ prod (l.map g)
  | [], _ => Nat.le_refl 1
  | x :: r, h => Nat.mul_le_mul (h x List.mem_cons_self) (prod_le (l := r) fun y hy => h y (List.mem_cons_of_mem _ hy))
theorem sum_le {β : Type} {f g : β → Nat} : ∀ {l : List β}, (∀ x ∈ l, f x ≤ g x) → (l.map f).sum ≤ (l.map g).sum
  | [], _ => Nat.le_refl 0
  | x :: r, h => by
    have h1 := h x List.mem_cons_self
    have h2 := sum_le (l := r) fun y hy => h y (List.mem_cons_of_mem _ hy)
    simp only [List.map_cons, List.sum_cons]
    omega
theorem sum_const {β : Type} {f : β → Nat} {k : Nat} : ∀ {l : List β}, (∀ x ∈ l, f x = k) → (l.map f).sum = l.length * k
  | [], _ => by simp
  | x :: r, h => by
    have h1 := h x List.mem_cons_self
    have h2 := sum_const (f := f) (k := k) (l := r) fun y hy => h y (List.mem_cons_of_mem _ hy)
    simp only [List.map_cons, List.sum_cons, List.length_cons]
    rw [h1, h2, Nat.add_mul, Nat.one_mul, Nat.add_comm]
theorem map_congr_mem {β γ : Type} {f g : β → γ} : ∀ {l : List β}, (∀ x ∈ l, f x = g x) → l.map f = l.map g
  | [], _ => rfl
  | x :: r, h => by
    rw [List.map_cons, List.map_cons, h x List.mem_cons_self, map_congr_mem (l := r) fun y hy => h y (List.mem_cons_of_mem _ hy)]
theorem le_sum {β : Type} {f : β → Nat} : ∀ {l : List β} {x : β}, x ∈ l → f x ≤ (l.map f).sum
  | y :: r, x, h => by
    simp only [List.map_cons, List.sum_cons]
    rcases List.mem_cons.mp h with rfl | h
    · omega
    · have := le_sum (f := f) h; omega
theorem sum_mul_le {β : Type} (f g : β → Nat) : ∀ l : List β, (l.map fun x => f x * g x).sum ≤ (l.map f).sum * (l.map g).sum
  | [] => by simp
  | x :: r => by
    have ih := sum_mul_le f g r
    simp only [List.map_cons, List.sum_cons]
    rw [Nat.add_mul, Nat.mul_add]
    have := Nat.mul_le_mul (Nat.le_refl (List.map f r).sum) (Nat.le_add_left (List.map g r).sum (g x))
    omega
/-- the sum over products is at most the product of the sums -/
theorem sum_prod_le {β γ : Type} (a : β → γ → Nat) (U : List β) : ∀ (F : List γ), F ≠ [] → (U.map fun c => prod (F.map (a c))).sum ≤ prod (F.map fun l => (U.map fun c => a c l).sum)
  | [], h => absurd rfl h
  | [l], _ => by
    have e : (U.map fun c => prod ([l].map (a c))) = U.map fun c => a c l := map_congr_mem fun c _ => by simp [prod]
    rw [e]
    simp [prod]
  | l :: m :: r, _ => by
    have ih := sum_prod_le a U (m :: r) (by simp)
    have h1 := sum_mul_le (fun c => a c l) (fun c => prod ((m :: r).map (a c))) U
    rw [List.map_cons (f := fun l => (U.map fun c => a c l).sum), prod_cons]
    refine Nat.le_trans (Nat.le_of_eq ?_) (Nat.le_trans h1 (Nat.mul_le_mul_left _ ih))
    rw [map_congr_mem (l := U) (g := fun c => a c l * prod ((m :: r).map (a c))) fun c _ => by rw [List.map_cons, prod_cons]]

/-! ### factorial -/
def fact : Nat → Nat
  | 0 => 1
  | n + 1 => (n + 1) * fact n
theorem fact_pos : ∀ n, 1 ≤ fact n
  | 0 => Nat.le_refl 1
  | n + 1 => Nat.mul_le_mul (Nat.succ_le_succ (Nat.zero_le n)) (fact_pos n)
theorem fact_mono {a b : Nat} (h : a ≤ b) : fact a ≤ fact b := by
  induction h with
  | refl => exact Nat.le_refl _
  | step _ ih => exact Nat.le_trans ih (Nat.le_mul_of_pos_left _ (Nat.succ_pos _))

section
variable {α : Type} [DecidableEq α]

/-! ### logs -/
def get : List (α × Int) → α → Option Int
  | [], _ => none
  | (k, v) :: r, c => if k = c then some v else get r c
abbrev cells (l : List (α × Int)) : List α := l.map (·.1)
theorem get_isSome {l : List (α × Int)} {c : α} : (get l c).isSome = true ↔ c ∈ cells l := by
  induction l with
  | nil => simp [get, cells]
  | cons p r ih =>
    obtain ⟨k, v⟩ := p
    unfold get
    by_cases h : k = c
    · rw [if_pos h]; simp [cells, h]
    · rw [if_neg h, ih]
      have h' : ¬ c = k := fun e => h e.symm
      simp [cells, h']
theorem get_none {l : List (α × Int)} {c : α} : get l c = none ↔ c ∉ cells l := by
  rw [← get_isSome]
  cases get l c <;> simp
theorem get_some_mem {l : List (α × Int)} {c : α} {v : Int} (h : get l c = some v) : (c, v) ∈ l := by
  induction l with
  | nil => simp [get] at h
  | cons p r ih =>
    obtain ⟨k, w⟩ := p
    unfold get at h
    by_cases e : k = c
    · rw [if_pos e] at h; cases h; subst e; exact List.mem_cons_self
    · rw [if_neg e] at h; exact List.mem_cons_of_mem _ (ih h)
theorem get_of_mem {l : List (α × Int)} {c : α} {v : Int} (hn : (cells l).Nodup) (h : (c, v) ∈ l) : get l c = some v := by
  induction l with
  | nil => simp at h
  | cons p r ih =>
    obtain ⟨k, w⟩ := p
    unfold get
    rcases List.mem_cons.mp h with e | h
    · cases e; rw [if_pos rfl]
    · have hn' : k ∉ cells r ∧ (cells r).Nodup := List.nodup_cons.mp hn
      have : k ≠ c := fun e => hn'.1 (e ▸ List.mem_map.mpr ⟨(c, v), h, rfl⟩)
      rw [if_neg this]; exact ih hn'.2 h
theorem get_perm {l m : List (α × Int)} (hn : (cells l).Nodup) (h : l.Perm m) (c : α) : get m c = get l c := by
  have hm : (cells m).Nodup := (h.map (·.1)).nodup_iff.mp hn
  cases e : get l c with
  | none =>
    refine get_none.mpr fun q => get_none.mp e ?_
    exact (h.map (·.1)).mem_iff.mpr q
  | some v => exact get_of_mem hm (h.mem_iff.mp (get_some_mem e))

def hasC (l : List (α × Int)) (c : α) : Bool := decide (c ∈ cells l)
def shared : List (List (α × Int)) → List α
  | [] => []
  | l :: r => (cells l).filter fun c => r.all fun m => hasC m c
theorem mem_shared {F : List (List (α × Int))} (hF : F ≠ []) {c : α} : c ∈ shared F ↔ ∀ l ∈ F, c ∈ cells l := by
  cases F with
  | nil => exact absurd rfl hF
  | cons l r =>
    show c ∈ (cells l).filter _ ↔ _
    rw [List.mem_filter]
    simp only [List.all_eq_true, hasC, decide_eq_true_eq, List.mem_cons, forall_eq_or_imp]
theorem mem_shared' {F : List (List (α × Int))} {c : α} (h : c ∈ shared F) : ∀ l ∈ F, c ∈ cells l := by
  cases F with
  | nil => simp [shared] at h
  | cons l r => exact (mem_shared (by simp)).mp h
theorem shared_nodup {F : List (List (α × Int))} (h : ∀ l ∈ F, (cells l).Nodup) : (shared F).Nodup := by
  cases F with
  | nil => simp [shared]
  | cons l r => exact (h l List.mem_cons_self).filter _
def unread (F : List (List (α × Int))) (done : List α) : List α := (shared F).filter fun c => decide (c ∉ done)
theorem mem_unread {F : List (List (α × Int))} {done : List α} {c : α} : c ∈ unread F done ↔ c ∈ shared F ∧ c ∉ done := by
  unfold unread; rw [List.mem_filter, decide_eq_true_eq]
theorem unread_nodup {F : List (List (α × Int))} {done : List α} (h : ∀ l ∈ F, (cells l).Nodup) : (unread F done).Nodup := (shared_nodup h).filter _
theorem unread_done {F : List (List (α × Int))} {d1 d2 : List α} (h : ∀ c, c ∈ d1 ↔ c ∈ d2) : unread F d1 = unread F d2 := by
  unfold unread
  refine List.filter_congr fun c _ => ?_
  rw [decide_eq_decide, h c]
def part (F : List (List (α × Int))) (c : α) (v : Int) : List (List (α × Int)) := F.filter fun l => decide (get l c = some v)
theorem mem_part {F : List (List (α × Int))} {c : α} {v : Int} {l : List (α × Int)} : l ∈ part F c v ↔ l ∈ F ∧ get l c = some v := by
  unfold part; rw [List.mem_filter, decide_eq_true_eq]
def dedup : List Int → List Int
  | [] => []
  | x :: r => if x ∈ r then dedup r else x :: dedup r
theorem mem_dedup : ∀ {l : List Int} {x : Int}, x ∈ dedup l ↔ x ∈ l
  | [], x => by simp [dedup]
  | y :: r, x => by
    unfold dedup
    by_cases h : y ∈ r
    · rw [if_pos h, mem_dedup, List.mem_cons]
      exact ⟨.inr, fun q => q.elim (fun e => e ▸ h) id⟩
    · rw [if_neg h, List.mem_cons, List.mem_cons, mem_dedup]
theorem dedup_nodup : ∀ l : List Int, (dedup l).Nodup
  | [] => by simp [dedup]
  | y :: r => by
    unfold dedup
    by_cases h : y ∈ r
    · rw [if_pos h]; exact dedup_nodup r
    · rw [if_neg h, List.nodup_cons, mem_dedup]; exact ⟨h, dedup_nodup r⟩
def vals (F : List (List (α × Int))) (c : α) : List Int := dedup (F.filterMap fun l => get l c)
structure IsVals (F : List (List (α × Int))) (c : α) (vs : List Int) : Prop where
  nd : vs.Nodup
  mem : ∀ v, v ∈ vs ↔ ∃ l ∈ F, get l c = some v
theorem vals_is (F : List (List (α × Int))) (c : α) : IsVals F c (vals F c) := by
  refine ⟨dedup_nodup _, fun v => ?_⟩
  unfold vals
  rw [mem_dedup, List.mem_filterMap]
theorem perm_of_mem {β : Type} {a b : List β} (ha : a.Nodup) (hb : b.Nodup) (h : ∀ x, x ∈ a ↔ x ∈ b) : a.Perm b := (List.perm_ext_iff_of_nodup ha hb).mpr h
theorem IsVals.perm {F : List (List (α × Int))} {c : α} {vs ws : List Int} (a : IsVals F c vs) (b : IsVals F c ws) : vs.Perm ws :=
  perm_of_mem a.nd b.nd fun v => (a.mem v).trans (b.mem v).symm

/-! ### the count -/
def C : Nat → List (List (α × Int)) → List α → Nat
  | 0, F, done => if F.length = 1 ∧ unread F done = [] then 1 else 0
  | n + 1, F, done => if F.length = 1 ∧ unread F done = [] then 1 else
      ((unread F done).map fun c => prod ((vals F c).map fun v => C n (part F c v) (c :: done))).sum
def rem (l : List (α × Int)) (done : List α) : Nat := ((cells l).filter fun c => decide (c ∉ done)).length
theorem rem_pos {l : List (α × Int)} {done : List α} {c : α} (h : c ∈ cells l) (hd : c ∉ done) : 1 ≤ rem l done := by
  unfold rem
  exact List.length_pos_of_mem (List.mem_filter.mpr ⟨h, decide_eq_true hd⟩)
theorem rem_cons (l : List (α × Int)) (done : List α) (c : α) : (cells l).filter (fun x => decide (x ∉ c :: done)) = ((cells l).filter fun x => decide (x ∉ done)).filter fun x => decide (x ≠ c) := by
  rw [List.filter_filter]
  refine List.filter_congr fun x _ => ?_
  by_cases h1 : x = c <;> by_cases h2 : x ∈ done <;> simp [h1, h2]
theorem rem_lt {l : List (α × Int)} {done : List α} {c : α} (h : c ∈ cells l) (hd : c ∉ done) : rem l (c :: done) < rem l done := by
  unfold rem
  rw [rem_cons]
  rw [List.length_filter_lt_length_iff_exists]
  exact ⟨c, List.mem_filter.mpr ⟨h, decide_eq_true hd⟩, by simp⟩
theorem len_filter_ne : ∀ {l : List α} {c : α}, l.Nodup → c ∈ l → (l.filter fun x => decide (x ≠ c)).length + 1 = l.length
  | y :: r, c, hn, h => by
    have hn' := List.nodup_cons.mp hn
    by_cases e : y = c
    · subst e
      rw [List.filter_cons_of_neg (by simp)]
      have : r.filter (fun x => decide (x ≠ y)) = r := List.filter_eq_self.mpr fun x hx => decide_eq_true fun e => hn'.1 (e ▸ hx)
      rw [this, List.length_cons]
    · rw [List.filter_cons_of_pos (by simpa using e), List.length_cons, List.length_cons]
      rcases List.mem_cons.mp h with q | q
      · exact absurd q.symm e
      · rw [len_filter_ne hn'.2 q]
theorem rem_succ {l : List (α × Int)} {done : List α} {c : α} (hn : (cells l).Nodup) (h : c ∈ cells l) (hd : c ∉ done) : rem l (c :: done) + 1 = rem l done := by
  unfold rem
  rw [rem_cons]
  exact len_filter_ne (hn.filter _) (List.mem_filter.mpr ⟨h, decide_eq_true hd⟩)
theorem rem_nil (l : List (α × Int)) : rem l [] = l.length := by
  unfold rem
  rw [List.filter_eq_self.mpr (by intro a _; simp)]
  simp [cells]
theorem unread_nil_of_rem {F : List (List (α × Int))} {done : List α} {l : List (α × Int)} (hl : l ∈ F) (h : rem l done = 0) : unread F done = [] := by
  apply List.eq_nil_iff_forall_not_mem.mpr
  intro c hc
  obtain ⟨h1, h2⟩ := mem_unread.mp hc
  have := rem_pos (mem_shared' h1 l hl) h2
  omega
theorem unread_empty (done : List α) : unread ([] : List (List (α × Int))) done = [] := by simp [unread, shared]
theorem C_fuel : ∀ (n : Nat) (F : List (List (α × Int))) (done : List α), (∀ l ∈ F, rem l done ≤ n) → C n F done = C (n + 1) F done
  | 0, F, done, h => by
    unfold C
    by_cases hc : F.length = 1 ∧ unread F done = []
    · rw [if_pos hc, if_pos hc]
    · rw [if_neg hc, if_neg hc]
      have : unread F done = [] := by
        cases F with
        | nil => exact unread_empty done
        | cons l r => exact unread_nil_of_rem List.mem_cons_self (Nat.le_zero.mp (h l List.mem_cons_self))
      rw [this]; rfl
  | n + 1, F, done, h => by
    conv => lhs; unfold C
    conv => rhs; unfold C
    by_cases hc : F.length = 1 ∧ unread F done = []
    · rw [if_pos hc, if_pos hc]
    · rw [if_neg hc, if_neg hc]
      congr 1
      refine map_congr_mem fun c hcu => ?_
      congr 1
      refine map_congr_mem fun v _ => ?_
      obtain ⟨h1, h2⟩ := mem_unread.mp hcu
      refine C_fuel n _ _ fun l hl => ?_
      have hlF := (mem_part.mp hl).1
      have := rem_lt (mem_shared' h1 l hlF) h2
      have := h l hlF
      omega
theorem C_more {n : Nat} (F : List (List (α × Int))) (done : List α) (h : ∀ l ∈ F, rem l done ≤ n) : ∀ k, C (n + k) F done = C n F done
  | 0 => rfl
  | k + 1 => by
    rw [← C_more F done h k]
    exact (C_fuel (n + k) F done fun l hl => Nat.le_trans (h l hl) (Nat.le_add_right n k)).symm
theorem C_any {n m : Nat} {F : List (List (α × Int))} {done : List α} (h : ∀ l ∈ F, rem l done ≤ n) (h' : ∀ l ∈ F, rem l done ≤ m) : C n F done = C m F done := by
  rcases Nat.le_total n m with q | q
  · obtain ⟨k, rfl⟩ := Nat.le.dest q
    exact (C_more F done h k).symm
  · obtain ⟨k, rfl⟩ := Nat.le.dest q
    exact C_more F done h' k
theorem C_done : ∀ (n : Nat) (F : List (List (α × Int))) (d1 d2 : List α), (∀ c, c ∈ d1 ↔ c ∈ d2) → C n F d1 = C n F d2
  | 0, F, d1, d2, h => by unfold C; rw [unread_done h]
  | n + 1, F, d1, d2, h => by
    unfold C
    rw [unread_done h]
    by_cases hc : F.length = 1 ∧ unread F d2 = []
    · rw [if_pos hc, if_pos hc]
    · rw [if_neg hc, if_neg hc]
      congr 1
      refine map_congr_mem fun c _ => ?_
      congr 1
      refine map_congr_mem fun v _ => ?_
      exact C_done n _ _ _ fun x => by rw [List.mem_cons, List.mem_cons, h x]
theorem prod_vals {F : List (List (α × Int))} {c : α} {vs : List Int} (h : IsVals F c vs) (f : Int → Nat) : prod (vs.map f) = prod ((vals F c).map f) :=
  prod_perm ((h.perm (vals_is F c)).map f)
theorem shared_perm {F G : List (List (α × Int))} (hF : ∀ l ∈ F, (cells l).Nodup) (h : F.Perm G) : (shared F).Perm (shared G) := by
  have hG : ∀ l ∈ G, (cells l).Nodup := fun l hl => hF l (h.mem_iff.mpr hl)
  refine perm_of_mem (shared_nodup hF) (shared_nodup hG) fun c => ?_
  by_cases e : F = []
  · subst e; rw [List.nil_perm.mp h]
  · have e' : G ≠ [] := fun q => e (by rw [q] at h; exact List.perm_nil.mp h)
    rw [mem_shared e, mem_shared e']
    exact ⟨fun q l hl => q l (h.mem_iff.mpr hl), fun q l hl => q l (h.mem_iff.mp hl)⟩
theorem unread_perm {F G : List (List (α × Int))} (hF : ∀ l ∈ F, (cells l).Nodup) (h : F.Perm G) (done : List α) : (unread F done).Perm (unread G done) := (shared_perm hF h).filter _
theorem C_perm : ∀ (n : Nat) (F G : List (List (α × Int))) (done : List α), (∀ l ∈ F, (cells l).Nodup) → F.Perm G → C n F done = C n G done
  | 0, F, G, done, hF, h => by
    have e1 : F.length = G.length := h.length_eq
    have e2 : unread F done = [] ↔ unread G done = [] := by
      have := (unread_perm hF h done).length_eq
      rw [← List.length_eq_zero_iff, ← List.length_eq_zero_iff, this]
    unfold C
    simp only [e1, e2]
  | n + 1, F, G, done, hF, h => by
    have e1 : F.length = G.length := h.length_eq
    have hU := unread_perm hF h done
    have e2 : unread F done = [] ↔ unread G done = [] := by
      have := hU.length_eq
      rw [← List.length_eq_zero_iff, ← List.length_eq_zero_iff, this]
    unfold C
    by_cases hc : F.length = 1 ∧ unread F done = []
    · rw [if_pos hc, if_pos (by rw [← e1, ← e2]; exact hc)]
    · rw [if_neg hc, if_neg (by rw [← e1, ← e2]; exact hc)]
      refine (sum_perm (hU.map _)).trans ?_
      congr 1
      refine map_congr_mem fun c _ => ?_
      have hv : IsVals G c (vals F c) := ⟨(vals_is F c).nd, fun v => ((vals_is F c).mem v).trans
        ⟨fun ⟨l, a, b⟩ => ⟨l, h.mem_iff.mp a, b⟩, fun ⟨l, a, b⟩ => ⟨l, h.mem_iff.mpr a, b⟩⟩⟩
      rw [← prod_vals hv]
      congr 1
      refine map_congr_mem fun v _ => ?_
      exact C_perm n _ _ _ (fun l hl => hF l (mem_part.mp hl).1) (h.filter _)

/-! ### a cell taken away -/
def drop (c : α) (l : List (α × Int)) : List (α × Int) := l.filter fun p => decide (p.1 ≠ c)
theorem cells_drop (c : α) (l : List (α × Int)) : cells (drop c l) = (cells l).filter fun x => decide (x ≠ c) := by
  unfold cells drop
  rw [List.filter_map]; rfl
theorem mem_cells_drop {c x : α} {l : List (α × Int)} : x ∈ cells (drop c l) ↔ x ∈ cells l ∧ x ≠ c := by
  rw [cells_drop, List.mem_filter, decide_eq_true_eq]
theorem get_drop {c x : α} (h : x ≠ c) : ∀ l : List (α × Int), get (drop c l) x = get l x
  | [] => rfl
  | (k, v) :: r => by
    by_cases e : k = c
    · have : drop c ((k, v) :: r) = drop c r := List.filter_cons_of_neg (by simpa using e)
      rw [this, get_drop h r]
      conv => rhs; unfold get
      rw [if_neg fun q => h (q.symm.trans e)]
    · have : drop c ((k, v) :: r) = (k, v) :: drop c r := List.filter_cons_of_pos (by simpa using e)
      rw [this]
      unfold get
      rw [get_drop h r]
theorem unread_drop (c : α) (F : List (List (α × Int))) (done : List α) : unread (F.map (drop c)) done = unread F (c :: done) := by
  cases F with
  | nil => rw [List.map_nil, unread_empty, unread_empty]
  | cons l r =>
    show ((cells (drop c l)).filter (fun x => (r.map (drop c)).all fun m => hasC m x)).filter _ = ((cells l).filter _).filter _
    rw [cells_drop, List.filter_filter, List.filter_filter, List.filter_filter]
    refine List.filter_congr fun x _ => ?_
    by_cases e : x = c
    · subst e; simp
    · have e1 : ((r.map (drop c)).all fun m => hasC m x) = r.all fun m => hasC m x := by
        rw [List.all_map]
        congr 1
        funext m
        show hasC (drop c m) x = hasC m x
        unfold hasC
        rw [decide_eq_decide, mem_cells_drop]
        exact ⟨fun q => q.1, fun q => ⟨q, e⟩⟩
      rw [e1]
      simp [e]
theorem part_drop {c x : α} (h : x ≠ c) (F : List (List (α × Int))) (v : Int) : part (F.map (drop c)) x v = (part F x v).map (drop c) := by
  unfold part
  rw [List.filter_map]
  congr 1
  refine List.filter_congr fun l _ => ?_
  show decide (get (drop c l) x = some v) = _
  rw [get_drop h]
theorem vals_drop {c x : α} (h : x ≠ c) (F : List (List (α × Int))) : vals (F.map (drop c)) x = vals F x := by
  unfold vals
  rw [List.filterMap_map]
  congr 1
  congr 1
  funext l
  exact get_drop h l
theorem C_drop : ∀ (n : Nat) (c : α) (F : List (List (α × Int))) (done : List α), C n (F.map (drop c)) done = C n F (c :: done)
  | 0, c, F, done => by unfold C; rw [unread_drop, List.length_map]
  | n + 1, c, F, done => by
    unfold C
    rw [unread_drop, List.length_map]
    by_cases hc : F.length = 1 ∧ unread F (c :: done) = []
    · rw [if_pos hc, if_pos hc]
    · rw [if_neg hc, if_neg hc]
      congr 1
      refine map_congr_mem fun x hx => ?_
      have hxc : x ≠ c := fun e => (mem_unread.mp hx).2 (e ▸ List.mem_cons_self)
      rw [vals_drop hxc]
      congr 1
      refine map_congr_mem fun v _ => ?_
      rw [part_drop hxc, C_drop n c]
      exact C_done n _ _ _ fun y => by
        simp only [List.mem_cons]
        constructor
        · rintro (h | h | h)
          · exact .inr (.inl h)
          · exact .inl h
          · exact .inr (.inr h)
        · rintro (h | h | h)
          · exact .inr (.inl h)
          · exact .inl h
          · exact .inr (.inr h)

/-! ### one log -/
theorem unread_one (l : List (α × Int)) (done : List α) : unread [l] done = (cells l).filter fun c => decide (c ∉ done) := by
  unfold unread shared
  rw [List.filter_filter]
  refine List.filter_congr fun x _ => ?_
  simp
theorem vals_one {l : List (α × Int)} {c : α} {v : Int} (h : get l c = some v) : vals [l] c = [v] := by
  unfold vals
  rw [show [l].filterMap (fun l => get l c) = [v] by simp [h]]
  simp [dedup]
theorem part_one {l : List (α × Int)} {c : α} {v : Int} (h : get l c = some v) : part [l] c v = [l] := by
  unfold part; simp [h]
theorem C_one : ∀ (n : Nat) (l : List (α × Int)) (done : List α), (cells l).Nodup → rem l done ≤ n → C n [l] done = fact (rem l done)
  | 0, l, done, hn, h => by
    have h0 : rem l done = 0 := Nat.le_zero.mp h
    unfold C
    rw [if_pos ⟨rfl, unread_nil_of_rem List.mem_cons_self h0⟩, h0]; rfl
  | n + 1, l, done, hn, h => by
    unfold C
    by_cases hc : unread [l] done = []
    · rw [if_pos ⟨rfl, hc⟩]
      have : rem l done = 0 := by unfold rem; rw [← unread_one, hc]; rfl
      rw [this]; rfl
    · rw [if_neg fun q => hc q.2]
      have hk : ∀ c ∈ unread [l] done, prod ((vals [l] c).map fun v => C n (part [l] c v) (c :: done)) = fact (rem l done - 1) := fun c hcu => by
        obtain ⟨h1, h2⟩ := mem_unread.mp hcu
        have hcl := mem_shared' h1 l List.mem_cons_self
        obtain ⟨v, hv⟩ := Option.isSome_iff_exists.mp (get_isSome.mpr hcl)
        have hr := rem_succ hn hcl h2
        rw [vals_one hv]
        show C n (part [l] c v) (c :: done) * 1 = _
        rw [Nat.mul_one, part_one hv, C_one n l (c :: done) hn (by omega)]
        congr 1
        omega
      rw [sum_const hk]
      have hl : (unread [l] done).length = rem l done := by unfold rem; rw [← unread_one]
      have hp : rem l done ≠ 0 := fun q => hc (List.length_eq_zero_iff.mp (hl.trans q))
      rw [hl]
      obtain ⟨k, hk⟩ := Nat.exists_eq_succ_of_ne_zero hp
      rw [hk]; rfl

/-! ### no stuck group -/
def Splits (g : List (List (α × Int))) : Prop := ∃ c, (∀ l ∈ g, c ∈ cells l) ∧ ∃ l ∈ g, ∃ m ∈ g, get l c ≠ get m c
def Good (F : List (List (α × Int))) : Prop := ∀ p : List (α × Int) → Bool, 2 ≤ (F.filter p).length → Splits (F.filter p)
theorem Good.filter {F : List (List (α × Int))} (h : Good F) (q : List (α × Int) → Bool) : Good (F.filter q) := fun p hp => by
  rw [List.filter_filter] at hp ⊢
  exact h _ hp
theorem Good.part {F : List (List (α × Int))} (h : Good F) (c : α) (v : Int) : Good (part F c v) := h.filter _
theorem Splits.perm {F G : List (List (α × Int))} (h : F.Perm G) : Splits F → Splits G := fun ⟨c, a, l, hl, m, hm, ne⟩ =>
  ⟨c, fun x hx => a x (h.mem_iff.mpr hx), l, h.mem_iff.mp hl, m, h.mem_iff.mp hm, ne⟩
theorem Good.perm {F G : List (List (α × Int))} (h : Good F) (p : F.Perm G) : Good G := fun q hq =>
  (h q (by rw [(p.filter q).length_eq]; exact hq)).perm (p.filter q)
/-- a change of the logs that keeps what splits -/
theorem Good.map {F : List (List (α × Int))} (h : Good F) (f : List (α × Int) → List (α × Int)) (hf : ∀ g : List (List (α × Int)), (∀ l ∈ g, l ∈ F) → Splits g → Splits (g.map f)) : Good (F.map f) := fun p hp => by
  rw [List.filter_map, List.length_map] at hp
  rw [List.filter_map]
  exact hf _ (fun l hl => (List.mem_filter.mp hl).1) (h _ hp)
theorem Good.splits {F : List (List (α × Int))} (h : Good F) (h2 : 2 ≤ F.length) : Splits F := by
  have e : F.filter (fun _ => true) = F := List.filter_eq_self.mpr fun _ _ => rfl
  have := h (fun _ => true) (by rw [e]; exact h2)
  rw [e] at this
  exact this
def Agree (F : List (List (α × Int))) (done : List α) : Prop := ∀ c ∈ done, ∀ l ∈ F, ∀ m ∈ F, get l c = get m c
theorem Agree.part {F : List (List (α × Int))} {done : List α} (h : Agree F done) (c : α) (v : Int) : Agree (part F c v) (c :: done) := fun x hx l hl m hm => by
  rcases List.mem_cons.mp hx with e | hx
  · subst e; rw [(mem_part.mp hl).2, (mem_part.mp hm).2]
  · exact h x hx l (mem_part.mp hl).1 m (mem_part.mp hm).1
theorem Splits.unread {F : List (List (α × Int))} {done : List α} (s : Splits F) (a : Agree F done) : ∃ c, c ∈ unread F done ∧ ∃ l ∈ F, ∃ m ∈ F, get l c ≠ get m c := by
  obtain ⟨c, h1, l, hl, m, hm, ne⟩ := s
  have hF : F ≠ [] := fun e => by subst e; cases hl
  exact ⟨c, mem_unread.mpr ⟨(mem_shared hF).mpr h1, fun hd => ne (a c hd l hl m hm)⟩, l, hl, m, hm, ne⟩
theorem part_ne {F : List (List (α × Int))} {c : α} {v : Int} (h : v ∈ vals F c) : Ro.part F c v ≠ [] := fun e => by
  obtain ⟨l, hl, hv⟩ := ((vals_is F c).mem v).mp h
  have : l ∈ Ro.part F c v := mem_part.mpr ⟨hl, hv⟩
  rw [e] at this; cases this
theorem C_pos : ∀ (n : Nat) (F : List (List (α × Int))) (done : List α), Good F → Agree F done → F ≠ [] → (∀ l ∈ F, rem l done ≤ n) → 1 ≤ C n F done
  | n, F, done, hg, ha, hF, hr => by
    have key : ¬ (F.length = 1 ∧ unread F done = []) → ∃ c, c ∈ unread F done := fun hc => by
      by_cases h2 : 2 ≤ F.length
      · obtain ⟨c, h, _⟩ := (hg.splits h2).unread ha
        exact ⟨c, h⟩
      · have h1 : F.length = 1 := by
          have : F.length ≠ 0 := fun e => hF (List.length_eq_zero_iff.mp e)
          omega
        have : unread F done ≠ [] := fun e => hc ⟨h1, e⟩
        obtain ⟨c, r, e⟩ := List.exists_cons_of_ne_nil this
        exact ⟨c, by rw [e]; exact List.mem_cons_self⟩
    cases n with
    | zero =>
      unfold C
      by_cases hc : F.length = 1 ∧ unread F done = []
      · rw [if_pos hc]; exact Nat.le_refl 1
      · obtain ⟨c, h⟩ := key hc
        obtain ⟨h1, h2⟩ := mem_unread.mp h
        obtain ⟨l, r, e⟩ := List.exists_cons_of_ne_nil hF
        have hl : l ∈ F := by rw [e]; exact List.mem_cons_self
        have := rem_pos (mem_shared' h1 l hl) h2
        have := hr l hl
        omega
    | succ n =>
      unfold C
      by_cases hc : F.length = 1 ∧ unread F done = []
      · rw [if_pos hc]; exact Nat.le_refl 1
      · rw [if_neg hc]
        obtain ⟨c, h⟩ := key hc
        obtain ⟨h1, h2⟩ := mem_unread.mp h
        refine Nat.le_trans ?_ (le_sum (f := fun c => prod ((vals F c).map fun v => C n (part F c v) (c :: done))) h)
        refine prod_pos fun x hx => ?_
        obtain ⟨v, hv, rfl⟩ := List.mem_map.mp hx
        refine C_pos n _ _ (hg.part c v) (ha.part c v) (part_ne hv) fun l hl => ?_
        have hlF := (mem_part.mp hl).1
        have := rem_lt (mem_shared' h1 l hlF) h2
        have := hr l hlF
        omega
end
end Ro

/-! RoMath2: the orders of a log, the count against the orders, bounds, the law's sum. -/
namespace Ro
section
variable {α : Type} [DecidableEq α]

/-! ### products by parts -/
theorem prod_bump (f : Int → Nat) (v0 : Int) (x : Nat) : ∀ vs : List Int, vs.Nodup → v0 ∈ vs → prod (vs.map fun v => (if v = v0 then x else 1) * f v) = x * prod (vs.map f)
  | v :: r, hn, h => by
    have hn' := List.nodup_cons.mp hn
    rw [List.map_cons, List.map_cons, prod_cons, prod_cons]
    by_cases e : v = v0
    · subst e
      have e2 : r.map (fun w => (if w = v then x else 1) * f w) = r.map f := map_congr_mem fun w hw => by
        have ne : w ≠ v := fun q => hn'.1 (q ▸ hw)
        rw [if_neg ne, Nat.one_mul]
      rw [if_pos rfl, e2, Nat.mul_assoc]
    · rw [if_neg e, Nat.one_mul, prod_bump f v0 x r hn'.2 ((List.mem_cons.mp h).resolve_left fun q => e q.symm), Nat.mul_left_comm]
theorem prod_ones {β : Type} : ∀ vs : List β, prod (vs.map fun _ => 1) = 1
  | [] => rfl
  | v :: r => by rw [List.map_cons, prod_cons, prod_ones r]
theorem prod_parts (c : α) (g : List (α × Int) → Nat) (vs : List Int) (hn : vs.Nodup) : ∀ F : List (List (α × Int)), (∀ l ∈ F, ∃ v ∈ vs, get l c = some v) →
    prod (vs.map fun v => prod ((part F c v).map g)) = prod (F.map g)
  | [], _ => by
    have : (vs.map fun v => prod ((part ([] : List (List (α × Int))) c v).map g)) = vs.map fun _ => 1 := map_congr_mem fun v _ => by simp [part, prod]
    rw [this]
    exact prod_ones vs
  | l :: F, h => by
    obtain ⟨v0, hv0, e0⟩ := h l List.mem_cons_self
    have ih := prod_parts c g vs hn F fun m hm => h m (List.mem_cons_of_mem _ hm)
    rw [List.map_cons, prod_cons, ← ih, ← prod_bump _ v0 (g l) vs hn hv0]
    congr 1
    refine map_congr_mem fun v _ => ?_
    unfold part
    by_cases e : v = v0
    · subst e
      rw [if_pos rfl, List.filter_cons_of_pos (by simpa using e0)]
      rfl
    · rw [if_neg e, Nat.one_mul, List.filter_cons_of_neg (by
        rw [e0, decide_eq_true_eq]
        intro q
        exact e (Option.some.inj q).symm)]

/-! ### orders, by the group that is left -/
def agree (F : List (List (α × Int))) (l : List (α × Int)) (c : α) : List (List (α × Int)) := F.filter fun m => decide (get m c = get l c)
def Oc : Nat → List (List (α × Int)) → List (α × Int) → List α → Nat
  | 0, _, _, _ => 1
  | n + 1, F, l, done => ((unread F done).map fun c => Oc n (agree F l c) l (c :: done)).sum
theorem mem_agree {F : List (List (α × Int))} {l m : List (α × Int)} {c : α} : m ∈ agree F l c ↔ m ∈ F ∧ get m c = get l c := by
  unfold agree; rw [List.mem_filter, decide_eq_true_eq]
theorem agree_part {F : List (List (α × Int))} {l : List (α × Int)} {c : α} {v : Int} (h : get l c = some v) : agree F l c = part F c v := by
  unfold agree part; rw [h]
theorem C_le : ∀ (n : Nat) (F : List (List (α × Int))) (done : List α), F ≠ [] → (∀ l ∈ F, (cells l).Nodup) → (∀ l ∈ F, rem l done ≤ n) →
    C n F done ≤ prod (F.map fun l => Oc (rem l done) F l done)
  | n, F, done, hF, hw, hr => by
    have base : (F.length = 1 ∧ unread F done = []) → 1 ≤ prod (F.map fun l => Oc (rem l done) F l done) := fun ⟨h1, h2⟩ => by
      refine prod_pos fun x hx => ?_
      obtain ⟨l, hl, rfl⟩ := List.mem_map.mp hx
      have : rem l done = 0 := by
        obtain ⟨m, e⟩ := List.length_eq_one_iff.mp h1
        rw [e] at hl h2
        have e2 : l = m := by simpa using hl
        subst e2
        unfold rem; rw [← unread_one, h2]; rfl
      rw [this]
      exact Nat.le_refl 1
    cases n with
    | zero =>
      unfold C
      by_cases hc : F.length = 1 ∧ unread F done = []
      · rw [if_pos hc]; exact base hc
      · rw [if_neg hc]; exact Nat.zero_le _
    | succ n =>
      unfold C
      by_cases hc : F.length = 1 ∧ unread F done = []
      · rw [if_pos hc]; exact base hc
      · rw [if_neg hc]
        by_cases hz : ∃ l ∈ F, rem l done = 0
        · obtain ⟨l, hl, h0⟩ := hz
          rw [unread_nil_of_rem hl h0]
          exact Nat.zero_le _
        · have hpos : ∀ l ∈ F, rem l done ≠ 0 := fun l hl e => hz ⟨l, hl, e⟩
          -- each summand
          have step : ∀ c ∈ unread F done, prod ((vals F c).map fun v => C n (part F c v) (c :: done)) ≤ prod (F.map fun l => Oc (rem l (c :: done)) (agree F l c) l (c :: done)) := fun c hcu => by
            obtain ⟨h1, h2⟩ := mem_unread.mp hcu
            have hin : ∀ l ∈ F, c ∈ cells l := mem_shared' h1
            have h3 : prod ((vals F c).map fun v => C n (part F c v) (c :: done)) ≤ prod ((vals F c).map fun v => prod ((part F c v).map fun l => Oc (rem l (c :: done)) (agree F l c) l (c :: done))) := by
              refine prod_le fun v hv => ?_
              have hp := C_le n (part F c v) (c :: done) (part_ne hv) (fun l hl => hw l (mem_part.mp hl).1) fun l hl => by
                have hlF := (mem_part.mp hl).1
                have := rem_lt (hin l hlF) h2
                have := hr l hlF
                omega
              refine Nat.le_trans hp (Nat.le_of_eq ?_)
              congr 1
              refine map_congr_mem fun l hl => ?_
              rw [agree_part (mem_part.mp hl).2]
            refine Nat.le_trans h3 (Nat.le_of_eq ?_)
            refine prod_parts c (fun l => Oc (rem l (c :: done)) (agree F l c) l (c :: done)) (vals F c) (vals_is F c).nd F fun l hl => ?_
            obtain ⟨v, hv⟩ := Option.isSome_iff_exists.mp (get_isSome.mpr (hin l hl))
            exact ⟨v, ((vals_is F c).mem v).mpr ⟨l, hl, hv⟩, hv⟩
          refine Nat.le_trans (sum_le step) (Nat.le_trans (sum_prod_le (fun c l => Oc (rem l (c :: done)) (agree F l c) l (c :: done)) (unread F done) F hF) (Nat.le_of_eq ?_))
          congr 1
          refine map_congr_mem fun l hl => ?_
          obtain ⟨k, hk⟩ := Nat.exists_eq_succ_of_ne_zero (hpos l hl)
          rw [hk]
          show _ = ((unread F done).map fun c => Oc k (agree F l c) l (c :: done)).sum
          congr 1
          refine map_congr_mem fun c hcu => ?_
          obtain ⟨h1, h2⟩ := mem_unread.mp hcu
          have := rem_succ (hw l hl) (mem_shared' h1 l hl) h2
          have e : rem l (c :: done) = k := by omega
          rw [e]

theorem len_le_of_sub {β : Type} [DecidableEq β] : ∀ {a b : List β}, a.Nodup → (∀ x ∈ a, x ∈ b) → a.length ≤ b.length
  | [], b, _, _ => Nat.zero_le _
  | x :: a, b, hn, h => by
    have hn' := List.nodup_cons.mp hn
    have hx := h x List.mem_cons_self
    have ih := len_le_of_sub (a := a) (b := b.erase x) hn'.2 fun y hy => by
      have hne : y ≠ x := fun e => hn'.1 (e ▸ hy)
      exact (List.mem_erase_of_ne hne).mpr (h y (List.mem_cons_of_mem _ hy))
    rw [List.length_erase_of_mem hx] at ih
    have : 0 < b.length := List.length_pos_of_mem hx
    rw [List.length_cons]
    omega
theorem unread_len {F : List (List (α × Int))} {done : List α} {l : List (α × Int)} (hw : ∀ l ∈ F, (cells l).Nodup) (hl : l ∈ F) : (unread F done).length ≤ rem l done := by
  unfold rem
  refine len_le_of_sub (unread_nodup hw) fun c hc => ?_
  obtain ⟨h1, h2⟩ := mem_unread.mp hc
  exact List.mem_filter.mpr ⟨mem_shared' h1 l hl, decide_eq_true h2⟩
theorem Oc_le : ∀ (k : Nat) (F : List (List (α × Int))) (l : List (α × Int)) (done : List α), (∀ l ∈ F, (cells l).Nodup) → l ∈ F → rem l done = k → Oc k F l done ≤ fact k
  | 0, _, _, _, _, _, _ => Nat.le_refl 1
  | k + 1, F, l, done, hw, hl, hk => by
    have h1 : ∀ c ∈ unread F done, Oc k (agree F l c) l (c :: done) ≤ fact k := fun c hc => by
      obtain ⟨h1, h2⟩ := mem_unread.mp hc
      have := rem_succ (hw l hl) (mem_shared' h1 l hl) h2
      exact Oc_le k _ l _ (fun m hm => hw m (mem_agree.mp hm).1) (mem_agree.mpr ⟨hl, rfl⟩) (by omega)
    refine Nat.le_trans (sum_le (g := fun _ => fact k) h1) ?_
    rw [sum_const (k := fact k) fun _ _ => rfl]
    have := unread_len (done := done) hw hl
    rw [hk] at this
    exact Nat.mul_le_mul_right _ this
theorem Oc_one : ∀ (k : Nat) (l : List (α × Int)) (done : List α), (cells l).Nodup → rem l done = k → Oc k [l] l done = fact k
  | 0, _, _, _, _ => rfl
  | k + 1, l, done, hn, hk => by
    have h1 : ∀ c ∈ unread [l] done, Oc k (agree [l] l c) l (c :: done) = fact k := fun c hc => by
      obtain ⟨h1, h2⟩ := mem_unread.mp hc
      have := rem_succ hn (mem_shared' h1 l List.mem_cons_self) h2
      have e : agree [l] l c = [l] := by unfold agree; simp
      rw [e]
      exact Oc_one k l _ hn (by omega)
    show ((unread [l] done).map fun c => Oc k (agree [l] l c) l (c :: done)).sum = _
    rw [sum_const h1]
    have : (unread [l] done).length = k + 1 := by rw [← hk]; unfold rem; rw [← unread_one]
    rw [this]; rfl

/-! ### orders, by the whole family -/
def after (F : List (List (α × Int))) (l : List (α × Int)) (done : List α) : List (List (α × Int)) := F.filter fun m => done.all fun c => decide (get m c = get l c)
def avail (F : List (List (α × Int))) (l : List (α × Int)) (done : List α) : List α := unread (after F l done) done
def Or (F : List (List (α × Int))) (l : List (α × Int)) : Nat → List α → Nat
  | 0, _ => 1
  | k + 1, done => ((avail F l done).map fun c => Or F l k (c :: done)).sum
theorem after_done {F : List (List (α × Int))} {l : List (α × Int)} {d1 d2 : List α} (h : ∀ c, c ∈ d1 ↔ c ∈ d2) : after F l d1 = after F l d2 := by
  unfold after
  refine List.filter_congr fun m _ => ?_
  rw [Bool.eq_iff_iff, List.all_eq_true, List.all_eq_true]
  exact ⟨fun q c hc => q c ((h c).mpr hc), fun q c hc => q c ((h c).mp hc)⟩
theorem avail_done {F : List (List (α × Int))} {l : List (α × Int)} {d1 d2 : List α} (h : ∀ c, c ∈ d1 ↔ c ∈ d2) : avail F l d1 = avail F l d2 := by
  unfold avail; rw [after_done h, unread_done h]
theorem Or_done {F : List (List (α × Int))} {l : List (α × Int)} : ∀ (k : Nat) (d1 d2 : List α), (∀ c, c ∈ d1 ↔ c ∈ d2) → Or F l k d1 = Or F l k d2
  | 0, _, _, _ => rfl
  | k + 1, d1, d2, h => by
    unfold Or
    rw [avail_done h]
    congr 1
    exact map_congr_mem fun c _ => Or_done k _ _ fun x => by rw [List.mem_cons, List.mem_cons, h x]
theorem Or_Oc {F : List (List (α × Int))} {l : List (α × Int)} : ∀ (k : Nat) (done : List α), Or F l k done = Oc k (after F l done) l done
  | 0, _ => rfl
  | k + 1, done => by
    unfold Or Oc avail
    congr 1
    refine map_congr_mem fun c _ => ?_
    rw [Or_Oc k]
    congr 1
    unfold after agree
    rw [List.filter_filter]
    refine List.filter_congr fun m _ => ?_
    rw [List.all_cons]
theorem after_nil (F : List (List (α × Int))) (l : List (α × Int)) : after F l [] = F := by
  unfold after
  exact List.filter_eq_self.mpr fun _ _ => rfl
/-- the number of possible orders of a log -/
def orders (F : List (List (α × Int))) (l : List (α × Int)) : Nat := Or F l l.length []
theorem orders_Oc (F : List (List (α × Int))) (l : List (α × Int)) : orders F l = Oc (rem l []) F l [] := by
  unfold orders; rw [Or_Oc, after_nil, rem_nil]
theorem count_le_orders {n : Nat} {F : List (List (α × Int))} (hF : F ≠ []) (hw : ∀ l ∈ F, (cells l).Nodup) (hr : ∀ l ∈ F, l.length ≤ n) : C n F [] ≤ prod (F.map (orders F)) := by
  have := C_le n F [] hF hw fun l hl => by rw [rem_nil]; exact hr l hl
  rw [map_congr_mem (l := F) (f := orders F) fun l _ => orders_Oc F l]
  exact this
theorem count_one_orders {n : Nat} {l : List (α × Int)} (hw : (cells l).Nodup) (hr : l.length ≤ n) : C n [l] [] = orders [l] l := by
  rw [orders_Oc, Oc_one _ l [] hw rfl]
  exact C_one n l [] hw (by rw [rem_nil]; exact hr)
theorem count_bound {n : Nat} {F : List (List (α × Int))} {done : List α} (hF : F ≠ []) (hw : ∀ l ∈ F, (cells l).Nodup) (hr : ∀ l ∈ F, rem l done ≤ n) : C n F done ≤ prod (F.map fun l => fact (rem l done)) :=
  Nat.le_trans (C_le n F done hF hw hr) (prod_le fun l hl => Oc_le _ F l done hw hl rfl)
theorem prod_le_pow {β : Type} {f : β → Nat} {b : Nat} : ∀ {l : List β}, (∀ x ∈ l, f x ≤ b) → prod (l.map f) ≤ b ^ l.length
  | [], _ => Nat.le_refl 1
  | x :: r, h => by
    rw [List.map_cons, prod_cons, List.length_cons, Nat.pow_succ, Nat.mul_comm]
    exact Nat.mul_le_mul (prod_le_pow (l := r) fun y hy => h y (List.mem_cons_of_mem _ hy)) (h x List.mem_cons_self)
theorem C_le_pow {n : Nat} {F : List (List (α × Int))} {done : List α} (hF : F ≠ []) (hw : ∀ l ∈ F, (cells l).Nodup) (hr : ∀ l ∈ F, rem l done ≤ n) : C n F done ≤ fact n ^ F.length :=
  Nat.le_trans (count_bound hF hw hr) (prod_le_pow fun l hl => fact_mono (hr l hl))

/-! ### the potential of the table of ways -/
def pot (F : List (List (α × Int))) (l : List (α × Int)) (k : Nat) (ways : List (List α × Nat)) : Nat := (ways.map fun p => p.2 * Or F l k p.1).sum
theorem pot_start (F : List (List (α × Int))) (l : List (α × Int)) : pot F l l.length [([], 1)] = orders F l := by
  unfold pot orders; simp
theorem pot_end (F : List (List (α × Int))) (l : List (α × Int)) (ways : List (List α × Nat)) : pot F l 0 ways = (ways.map (·.2)).sum := by
  unfold pot
  congr 1
  exact map_congr_mem fun p _ => by show p.2 * 1 = p.2; rw [Nat.mul_one]
/-- what one set of cells hands on -/
theorem pot_step (F : List (List (α × Int))) (l : List (α × Int)) (k : Nat) (d : List α) (m : Nat) : m * Or F l (k + 1) d = ((avail F l d).map fun c => m * Or F l k (c :: d)).sum := by
  show m * ((avail F l d).map fun c => Or F l k (c :: d)).sum = _
  generalize avail F l d = A
  induction A with
  | nil => simp
  | cons c r ih => simp only [List.map_cons, List.sum_cons]; rw [Nat.mul_add, ih]
/-- a table's entry made greater -/
def bump (key : List α) (m : Nat) : List (List α × Nat) → List (List α × Nat)
  | [] => [(key, m)]
  | (k, x) :: r => if k = key then (k, x + m) :: r else (k, x) :: bump key m r
theorem pot_bump (F : List (List (α × Int))) (l : List (α × Int)) (k : Nat) (key : List α) (m : Nat) : ∀ ways : List (List α × Nat), pot F l k (bump key m ways) = pot F l k ways + m * Or F l k key
  | [] => by simp [bump, pot]
  | (d, x) :: r => by
    unfold bump
    by_cases e : d = key
    · subst e
      rw [if_pos rfl]
      unfold pot
      simp only [List.map_cons, List.sum_cons]
      rw [Nat.add_mul]; omega
    · rw [if_neg e]
      have ih := pot_bump F l k key m r
      unfold pot at ih ⊢
      simp only [List.map_cons, List.sum_cons]
      omega

/-! ### the law's sum -/
theorem one_empty {F : List (List (α × Int))} : (F.length = 1 ∧ unread F [] = []) ↔ F = [[]] := by
  constructor
  · rintro ⟨h1, h2⟩
    obtain ⟨l, e⟩ := List.length_eq_one_iff.mp h1
    subst e
    rw [unread_one] at h2
    have : cells l = [] := by
      rw [List.filter_eq_self.mpr (by intro a _; simp)] at h2
      exact h2
    rw [List.map_eq_nil_iff.mp this]
  · rintro rfl
    exact ⟨rfl, rfl⟩
theorem unread_start (F : List (List (α × Int))) : unread F [] = shared F := by
  unfold unread
  exact List.filter_eq_self.mpr fun _ _ => by simp
/-- the sum over the first cells, G c v the logs of a part without the cell, in any order, vs c the values in any order -/
theorem law_sum {n : Nat} {F : List (List (α × Int))} (hw : ∀ l ∈ F, (cells l).Nodup) (hr : ∀ l ∈ F, l.length ≤ n) (hne : F ≠ [[]]) (vs : α → List Int) (hv : ∀ c ∈ shared F, IsVals F c (vs c)) (G : α → Int → List (List (α × Int)))
    (hG : ∀ c ∈ shared F, ∀ v ∈ vs c, (G c v).Perm ((part F c v).map (drop c))) : ((shared F).map fun c => prod ((vs c).map fun v => C n (G c v) [])).sum = C n F [] := by
  have e1 : C n F [] = C (n + 1) F [] := C_fuel n F [] fun l hl => by rw [rem_nil]; exact hr l hl
  rw [e1]
  conv => rhs; unfold C
  rw [if_neg fun h => hne (one_empty.mp h), unread_start]
  congr 1
  refine map_congr_mem fun c hc => ?_
  rw [← prod_vals (hv c hc)]
  congr 1
  refine map_congr_mem fun v hvv => ?_
  have hp := hG c hc v hvv
  have hw' : ∀ l ∈ G c v, (cells l).Nodup := fun l hl => by
    obtain ⟨m, hm, rfl⟩ := List.mem_map.mp (hp.mem_iff.mp hl)
    rw [cells_drop]
    exact (hw m (mem_part.mp hm).1).filter _
  rw [C_perm n _ _ [] hw' hp, C_drop]
theorem C_empty (n : Nat) : C n ([[]] : List (List (α × Int))) [] = 1 := by
  cases n with
  | zero => rfl
  | succ n => rfl
theorem Good.less {F : List (List (α × Int))} (h : Good F) (c : α) (v : Int) : Good ((Ro.part F c v).map (drop c)) := by
  refine (h.part c v).map (drop c) fun g hg ⟨x, h1, l, hl, m, hm, ne⟩ => ?_
  have hx : x ≠ c := fun e => by
    subst e
    rw [(mem_part.mp (hg l hl)).2, (mem_part.mp (hg m hm)).2] at ne
    exact ne rfl
  refine ⟨x, fun y hy => ?_, drop c l, List.mem_map.mpr ⟨l, hl, rfl⟩, drop c m, List.mem_map.mpr ⟨m, hm, rfl⟩, by rw [get_drop hx, get_drop hx]; exact ne⟩
  obtain ⟨z, hz, rfl⟩ := List.mem_map.mp hy
  exact mem_cells_drop.mpr ⟨h1 z hz, hx⟩
end
end Ro

/-! RoMath3: the fan of forty logs; drawn trees and their logs. -/
namespace Ro
section
variable {α : Type} [DecidableEq α]

/-! ### families that one cell separates -/
theorem Good.of_apart {F : List (List (α × Int))} (c : α) (hc : ∀ l ∈ F, c ∈ cells l) (hp : F.Pairwise fun l m => get l c ≠ get m c) : Good F := fun p h2 => by
  have hp' : (F.filter p).Pairwise fun l m => get l c ≠ get m c := hp.filter _
  have hc' : ∀ l ∈ F.filter p, c ∈ cells l := fun l hl => hc l (List.mem_filter.mp hl).1
  match F.filter p, h2, hp', hc' with
  | a :: b :: r, _, hp', hc' => exact ⟨c, hc', a, List.mem_cons_self, b, List.mem_cons_of_mem _ List.mem_cons_self, (List.pairwise_cons.mp hp').1 b List.mem_cons_self⟩
/-- the logs changed so that what they have stays -/
theorem Good.ext {F : List (List (α × Int))} (h : Good F) (f : List (α × Int) → List (α × Int)) (hf : ∀ l ∈ F, ∀ c ∈ cells l, get (f l) c = get l c) : Good (F.map f) := by
  refine h.map f fun g hg ⟨c, h1, l, hl, m, hm, ne⟩ => ⟨c, fun y hy => ?_, f l, List.mem_map.mpr ⟨l, hl, rfl⟩, f m, List.mem_map.mpr ⟨m, hm, rfl⟩, ?_⟩
  · obtain ⟨z, hz, rfl⟩ := List.mem_map.mp hy
    rw [← get_isSome, hf z (hg z hz) c (h1 z hz), get_isSome]
    exact h1 z hz
  · rw [hf l (hg l hl) c (h1 l hl), hf m (hg m hm) c (h1 m hm)]
    exact ne

/-! ### the fan -/
structure Fan (F : List (List (α × Int))) (c0 : α) (S : List α) : Prop where
  two : 2 ≤ F.length
  wf : ∀ l ∈ F, (cells l).Nodup
  has : ∀ l ∈ F, c0 ∈ cells l
  apart : F.Pairwise fun l m => get l c0 ≠ get m c0
  same : ∀ s ∈ S, ∀ l ∈ F, get l s = some 3
  only : ∀ c, (∀ l ∈ F, c ∈ cells l) → c = c0 ∨ c ∈ S
  nd : (c0 :: S).Nodup
def fanQ (F : List (List (α × Int))) (e : Nat) : Nat := prod (F.map fun l => fact (l.length - e - 1))
def fanv (Q : Nat → Nat) : Nat → Nat → Nat
  | e, 0 => Q e
  | e, j + 1 => Q e + (j + 1) * fanv Q (e + 1) j
theorem rem_sub {l : List (α × Int)} (hn : (cells l).Nodup) : ∀ (done : List α), done.Nodup → (∀ c ∈ done, c ∈ cells l) → rem l done = l.length - done.length
  | [], _, _ => by rw [rem_nil]; rfl
  | c :: d, hd, h => by
    have hd' := List.nodup_cons.mp hd
    have ih := rem_sub hn d hd'.2 fun x hx => h x (List.mem_cons_of_mem _ hx)
    have := rem_succ hn (h c List.mem_cons_self) hd'.1
    rw [List.length_cons]
    omega
theorem Fan.single {F : List (List (α × Int))} {c0 : α} {S : List α} (f : Fan F c0 S) {v : Int} (h : part F c0 v ≠ []) : ∃ l ∈ F, part F c0 v = [l] := by
  have hp : (part F c0 v).Pairwise fun l m => get l c0 ≠ get m c0 := f.apart.filter _
  have hm : ∀ l ∈ part F c0 v, l ∈ F ∧ get l c0 = some v := fun l hl => mem_part.mp hl
  match part F c0 v, h, hp, hm with
  | [l], _, _, hm => exact ⟨l, (hm l List.mem_cons_self).1, rfl⟩
  | a :: b :: r, _, hp, hm =>
    have h1 := (hm a List.mem_cons_self).2
    have h2 := (hm b (List.mem_cons_of_mem _ List.mem_cons_self)).2
    exact absurd (h1.trans h2.symm) ((List.pairwise_cons.mp hp).1 b List.mem_cons_self)
theorem Fan.countAux {F : List (List (α × Int))} {c0 : α} {S : List α} (f : Fan F c0 S) (j : Nat)
    (ih : ∀ (j' n : Nat) (done : List α), done.Nodup → (∀ c ∈ done, c ∈ S) → (j' + 1 = j ∧ done.length + j' = S.length) → (∀ l ∈ F, rem l done ≤ n) → C n F done = fanv (fanQ F) done.length j') :
    ∀ (n : Nat) (done : List α), done.Nodup → (∀ c ∈ done, c ∈ S) → done.length + j = S.length → (∀ l ∈ F, rem l done ≤ n) → C n F done = fanv (fanQ F) done.length j := by
  intro n done hd hs hl hr
  have hF : F ≠ [] := fun e => by have := f.two; rw [e] at this; simp at this
  have hS : S.Nodup := (List.nodup_cons.mp f.nd).2
  have h0 : c0 ∉ S := (List.nodup_cons.mp f.nd).1
  have h0d : c0 ∉ done := fun q => h0 (hs c0 q)
  have hsc : ∀ s ∈ S, ∀ l ∈ F, s ∈ cells l := fun s hs l hl => get_isSome.mp (by rw [f.same s hs l hl]; rfl)
  have hu : (unread F done).Perm (c0 :: S.filter fun c => decide (c ∉ done)) := by
    refine perm_of_mem (unread_nodup f.wf) (List.nodup_cons.mpr ⟨fun q => h0 (List.mem_filter.mp q).1, hS.filter _⟩) fun c => ?_
    rw [mem_unread, mem_shared hF, List.mem_cons, List.mem_filter, decide_eq_true_eq]
    constructor
    · rintro ⟨h1, h2⟩
      rcases f.only c h1 with e | e
      · exact .inl e
      · exact .inr ⟨e, h2⟩
    · rintro (e | ⟨e, h2⟩)
      · subst e; exact ⟨f.has, h0d⟩
      · exact ⟨hsc c e, h2⟩
  obtain ⟨l0, r0, e0⟩ := List.exists_cons_of_ne_nil hF
  have hl0 : l0 ∈ F := by rw [e0]; exact List.mem_cons_self
  have hn : n ≠ 0 := fun e => by
    have := rem_pos (f.has l0 hl0) h0d
    have := hr l0 hl0
    omega
  obtain ⟨m, rfl⟩ := Nat.exists_eq_succ_of_ne_zero hn
  unfold C
  rw [if_neg fun q => by have := f.two; omega]
  refine (sum_perm (hu.map _)).trans ?_
  rw [List.map_cons, List.sum_cons]
  -- c0
  have t0 : prod ((vals F c0).map fun v => C m (part F c0 v) (c0 :: done)) = fanQ F done.length := by
    have e1 : ((vals F c0).map fun v => C m (part F c0 v) (c0 :: done)) = (vals F c0).map fun v => prod ((part F c0 v).map fun l => fact (l.length - done.length - 1)) := by
      refine map_congr_mem fun v hv => ?_
      obtain ⟨l, hlF, e⟩ := f.single (part_ne hv)
      have hlt := rem_lt (f.has l hlF) h0d
      have hle := hr l hlF
      have hrs := rem_sub (f.wf l hlF) (c0 :: done) (List.nodup_cons.mpr ⟨h0d, hd⟩) fun c hc => by
        rcases List.mem_cons.mp hc with q | q
        · subst q; exact f.has l hlF
        · exact hsc c (hs c q) l hlF
      rw [e, C_one m l _ (f.wf l hlF) (by omega), hrs]
      simp only [List.map_cons, List.map_nil, prod, Nat.mul_one, List.length_cons]
      rw [Nat.sub_sub]
    rw [e1]
    refine prod_parts c0 (fun l => fact (l.length - done.length - 1)) (vals F c0) (vals_is F c0).nd F fun l hl => ?_
    obtain ⟨v, hv⟩ := Option.isSome_iff_exists.mp (get_isSome.mpr (f.has l hl))
    exact ⟨v, ((vals_is F c0).mem v).mpr ⟨l, hl, hv⟩, hv⟩
  rw [t0]
  -- the shared ones
  have hlen : (S.filter fun c => decide (c ∉ done)).length = j := by
    have : ∀ (d S : List α), S.Nodup → d.Nodup → (∀ c ∈ d, c ∈ S) → (S.filter fun c => decide (c ∉ d)).length + d.length = S.length := by
      intro d
      induction d with
      | nil => intro S _ _ _; rw [List.filter_eq_self.mpr (by intro a _; simp)]; rfl
      | cons c d ih =>
        intro S hS hd h
        have hd' := List.nodup_cons.mp hd
        have e : S.filter (fun x => decide (x ∉ c :: d)) = (S.filter fun x => decide (x ∉ d)).filter fun x => decide (x ≠ c) := by
          rw [List.filter_filter]
          refine List.filter_congr fun x _ => ?_
          by_cases h1 : x = c <;> by_cases h2 : x ∈ d <;> simp [h1, h2]
        rw [e]
        have h3 := len_filter_ne (hS.filter fun x => decide (x ∉ d)) (List.mem_filter.mpr ⟨h c List.mem_cons_self, decide_eq_true hd'.1⟩)
        have h4 := ih S hS hd'.2 fun x hx => h x (List.mem_cons_of_mem _ hx)
        rw [List.length_cons]
        omega
    have := this done S hS hd hs
    omega
  have t1 : ∀ c ∈ S.filter (fun c => decide (c ∉ done)), prod ((vals F c).map fun v => C m (part F c v) (c :: done)) = C m F (c :: done) := fun c hc => by
    obtain ⟨h1, _⟩ := List.mem_filter.mp hc
    have hv : IsVals F c [3] := ⟨by simp, fun v => by
      rw [List.mem_singleton]
      exact ⟨fun e => ⟨l0, hl0, by rw [e]; exact f.same c h1 l0 hl0⟩, fun ⟨l, hl, e⟩ => by rw [f.same c h1 l hl] at e; exact (Option.some.inj e).symm⟩⟩
    rw [← prod_vals hv]
    have hp : part F c 3 = F := List.filter_eq_self.mpr fun l hl => decide_eq_true (f.same c h1 l hl)
    simp only [List.map_cons, List.map_nil, prod, Nat.mul_one]
    rw [hp]
  cases j with
  | zero =>
    rw [List.length_eq_zero_iff.mp hlen]
    simp [fanv]
  | succ j =>
    have t2 : ∀ c ∈ S.filter (fun c => decide (c ∉ done)), prod ((vals F c).map fun v => C m (part F c v) (c :: done)) = fanv (fanQ F) (done.length + 1) j := fun c hc => by
      rw [t1 c hc]
      obtain ⟨h1, h2⟩ := List.mem_filter.mp hc
      have h2 : c ∉ done := of_decide_eq_true h2
      refine ih j m (c :: done) (List.nodup_cons.mpr ⟨h2, hd⟩) (fun x hx => ?_) ⟨rfl, by rw [List.length_cons]; omega⟩ fun l hl => ?_
      · rcases List.mem_cons.mp hx with q | q
        · subst q; exact h1
        · exact hs x q
      · have := rem_lt (hsc c h1 l hl) h2
        have := hr l hl
        omega
    rw [sum_const t2, hlen]
    rfl
theorem Fan.count {F : List (List (α × Int))} {c0 : α} {S : List α} (f : Fan F c0 S) : ∀ (j n : Nat) (done : List α), done.Nodup → (∀ c ∈ done, c ∈ S) → done.length + j = S.length → (∀ l ∈ F, rem l done ≤ n) →
    C n F done = fanv (fanQ F) done.length j := by
  intro j
  induction j with
  | zero => exact fun n done hd hs hl hr => Fan.countAux f 0 (fun _ _ _ _ _ h => absurd h (by omega)) n done hd hs hl hr
  | succ j ih => exact fun n done hd hs hl hr => Fan.countAux f (j + 1) (fun j' n done hd hs h hr => by
      have e : j' = j := by omega
      subst e
      exact ih n done hd hs (by omega) hr) n done hd hs hl hr
theorem Fan.all {F : List (List (α × Int))} {c0 : α} {S : List α} (f : Fan F c0 S) {n : Nat} (hr : ∀ l ∈ F, l.length ≤ n) : C n F [] = fanv (fanQ F) 0 S.length :=
  f.count S.length n [] (by simp) (by simp) (by simp) fun l hl => by rw [rem_nil]; exact hr l hl
theorem Fan.good {F : List (List (α × Int))} {c0 : α} {S : List α} (f : Fan F c0 S) : Good F := .of_apart c0 f.has f.apart
/-- the loop over the cells that are read ahead -/
theorem fanv_turn (Q : Nat → Nat) {k e total ahead : Nat} (he : e < k) (h : total + ahead * fanv Q e (k - e) = fanv Q 0 k) :
    (total + ahead * Q e) + (ahead * (k - e)) * fanv Q (e + 1) (k - (e + 1)) = fanv Q 0 k := by
  obtain ⟨j, hj⟩ : ∃ j, k - e = j + 1 := ⟨k - e - 1, by omega⟩
  have hj2 : k - (e + 1) = j := by omega
  rw [hj] at h ⊢
  rw [hj2, ← h]
  show _ = total + ahead * (Q e + (j + 1) * fanv Q (e + 1) j)
  rw [Nat.mul_add ahead (Q e), Nat.add_assoc, Nat.mul_assoc]
theorem fanv_last (Q : Nat → Nat) {k total ahead : Nat} (h : total + ahead * fanv Q k (k - k) = fanv Q 0 k) : total + ahead * Q k = fanv Q 0 k := by
  rw [Nat.sub_self] at h
  exact h
end

/-! ### trees -/
mutual
inductive T (α : Type) where
  | leaf
  | node (c : α) (b : B α)
inductive B (α : Type) where
  | nil
  | cons (v : Int) (t : T α) (b : B α)
end
section
variable {α : Type} [DecidableEq α]
mutual
def tlogs : T α → List (List (α × Int))
  | .leaf => [[]]
  | .node c b => blogs c b
def blogs (c : α) : B α → List (List (α × Int))
  | .nil => []
  | .cons v t b => (tlogs t).map ((c, v) :: ·) ++ blogs c b
end
def bvals : B α → List Int
  | .nil => []
  | .cons v _ b => v :: bvals b
def bne : B α → Prop
  | .nil => False
  | .cons _ _ _ => True
mutual
/-- a reader over these cells, its values below a bound -/
def TOk (m : Int) : List α → T α → Prop
  | _, .leaf => True
  | N, .node c b => c ∈ N ∧ bne b ∧ (bvals b).Nodup ∧ (∀ v ∈ bvals b, 0 ≤ v ∧ v ≤ m) ∧ BOk m (N.filter fun x => decide (x ≠ c)) b
def BOk (m : Int) : List α → B α → Prop
  | _, .nil => True
  | N, .cons _ t b => TOk m N t ∧ BOk m N b
end
mutual
def tleaves : T α → Nat
  | .leaf => 1
  | .node _ b => bleaves b
def bleaves : B α → Nat
  | .nil => 0
  | .cons _ t b => tleaves t + bleaves b
end
mutual
theorem tlogs_length : ∀ t : T α, (tlogs t).length = tleaves t
  | .leaf => rfl
  | .node c b => blogs_length c b
theorem blogs_length : ∀ (c : α) (b : B α), (blogs c b).length = bleaves b
  | _, .nil => rfl
  | c, .cons v t b => by
    unfold blogs bleaves
    rw [List.length_append, List.length_map, tlogs_length t, blogs_length c b]
end
mutual
/-- the logs: cells once each, out of N; the values within the bound -/
theorem tlogs_ok (m : Int) : ∀ (N : List α) (t : T α), TOk m N t → ∀ l ∈ tlogs t, (cells l).Nodup ∧ (∀ p ∈ l, p.1 ∈ N ∧ 0 ≤ p.2 ∧ p.2 ≤ m)
  | N, .leaf, _, l, hl => by
    have e : l = [] := by simpa [tlogs] using hl
    subst e
    exact ⟨by simp, by simp⟩
  | N, .node c b, h, l, hl => by
    obtain ⟨h1, h2, h3, h4, h5⟩ := h
    obtain ⟨v, r, hv, e, hn, hr⟩ := blogs_ok m c _ b h5 l hl
    subst e
    refine ⟨?_, fun p hp => ?_⟩
    · show (c :: cells r).Nodup
      refine List.nodup_cons.mpr ⟨fun q => ?_, hn⟩
      obtain ⟨p, hp, e⟩ := List.mem_map.mp q
      have := (List.mem_filter.mp (hr p hp).1).2
      exact of_decide_eq_true this e
    · rcases List.mem_cons.mp hp with e | hp
      · subst e; exact ⟨h1, h4 v hv⟩
      · exact ⟨(List.mem_filter.mp (hr p hp).1).1, (hr p hp).2⟩
theorem blogs_ok (m : Int) (c : α) : ∀ (N : List α) (b : B α), BOk m N b → ∀ l ∈ blogs c b, ∃ v r, v ∈ bvals b ∧ l = (c, v) :: r ∧ (cells r).Nodup ∧ (∀ p ∈ r, p.1 ∈ N ∧ 0 ≤ p.2 ∧ p.2 ≤ m)
  | N, .nil, _, l, hl => by simp [blogs] at hl
  | N, .cons v t b, h, l, hl => by
    obtain ⟨h1, h2⟩ := h
    unfold blogs at hl
    rcases List.mem_append.mp hl with hl | hl
    · obtain ⟨r, hr, e⟩ := List.mem_map.mp hl
      obtain ⟨a1, a2⟩ := tlogs_ok m N t h1 r hr
      exact ⟨v, r, List.mem_cons_self, e.symm, a1, a2⟩
    · obtain ⟨w, r, hw, e, a⟩ := blogs_ok m c N b h2 l hl
      exact ⟨w, r, List.mem_cons_of_mem _ hw, e, a⟩
end
theorem get_head (c : α) (v : Int) (r : List (α × Int)) : get ((c, v) :: r) c = some v := by unfold get; rw [if_pos rfl]
mutual
theorem tlogs_good (m : Int) : ∀ (N : List α) (t : T α), TOk m N t → Good (tlogs t)
  | N, .leaf, _ => fun p h => by
    have : ((tlogs (.leaf : T α)).filter p).length ≤ 1 := Nat.le_trans (List.length_filter_le _ _) (Nat.le_refl 1)
    omega
  | N, .node c b, h => blogs_good m c _ b (fun q => by simp at q) h.2.2.1 h.2.2.2.2
theorem blogs_good (m : Int) (c : α) : ∀ (N : List α) (b : B α), c ∉ N → (bvals b).Nodup → BOk m N b → Good (blogs c b)
  | N, .nil, _, _, _ => fun p h => by simp [blogs] at h
  | N, .cons v t b, hc, hv, h => fun p h2 => by
    have hv' : v ∉ bvals b ∧ (bvals b).Nodup := List.nodup_cons.mp hv
    have hall : ∀ l ∈ blogs c (.cons v t b), ∃ w r, l = (c, w) :: r := fun l hl => by
      obtain ⟨w, r, _, e, _⟩ := blogs_ok m c N _ h l hl
      exact ⟨w, r, e⟩
    have eb : blogs c (.cons v t b) = (tlogs t).map ((c, v) :: ·) ++ blogs c b := by rw [blogs]
    have hcell : ∀ l ∈ (blogs c (.cons v t b)).filter p, c ∈ cells l := fun l hl => by
      obtain ⟨w, r, e⟩ := hall l (List.mem_filter.mp hl).1
      subst e; exact List.mem_cons_self
    rw [eb, List.filter_append] at h2 hcell ⊢
    by_cases hA : ((tlogs t).map ((c, v) :: ·)).filter p = []
    · rw [hA, List.nil_append] at h2 ⊢
      exact blogs_good m c N b hc hv'.2 h.2 p h2
    · by_cases hR : (blogs c b).filter p = []
      · rw [hR, List.append_nil] at h2 ⊢
        refine ((tlogs_good m N t h.1).map ((c, v) :: ·) fun g hg ⟨x, h1, l, hl, k, hk, ne⟩ => ?_) p h2
        have hx : x ≠ c := fun e => by
          subst e
          obtain ⟨q, hq, e⟩ := List.mem_map.mp (h1 l hl)
          exact hc (e ▸ ((tlogs_ok m N t h.1 l (hg l hl)).2 q hq).1)
        have hget : ∀ z : List (α × Int), get ((c, v) :: z) x = get z x := fun z => by
          conv => lhs; unfold get
          rw [if_neg fun e => hx e.symm]
        refine ⟨x, fun y hy => ?_, _, List.mem_map.mpr ⟨l, hl, rfl⟩, _, List.mem_map.mpr ⟨k, hk, rfl⟩, by rw [hget, hget]; exact ne⟩
        obtain ⟨z, hz, rfl⟩ := List.mem_map.mp hy
        exact List.mem_cons_of_mem _ (h1 z hz)
      · obtain ⟨a, ra, ea⟩ := List.exists_cons_of_ne_nil hA
        obtain ⟨d, rd, ed⟩ := List.exists_cons_of_ne_nil hR
        have ha : a ∈ ((tlogs t).map ((c, v) :: ·)).filter p := by rw [ea]; exact List.mem_cons_self
        have hd : d ∈ (blogs c b).filter p := by rw [ed]; exact List.mem_cons_self
        refine ⟨c, hcell, a, List.mem_append_left _ ha, d, List.mem_append_right _ hd, fun e => ?_⟩
        obtain ⟨z, _, e1⟩ := List.mem_map.mp (List.mem_filter.mp ha).1
        obtain ⟨w, r, hw, e2, _⟩ := blogs_ok m c N b h.2 d (List.mem_filter.mp hd).1
        rw [← e1, e2, get_head, get_head] at e
        exact hv'.1 (Option.some.inj e ▸ hw)
end
end
end Ro

/-! RoKit1: what is kept, plain tuples, data read off the abstract heap; wide powers; sorted of data; dict of a tuple; repr. -/
namespace Ro
open PySem PySem.Spec PyProof.Rows L2

/-! ### what is kept: all but the things of S; frozen things always -/
structure Kp (S : Addr → Prop) (H H' : Hp) : Prop where
  keep : ∀ a o, H a = some o → ¬ S a → H' a = some o
  frz : ∀ a o u, H a = some (.frz o u) → H' a = some (.frz o u)
abbrev Nil : Addr → Prop := fun _ => False
abbrev One (b : Addr) : Addr → Prop := fun a => a = b
section
variable {S S' : Addr → Prop} {H H1 H2 H3 : Hp} {p : Addr} {o : HO}
theorem Kp.refl : Kp S H H := ⟨fun _ _ h _ => h, fun _ _ _ h => h⟩
theorem Kp.trans (a : Kp S H H1) (b : Kp S H1 H2) : Kp S H H2 := ⟨fun x o h n => b.keep x o (a.keep x o h n) n, fun x o u h => b.frz x o u (a.frz x o u h)⟩
theorem Kp.wide (a : Kp S H H1) (h : ∀ x, S x → S' x) : Kp S' H H1 := ⟨fun x o e n => a.keep x o e fun z => n (h x z), a.frz⟩
theorem Kp.nil (a : Kp Nil H H1) : Kp S H H1 := a.wide fun _ z => z.elim
/-- a new thing -/
theorem Kp.new (a : Kp S H H1) (n : H1 p = none) : Kp S H (upd H1 p o) :=
  ⟨fun x u h z => by rw [upd_ne (ne_of_none (a.keep x u h z) n)]; exact a.keep x u h z, fun x u v h => by rw [upd_ne (ne_of_none (a.frz x u v h) n)]; exact a.frz x u v h⟩
/-- a thing changed that was not there -/
theorem Kp.mut (a : Kp S H H1) (n : H p = none) : Kp S H (upd H1 p o) :=
  ⟨fun x u h z => by rw [upd_ne (ne_of_none h n)]; exact a.keep x u h z, fun x u v h => by rw [upd_ne (ne_of_none h n)]; exact a.frz x u v h⟩
/-- a thing of S changed -/
theorem Kp.own (a : Kp S H H1) (s : S p) (n : ∀ u v, H p ≠ some (.frz u v)) : Kp S H (upd H1 p o) :=
  ⟨fun x u h z => (upd_ne (H := H1) (o := o) (fun e => z (by rw [e]; exact s))).trans (a.keep x u h z), fun x u v h => by
    have e : x ≠ p := fun e => n u v (e ▸ h)
    rw [upd_ne e]; exact a.frz x u v h⟩
theorem Kp.fresh (a : Kp Nil H H1) (n : H1 p = none) : H p = none := by
  cases e : H p with
  | none => rfl
  | some u => rw [a.keep p u e (fun z => z)] at n; cases n
theorem Kp.fresh' (a : Kp S H H1) (n : H1 p = none) (s : ¬ S p) : H p = none := by
  cases e : H p with
  | none => rfl
  | some u => rw [a.keep p u e s] at n; cases n
theorem Kp.rd (a : Kp S H H1) {u : HO} (h : Rd H p u) (s : ¬ S p) : Rd H1 p u := h.elim (fun e => .inl (a.keep _ _ e s)) fun ⟨o, e⟩ => .inr ⟨o, a.frz _ _ _ e⟩
theorem Kp.sql (a : Kp S H H1) {K : PySem.W.Frag} {xs : List V} (h : SqL K H p xs) (s : ¬ S p) : SqL K H1 p xs := h.elim (fun e => .inl (a.rd e s)) .inr
theorem Kp.sqt (a : Kp S H H1) {K : PySem.W.Frag} {xs : List V} (h : SqT K H p xs) (s : ¬ S p) : SqT K H1 p xs := h.elim (fun e => .inl (a.rd e s)) .inr
end

/-! ### plain tuples -/
def Pt (H : Hp) (a : Addr) (xs : List V) : Prop := ∃ o, H a = some (.frz o (.tup xs)) ∧ o.cls = .type "tuple" ∧ o.dict = none
theorem Pt.keep {S : Addr → Prop} {H H' : Hp} {a : Addr} {xs : List V} (k : Kp S H H') (h : Pt H a xs) : Pt H' a xs := let ⟨o, e, r⟩ := h; ⟨o, k.frz _ _ _ e, r⟩
theorem Pt.sqt {K : PySem.W.Frag} {H : Hp} {a : Addr} {xs : List V} (h : Pt H a xs) : SqT K H a xs := let ⟨o, e, _⟩ := h; .inl (.inr ⟨o, e⟩)
theorem Pt.inj {H : Hp} {a : Addr} {xs ys : List V} (h : Pt H a xs) (h' : Pt H a ys) : xs = ys := by
  obtain ⟨o, e, _⟩ := h
  obtain ⟨o', e', _⟩ := h'
  rw [e] at e'
  cases e'; rfl
theorem Pt.some {H : Hp} {a : Addr} {xs : List V} (h : Pt H a xs) : H a ≠ none := by
  obtain ⟨o, e, _⟩ := h
  rw [e]; exact fun z => nomatch z
theorem Pt.new {H : Hp} {a : Addr} {xs : List V} {o : Obj} (hc : o.cls = .type "tuple") (hd : o.dict = none) : Pt (upd H a (.frz o (.tup xs))) a xs := ⟨o, upd_same, hc, hd⟩

/-! ### data that reads off the heap: ints, texts, plain tuples of such -/
mutual
inductive Tv (H : Hp) : V → PyData → Prop
  | int (i : Int) : Tv H (.int i) (.int i)
  | str (x : Str) : Tv H (.str x) (.str x)
  | tup {a : Addr} {xs : List V} {ds : List PyData} : Pt H a xs → TvAll H xs ds → Tv H (.ref a) (.tuple ds)
inductive TvAll (H : Hp) : List V → List PyData → Prop
  | nil : TvAll H [] []
  | cons {v : V} {vs : List V} {d : PyData} {ds : List PyData} : Tv H v d → TvAll H vs ds → TvAll H (v :: vs) (d :: ds)
end
mutual
theorem Tv.keep {S : Addr → Prop} {H H' : Hp} (k : Kp S H H') : ∀ {v : V} {d : PyData}, Tv H v d → Tv H' v d
  | _, _, .int i => .int i
  | _, _, .str x => .str x
  | _, _, .tup h t => .tup (h.keep k) (TvAll.keep k t)
theorem TvAll.keep {S : Addr → Prop} {H H' : Hp} (k : Kp S H H') : ∀ {vs : List V} {ds : List PyData}, TvAll H vs ds → TvAll H' vs ds
  | _, _, .nil => .nil
  | _, _, .cons h t => .cons (Tv.keep k h) (TvAll.keep k t)
end
mutual
theorem Tv.dp {K : PySem.W.Frag} {H : Hp} : ∀ {v : V} {d : PyData}, Tv H v d → Dp K H v d
  | _, _, .int i => .int i
  | _, _, .str x => .str x
  | _, _, .tup h t => .tup h.sqt (TvAll.dp t)
theorem TvAll.dp {K : PySem.W.Frag} {H : Hp} : ∀ {vs : List V} {ds : List PyData}, TvAll H vs ds → DpAll K H vs ds
  | _, _, .nil => .nil
  | _, _, .cons h t => .cons (Tv.dp h) (TvAll.dp t)
end
theorem TvAll.length {H : Hp} : ∀ {vs : List V} {ds : List PyData}, TvAll H vs ds → vs.length = ds.length
  | _, _, .nil => rfl
  | _, _, .cons _ t => by rw [List.length_cons, List.length_cons, t.length]
theorem TvAll.append {H : Hp} : ∀ {vs ws : List V} {ds es : List PyData}, TvAll H vs ds → TvAll H ws es → TvAll H (vs ++ ws) (ds ++ es)
  | _, _, _, _, .nil, b => b
  | _, _, _, _, .cons h t, b => .cons h (TvAll.append t b)
theorem TvAll.get {H : Hp} : ∀ {vs : List V} {ds : List PyData} {i : Nat} {v : V}, TvAll H vs ds → vs[i]? = some v → ∃ d, ds[i]? = some d ∧ Tv H v d
  | _, _, _, _, .nil, e => by simp at e
  | _, _, 0, _, .cons h _, e => by simp at e; subst e; exact ⟨_, rfl, h⟩
  | _, _, i + 1, v, .cons _ t, e => by
    obtain ⟨d, h1, h2⟩ := TvAll.get (i := i) t (by simpa using e)
    exact ⟨d, by simpa using h1, h2⟩
theorem TvAll.get' {H : Hp} : ∀ {vs : List V} {ds : List PyData} {i : Nat} {d : PyData}, TvAll H vs ds → ds[i]? = some d → ∃ v, vs[i]? = some v ∧ Tv H v d
  | _, _, _, _, .nil, e => by simp at e
  | _, _, 0, _, .cons h _, e => by simp at e; subst e; exact ⟨_, rfl, h⟩
  | _, _, i + 1, d, .cons _ t, e => by
    obtain ⟨v, h1, h2⟩ := TvAll.get' (i := i) t (by simpa using e)
    exact ⟨v, by simpa using h1, h2⟩
theorem TvAll.tail {H : Hp} {vs : List V} {ds : List PyData} (h : TvAll H vs ds) : TvAll H (vs.drop 1) (ds.drop 1) := by
  cases h with
  | nil => exact .nil
  | cons _ t => simpa using t
theorem TvAll.take {H : Hp} : ∀ {vs : List V} {ds : List PyData} (n : Nat), TvAll H vs ds → TvAll H (vs.take n) (ds.take n)
  | _, _, 0, _ => .nil
  | _, _, _ + 1, .nil => .nil
  | _, _, n + 1, .cons h t => .cons h (TvAll.take n t)
theorem TvAll.drop {H : Hp} : ∀ {vs : List V} {ds : List PyData} (n : Nat), TvAll H vs ds → TvAll H (vs.drop n) (ds.drop n)
  | _, _, 0, h => h
  | _, _, _ + 1, .nil => .nil
  | _, _, n + 1, .cons _ t => TvAll.drop n t
theorem TvAll.snoc {H : Hp} {vs : List V} {ds : List PyData} {v : V} {d : PyData} (h : TvAll H vs ds) (t : Tv H v d) : TvAll H (vs ++ [v]) (ds ++ [d]) := h.append (.cons t .nil)
theorem Tv.inv {H : Hp} {v : V} {ds : List PyData} (h : Tv H v (.tuple ds)) : ∃ a xs, v = .ref a ∧ Pt H a xs ∧ TvAll H xs ds := by
  cases h with
  | tup p t => exact ⟨_, _, rfl, p, t⟩
theorem Tv.inv_int {H : Hp} {v : V} {i : Int} (h : Tv H v (.int i)) : v = .int i := by cases h; rfl
theorem Tv.inv_str {H : Hp} {v : V} {x : Str} (h : Tv H v (.str x)) : v = .str x := by cases h; rfl
theorem TvAll.strs {H : Hp} : ∀ xs : List Str, TvAll H (xs.map V.str) (xs.map PyData.str)
  | [] => .nil
  | x :: r => .cons (.str x) (TvAll.strs r)
theorem TvAll.inv_strs {H : Hp} : ∀ {xs : List Str} {vs : List V}, TvAll H vs (xs.map PyData.str) → vs = xs.map V.str
  | [], _, h => by cases h; rfl
  | x :: r, _, h => by
    cases h with
    | cons h t => rw [h.inv_str, TvAll.inv_strs t]; rfl

/-! ### the data of this program -/
abbrev Pr := Str × Int
abbrev Lg := List Pr
abbrev Fm := List Lg
def encP (p : Pr) : PyData := .tuple [.str p.1, .int p.2]
def encL (l : Lg) : PyData := .tuple (l.map encP)
def encF (F : Fm) : PyData := .tuple (F.map encL)
theorem TvAll.inv_pairs {H : Hp} {p : Pr} {v : V} (h : Tv H v (encP p)) : ∃ a, v = .ref a ∧ Pt H a [.str p.1, .int p.2] := by
  obtain ⟨a, xs, rfl, hp, ha⟩ := h.inv
  cases ha with
  | cons h1 t =>
    cases t with
    | cons h2 t =>
      cases t
      rw [h1.inv_str, h2.inv_int] at hp
      exact ⟨a, rfl, hp⟩
theorem Tv.pair {H : Hp} {a : Addr} {c : Str} {v : Int} (h : Pt H a [.str c, .int v]) : Tv H (.ref a) (encP (c, v)) := .tup h (.cons (.str c) (.cons (.int v) .nil))

/-! ### tuples made -/
section
variable {X : Cx} {e : Expr} {es : List Expr} {te : TE} {t : TA} {pos : Pos}
def tTupP (t : TA) : TE := fun σ H Q => t σ H fun xs H1 => xs.length ≤ sizeLine ∧ ∀ p o, H1 p = none → o.cls = .type "tuple" → o.dict = none → Q (.ref p) (upd H1 p (.frz o (.tup xs)))
theorem frz_ok {P : Program} {w : World} {H : Hp} {h : Heap} {a : Addr} {o : Obj} {xs : List V} {its : List Value} {n : Nat} (hz : xs.length ≤ sizeLine) (r : Vals xs its) (e : h.get? a = some o) (hc : o.cls = .type "tuple") (hd : o.data = .seq its.toArray n) :
    ObjOk P w H h a (.frz o (.tup xs)) := ⟨e, hz, its, r, o, e, hc, n, hd⟩
theorem pe_tupP {k : Nat} (h : PA X es t) : PE X (.Tuple es k pos) (tTupP t) := by
  refine ⟨fun pins s σ H Q I hq => wpAny_Tuple_spliced (thn (h.run pos pins s σ H _ I hq) fun us s1 ⟨xs, H1, I1, r, z, q⟩ => ⟨by rw [← r.length]; exact z, ?_⟩)⟩
  have new : (s1.heap.push { cls := .type "tuple", data := .seq us.toArray }).get? s1.heap.objs.size = some { cls := .type "tuple", data := .seq us.toArray } := Heap.get?_push_size _ rfl
  exact ⟨.ref s1.heap.objs.size, _, I1.laid (t' := s1.toks) (fun b u e => Heap.get?_push_of_some _ e) (Nat.le_refl _) (frz_ok z r new rfl rfl), rfl, q _ _ (I1.hok.fresh (Nat.le_refl _)) rfl rfl⟩
/-- tuple(xs) of a list -/
theorem call_tupleP : CallR X (.type "tuple") (fun xs H Q => ∃ p ys, xs = [.ref p] ∧ SqL X.K H p ys ∧ ∀ l o, H l = none → o.cls = .type "tuple" → o.dict = none → Q (.ref l) (upd H l (.frz o (.tup ys)))) := by
  intro pins s σ H xs us Q I r ⟨p, ys, ex, hq, q⟩
  subst ex
  obtain ⟨u, eu, rx⟩ := vals1 r
  subst eu
  cases rx
  obtain ⟨its, r', pl, hz⟩ := I.list hq
  have hl := r'.length
  refine call_tuple_list pl.isList (fun h' kp => ?_) (by simp only [List.size_toArray]; omega)
  have I1 : Inv X pins σ H { s with heap := h' } := I.kept (t' := s.toks) kp
  have new : (h'.push { cls := .type "tuple", data := .seq its.toArray }).get? h'.objs.size = some { cls := .type "tuple", data := .seq its.toArray } := Heap.get?_push_size _ rfl
  exact ⟨.ref h'.objs.size, _, I1.laid (t' := s.toks) (fun b u e => Heap.get?_push_of_some _ e) (Nat.le_refl _) (frz_ok hz r' new rfl rfl), rfl, q _ _ (I1.hok.fresh (Nat.le_refl _)) rfl rfl⟩
end
end Ro

/-! RoKit2: tuple + tuple, great powers, sorted of data, dict of a tuple of pairs, repr of two ints. -/
namespace Ro
open PySem PySem.Spec PyProof.Rows L2

section
variable {X : Cx}
/-- t + u, into a plain tuple -/
def rCatP (K : PySem.W.Frag) : R2 := fun x y H Q => ∃ a b xs ys, x = .ref a ∧ y = .ref b ∧ SqT K H a xs ∧ SqT K H b ys ∧ xs.length + ys.length ≤ sizeLine ∧
  (xs = [] → Q (.ref b) H) ∧ (xs ≠ [] → ys = [] → Q (.ref a) H) ∧
  (xs ≠ [] → ys ≠ [] → ∀ p o, H p = none → o.cls = .type "tuple" → o.dict = none → Q (.ref p) (upd H p (.frz o (.tup (xs ++ ys)))))
theorem op_catP : OpR X (binaryOp .Add) (rCatP X.K) := by
  intro pins s σ H x y v u Q I rx ry ⟨a, b, xs, ys, ex, ey, ha, hb, hz, q0, q1, q2⟩
  subst ex ey
  cases rx
  cases ry
  obtain ⟨its, r1, p1, _⟩ := I.tuple ha
  obtain ⟨its2, r2, p2, _⟩ := I.tuple hb
  by_cases hx : xs = []
  · subst hx
    cases r1
    exact cat_tup0 p1 p2 ⟨.ref b, H, I, rfl, q0 rfl⟩
  · have new : ∀ k : Heap, (k.push { cls := .type "tuple", data := .seq (its ++ its2).toArray }).get? k.objs.size = some { cls := .type "tuple", data := .seq (its ++ its2).toArray } := fun k => Heap.get?_push_size k rfl
    refine HT.cat_tup p1 p2 (fun z => hx (r1.nil_iff.mp z)) (fun z => ⟨.ref a, H, I, rfl, q1 hx (r2.nil_iff.mp z)⟩) (fun z => ?_) (by rw [← r1.length, ← r2.length]; exact hz)
    refine ⟨.ref s.heap.objs.size, _, I.laid (t' := s.toks) (fun _ _ e => Heap.get?_push_of_some _ e) (Nat.le_refl _) (frz_ok ?_ (r1.append r2) (new s.heap) rfl rfl), rfl, q2 hx (fun w => z (r2.nil_iff.mpr w)) _ _ (I.hok.fresh (Nat.le_refl _)) rfl rfl⟩
    rw [List.length_append]
    exact hz

/-! ### powers -/
def CPowW (i j : Int) : Prop := 0 ≤ j ∧ ∃ b : Nat, i.natAbs < 2 ^ b ∧ (b : Int) * j ≤ 2 ^ 27
theorem op_powW : OpR X (binaryOp .Pow) (rI CPowW fun i j => .int (i ^ j.toNat)) := opI fun i j _ _ _ _ _ hc q => by
  obtain ⟨h0, b, hb, hz⟩ := hc
  refine pow_int h0 (Int.le_trans (Int.mul_le_mul_of_nonneg_right ?_ h0) hz) q
  exact Int.ofNat_le.mpr (PyProof.Rows.intBits_le hb)
end

/-! ### sorted, of things that read as data -/
section
variable {prog : Program} {w : World} {A : Around} {E : Value → Shared → Prop} {s : Shared}
open PySem.W in
/-- fewer than two items: nothing is compared -/
theorem sorts_short {vs : List Value} {ds : List PyData} (e : EachIs (fun v d => ∃ as, Reads s.heap v d as) vs ds) (hal : AllAlike ds) (hn : ∀ d, d ∈ ds → d ≠ .none) (h2 : vs.length < 2) (hu : ∀ d, d ∈ ds → A.units + d.depth < cLine) :
    SortsAt prog w A s (dataKind s.heap ds) vs := by
  refine ⟨fun v hv => ?_, general', ?_, fun h => absurd h (Nat.not_le.mpr h2)⟩
  · obtain ⟨d, hd, as, r⟩ := e.left v hv
    exact ⟨_, dataKind_some hal hd r⟩
  · intro E x y a b Q ha hb hq
    obtain ⟨d, as, hd, ra, rfl⟩ := dataKind_inv ha
    obtain ⟨d', as', hd', rb, rfl⟩ := dataKind_inv hb
    have room : A.units + min d.depth d'.depth < cLine := Nat.lt_of_le_of_lt (Nat.add_le_add_left (Nat.min_le_left _ _) _) (hu d hd)
    exact oneLt_alike (f := false) (fun z => nomatch z) ra rb (hal d hd d' hd') (hn d hd) room hq

open PySem.W in
/-- what may be sorted -/
def SortOk (ds : List PyData) : Prop := AllAlike ds ∧ (Sortable ds ∨ (ds.length < 2 ∧ ∀ d, d ∈ ds → d ≠ .none)) ∧ ds.length ≤ sizeLine ∧ ∀ d, d ∈ ds → d.depth ≤ 60
open PySem.W in
theorem SortOk.at {vs : List Value} {ds : List PyData} (k : SortOk ds) (e : EachIs (fun v d => ∃ as, Reads s.heap v d as) vs ds) (hu : A.units + 60 < cLine) : SortsAt prog w A s (dataKind s.heap ds) vs := by
  obtain ⟨hal, hk, _, hd⟩ := k
  have room : ∀ d, d ∈ ds → A.units + d.depth < cLine := fun d h => Nat.lt_of_le_of_lt (Nat.add_le_add_left (hd d h) _) hu
  rcases hk with hk | ⟨h2, hn⟩
  · exact SortsAt.data e hal hk room
  · exact sorts_short e hal hn (by rw [e.length]; exact h2) room
open PySem.W in
/-- sorted(v), where v's items have been gathered -/
theorem sorted_gathered {v : Value} {ds : List PyData} {R : Value → PyData → Prop} {Q : Value → Shared → Prop} (k : SortOk ds) (hu : A.units + 62 < cLine)
    (gather : ∀ (Q' : List Value → Shared → Prop), (∀ (h' : Heap) (tk : Nat) (vs : List Value), (∀ b o, s.heap.get? b = some o → h'.get? b = some o) → EachIs R vs ds → Q' vs { s with heap := h', toks := tk }) → wpAny (model prog w) A.in1 (collect v) Q' E s)
    (reads : ∀ (h' : Heap) u d, (∀ b o, s.heap.get? b = some o → h'.get? b = some o) → R u d → ∃ as, Reads h' u d as)
    (h : ∀ (h1 h' : Heap) (tk c : Nat) (out : List Value), (∀ b o, s.heap.get? b = some o → h1.get? b = some o) → (∀ b o, h1.get? b = some o → h'.get? b = some o) → EachIs R out (ds.mergeSort (dataLe false id)) →
      h'.get? h1.objs.size = some (seqObj "list" out.toArray c) → Q (.ref h1.objs.size) { s with heap := h', toks := tk }) :
    wpAny (model prog w) A (call (.builtin "sorted") [v]) Q E s := by
  have hL := k.2.2.1
  refine Calls.call_function_entry kind_sorted plain_sorted entry_sorted (args_sorted1 _) ?_
  unfold Builtin.«sorted»
  refine wpAny_bind (m := checkCount "sorted" 1 1 _) (wpAny_pure ?_)
  refine wpAny_bind (gather _ fun h1 tk vs k1 e1 => ?_)
  have hv : vs.length ≤ sizeLine := by rw [e1.length]; exact hL
  refine wpAny_bind (wpAny_newList ?_ hv)
  have at1 : (h1.push (seqObj "list" vs.toArray 0)).get? h1.objs.size = some (seqObj "list" vs.toArray 0) := Heap.get?_push_size _ rfl
  have k2 : ∀ b o, s.heap.get? b = some o → b ≠ h1.objs.size ∧ (sortingHeap (h1.push (seqObj "list" vs.toArray 0)) h1.objs.size vs).get? b = some o := fun b o e => by
    have q := k1 b o e
    have ne := Nat.ne_of_lt (Heap.lt_size q)
    exact ⟨ne, sortingHeap_old ne (Heap.get?_push_of_some _ q)⟩
  have e2 : EachIs (fun u d => ∃ as, Reads (sortingHeap (h1.push (seqObj "list" vs.toArray 0)) h1.objs.size vs) u d as) vs ds := e1.mono fun u d r => reads _ u d (fun b o e => (k2 b o e).2) r
  refine wpAny_bind (wpAny_holding (wpAny_call_entry PyProof.Rows.slot_list_sort ⟨_, at1, rfl⟩ PyProof.Rows.entry_list_sort
    (list_sort_vals (κ := dataKind (sortingHeap (h1.push (seqObj "list" vs.toArray 0)) h1.objs.size vs) ds) at1 (k.at (s := { s with heap := sortingHeap (h1.push (seqObj "list" vs.toArray 0)) h1.objs.size vs, toks := tk }) e2 (by show A.units + 1 + 1 + 60 < cLine; omega)) hv ⟨_, rfl, ?_⟩) (args_list_sort _)))
  have out := sortVals_data (h' := sortingHeap (h1.push (seqObj "list" vs.toArray 0)) h1.objs.size vs) (enc := id) false e1 e2 (by rw [List.map_id]; exact k.1)
  rw [List.map_id] at out
  obtain ⟨c, at3⟩ := sortedHeap_at (vs := vs) (out := (sortVals (dataKind (sortingHeap (h1.push (seqObj "list" vs.toArray 0)) h1.objs.size vs) ds) false vs vs).toArray) at1
  refine wpAny_pure ⟨_, rfl, h h1 _ tk c _ k1 (fun b o q => ?_) out at3⟩
  have ne := Nat.ne_of_lt (Heap.lt_size q)
  exact (sortedHeap_old ne (by rw [size_push']; exact Nat.lt_succ_of_lt (Heap.lt_size q))).trans (Heap.get?_push_of_some _ q)
end
end Ro

/-! RoKit3: the rules for sorted(list | tuple), dict(tuple of pairs), repr([i, j]). -/
namespace Ro
open PySem PySem.Spec PyProof.Rows L2

section
variable {X : Cx} {pins : List (Addr × Obj)} {σ : L2.St} {H : Hp} {s : Shared}
/-- u stands for the datum d -/
def Stands (H : Hp) (u : Value) (d : PyData) : Prop := ∃ v, RelV v u ∧ Tv H v d
theorem stands_all : ∀ {vs : List V} {us : List Value} {ds : List PyData}, TvAll H vs ds → Vals vs us → PySem.W.EachIs (Stands H) us ds
  | _, _, _, .nil, .nil => .nil
  | _, _, _, .cons h t, .cons r q => .cons ⟨_, r, h⟩ (stands_all t q)
theorem of_stands : ∀ {us : List Value} {ds : List PyData}, PySem.W.EachIs (Stands H) us ds → ∃ vs, Vals vs us ∧ TvAll H vs ds
  | _, _, .nil => ⟨[], .nil, .nil⟩
  | _, _, .cons ⟨v, r, h⟩ t => let ⟨vs, a, b⟩ := of_stands t; ⟨v :: vs, .cons r a, .cons h b⟩
theorem Stands.reads (I : Inv X pins σ H s) {h' : Heap} (k : ∀ b o, s.heap.get? b = some o → h'.get? b = some o) {u : Value} {d : PyData} (x : Stands H u d) : ∃ as, Reads h' u d as := by
  obtain ⟨v, r, t⟩ := x
  obtain ⟨as, q⟩ := Dp.reads (X := X) I d v u t.dp r
  exact ⟨as, PyProof.Rows.Reads.keeps k q⟩
def rSortV (K : PySem.W.Frag) : List V → Hp → VK → Prop := fun xs H Q => ∃ a ys ds, xs = [.ref a] ∧ (SqL K H a ys ∨ SqT K H a ys) ∧ TvAll H ys ds ∧ SortOk ds ∧
  ∀ p zs, H p = none → TvAll H zs (ds.mergeSort (PySem.W.dataLe false id)) → Q (.ref p) (upd H p (.lst zs))
theorem cr_sortV (hu : X.A.units + 64 < cLine) : CallR X (.builtin "sorted") (rSortV X.K) := by
  intro pins s σ H xs us Q I r ⟨a, ys, ds, ex, hq, hd, ok, q⟩
  subst ex
  obtain ⟨u, eu, rx⟩ := vals1 r
  subst eu
  cases rx
  obtain ⟨its, o, n, T, r', hT, ho, hc, hdat, hz⟩ : ∃ (its : List Value) (o : Obj) (n : Nat) (T : String), Vals ys its ∧ (T = "list" ∨ T = "tuple") ∧ s.heap.get? a = some o ∧ o.cls = .type T ∧ o.data = .seq its.toArray n ∧ ys.length ≤ sizeLine := by
    rcases hq with hq | hq
    · obtain ⟨its, r', pl, hz⟩ := I.list hq
      obtain ⟨o, ho, hc, n, e⟩ := pl.isList
      exact ⟨its, o, n, "list", r', .inl rfl, ho, hc, e, hz⟩
    · obtain ⟨its, r', ⟨o, ho, hc, n, e⟩, hz⟩ := I.tuple hq
      exact ⟨its, o, n, "tuple", r', .inr rfl, ho, hc, e, hz⟩
  have hl := r'.length
  refine sorted_gathered (R := Stands H) ok (by omega) (fun Q' hQ => ?_) (fun h' u d k x => x.reads I k) fun h1 h' tk c out k1 k2 e at3 => ?_
  · refine wpAny_collect_seq a hT ho hc hdat (fun h' k => hQ h' s.toks its k (stands_all hd r')) ?_
    rw [List.size_toArray, ← hl]
    exact hz
  · have I1 : Inv X pins σ H { s with heap := h1, toks := tk } := I.kept k1
    obtain ⟨zs, rz, tz⟩ := of_stands e
    have ez : zs.length ≤ sizeLine := by rw [tz.length, List.length_mergeSort (le := PySem.W.dataLe false id) ds]; exact ok.2.2.1
    exact ⟨.ref h1.objs.size, _, I1.laid (t' := tk) k2 (Nat.le_refl _) (show ObjOk X.prog X.w _ _ _ (.lst zs) from ⟨ez, out, c, rz, at3⟩), rfl, q _ zs (I1.hok.fresh (Nat.le_refl _)) tz⟩

/-! ### dict of a tuple of pairs -/
def kvL (l : Lg) : List (Key × V) := l.map fun p => (Sum.inr p.1, V.int p.2)
def dictL (l : Lg) : List (Key × V) := mergeK [] (kvL l)
/-- the pairs' values, as they stand -/
theorem pairs_at (I : Inv X pins σ H s) : ∀ {l : Lg} {vs : List V} {us : List Value}, TvAll H vs (l.map encP) → Vals vs us →
    ∃ (Ts : Nat → Addr) (ps : List (Value × Value)) (kvs : List (Key × Value)), ps.length = l.length ∧ us.length = l.length ∧ KV (kvL l) kvs ∧ kvs.length = l.length ∧
      ∀ j k v, ps[j]? = some (k, v) → us[j]? = some (.ref (Ts j)) ∧ s.heap.IsTuple (Ts j) #[k, v] ∧ ∃ key, kvs[j]? = some (key, v) ∧ keyIs key k = true
  | [], _, _, h, r => by
    cases h
    cases r
    exact ⟨fun _ => 0, [], [], rfl, rfl, .nil, rfl, fun j k v e => by simp at e⟩
  | p :: l, _, _, h, r => by
    cases h with
    | cons h1 t =>
      cases r with
      | cons r1 rt =>
        obtain ⟨Ts, ps, kvs, e1, e2, e3, e4, e5⟩ := pairs_at I t rt
        obtain ⟨a, rfl, hp⟩ := TvAll.inv_pairs h1
        cases r1
        obtain ⟨its, rv, ⟨o, ho, hc, n, hd⟩, _⟩ := I.tuple hp.sqt
        obtain ⟨k, v, rfl, rk, rv2⟩ := vals2 rv
        obtain ⟨tk, rfl⟩ := rk
        refine ⟨fun j => match j with | 0 => a | j + 1 => Ts j, (.str p.1 tk, v) :: ps, (Sum.inr p.1, v) :: kvs, by rw [List.length_cons, e1]; rfl, by rw [List.length_cons, e2]; rfl, .cons ⟨rfl, rv2⟩ e3, by rw [List.length_cons, e4]; rfl, fun j k v' e => ?_⟩
        cases j with
        | zero =>
          have e' := Option.some.inj e
          injection e' with a1 a2
          subst a1 a2
          exact ⟨rfl, ⟨o, ho, hc, n, hd⟩, _, rfl, keyIs_str _ _⟩
        | succ j =>
          have q := e5 j k v' e
          exact q
theorem length_dictL (l : Lg) : (dictL l).length ≤ l.length := by
  have := length_mergeK (kvL l) []
  unfold dictL
  have e : (kvL l).length = l.length := List.length_map ..
  rw [e, List.length_nil, Nat.zero_add] at this
  exact this
def rDictT : List V → Hp → VK → Prop := fun xs H Q => ∃ a ys l, xs = [.ref a] ∧ Pt H a ys ∧ TvAll H ys (l.map encP) ∧ ∀ p, H p = none → Q (.ref p) (upd H p (.dK (dictL l)))
/-- dict(t) of a tuple of pairs -/
theorem call_dictT (hcalm : X.calm = true) : CallR X (.type "dict") rDictT := by
  intro pins s σ H xs us Q I r ⟨a, ys, l, ex, hP, hT, q⟩
  subst ex
  obtain ⟨u, eu, rx⟩ := vals1 r
  subst eu
  cases rx
  obtain ⟨o, eo, hc, hdn⟩ := id hP
  obtain ⟨ho, hz, its, rv, o', ho', _, n, hdat⟩ := I.hok a _ eo
  rw [ho] at ho'
  cases ho'
  obtain ⟨Ts, ps, kvs, e1, e2, e3, e4, e5⟩ := pairs_at I hT rv
  have hlen : ys.length = l.length := by rw [hT.length, List.length_map]
  have P := PairArg.tuple (prog := X.prog) (w := X.w) a its.toArray Ts ps
  have ok : PlainSeq "tuple" s.heap a its.toArray ∧ PairItems s.heap its.toArray Ts ps := by
    refine ⟨⟨o, n, ho, hc, hdn, hdat⟩, by rw [List.size_toArray, e2, e1], fun j k v e => ?_⟩
    obtain ⟨f1, f2, _⟩ := e5 j k v e
    exact ⟨by simpa using f1, .inl f2⟩
  refine call_dict_pairs (knd := mixKind X.prog X.w) (kvs := kvs) P (I.ok.hd hcalm) ok ⟨by rw [e4, e1], fun i key v e => ?_⟩ (by rw [e1, ← hlen]; exact hz) fun h' tk hd' k => ?_
  · obtain ⟨_, _, key', f3, f4⟩ := e5 i key v e
    exact ⟨key', f3, f4⟩
  · have hm : (s.heap.objs.size == sysModules) = false := beq_eq_false_iff_ne.mpr (Nat.ne_of_gt I.big)
    have hsz : (dictL l).length ≤ sizeLine := Nat.le_trans (length_dictL l) (by rw [← hlen]; exact hz)
    exact ⟨.ref s.heap.objs.size, _, I.laid (t' := tk) (fun b o e => k b o (by simp) e) (Nat.le_refl _) (show ObjOk X.prog X.w _ _ _ (.dK (dictL l)) from ⟨hsz, hm, merged [] kvs, KV.merge e3 .nil, hd'⟩), rfl, q _ (I.hok.fresh (Nat.le_refl _))⟩

/-! ### repr of a list of two ints -/
theorem two_shown {i j : Int} (hi : i.natAbs.log2 < 1920) (hj : j.natAbs.log2 < 1920) : (PyData.list [.int i, .int j]).shown.length ≤ sizeLine := by
  have a := int_text_length_le (k := 1920) (by decide) hi
  have b := int_text_length_le (k := 1920) (by decide) hj
  have e : (PyData.list [.int i, .int j]).shown = ((("[" : Str) ++ Str.ofString (toString i)) ++ ", " ++ Str.ofString (toString j)) ++ "]" := rfl
  rw [e]
  simp only [Str.length_append, PySem.ofString_length]
  have l1 : "[".length = 1 := by decide
  have l2 : ", ".length = 2 := by decide
  have l3 : "]".length = 1 := by decide
  rw [l1, l2, l3, sizeLine_eq]
  omega
def rRepr2 (K : PySem.W.Frag) : List V → Hp → VK → Prop := fun xs H Q => ∃ a i j, xs = [.ref a] ∧ SqL K H a [.int i, .int j] ∧ i.natAbs.log2 < 1920 ∧ j.natAbs.log2 < 1920 ∧ Q (.str (PyData.list [.int i, .int j]).shown) H
theorem cr_repr2 (hg : X.A.guards = some []) (hu : X.A.units + 64 < cLine) : CallR X (.builtin "repr") (rRepr2 X.K) := by
  intro pins s σ H xs us Q I r ⟨a, i, j, ex, hL, hi, hj, q⟩
  subst ex
  obtain ⟨u, eu, rx⟩ := vals1 r
  subst eu
  obtain ⟨as, rd⟩ := Dp.reads I _ _ _ (Dp.lst hL (.cons (.int i) (.cons (.int j) .nil))) rx
  cases rx
  refine repr_of_reads' rd ?_ (fun z => by simp [PyData.hasDict, PyData.hasDictAll] at z) hg (by simp only [PyData.depth, PyData.depthAll]; omega) (fun _ _ e => e) (fun h' u tk k => ⟨.str _, H, I.kept k, ⟨_, rfl⟩, q⟩) (two_shown hi hj)
  simp [PyData.showable, PyData.showableAll, hi, hj]
end
end Ro

/-! RoText: where each def stands, its slots. Written by gen/text.py. -/
namespace Ro
open PySem PySem.Spec PyProof.Rows L2
def topS (i : Nat) : Stmt := PySem.Challenge.pw_readorder_k86_whole_counts_by_their_part.main.body.getD i (.Pass ⟨0, 0, 0, 0⟩)
abbrev s_is_cell : Stmt := topS 11
abbrev s_is_value : Stmt := topS 12
abbrev s_is_pair : Stmt := topS 13
abbrev s_has_log_form : Stmt := topS 14
abbrev s_cells_in : Stmt := topS 15
abbrev s_shared_cells : Stmt := topS 16
abbrev s_agreeing : Stmt := topS 17
abbrev s_unread_shared : Stmt := topS 19
abbrev s_parts_by : Stmt := topS 20
abbrev s_splitting_cells : Stmt := topS 21
abbrev s_blocks : Stmt := topS 22
abbrev s_stuck_block : Stmt := topS 23
abbrev s_single_group : Stmt := topS 25
abbrev s_check_reader : Stmt := topS 26
abbrev s_check_logs : Stmt := topS 27
abbrev s_factorial : Stmt := topS 31
abbrev s_count_readers : Stmt := topS 33
abbrev s_check_log : Stmt := topS 36
abbrev s_group_after : Stmt := topS 37
abbrev s_available : Stmt := topS 38
abbrev s_count_orders : Stmt := topS 39
abbrev s_law_box : Stmt := topS 41
abbrev s_law_take : Stmt := topS 42
abbrev s_law_of : Stmt := topS 43
abbrev s_law_cells : Stmt := topS 44
abbrev s_law_values : Stmt := topS 45
abbrev s_law_tree : Stmt := topS 46
abbrev s_law_leaves : Stmt := topS 47
abbrev s_law_shared : Stmt := topS 48
abbrev s_law_parts : Stmt := topS 49
abbrev s_law_absent : Stmt := topS 50
abbrev s_law_less : Stmt := topS 51
abbrev s_law_sum : Stmt := topS 52
abbrev s_law_right : Stmt := topS 53
abbrev s_law_fan_right : Stmt := topS 54
abbrev s_law : Stmt := topS 55
abbrev s_init : Stmt := inClass (topS 32) 0
abbrev s_of_group : Stmt := inClass (topS 32) 1
abbrev s_of_node : Stmt := inClass (topS 32) 2
abbrev n_is_cell : List Str := ["thing", "letter"]
abbrev p_is_cell : List Str := ["thing"]
theorem sc_is_cell : FnScope n_is_cell p_is_cell (defScope s_is_cell) := ⟨rfl, rfl, rfl, by decide +kernel, rfl, by decide +kernel, by decide +kernel⟩
abbrev n_is_value : List Str := ["thing"]
abbrev p_is_value : List Str := ["thing"]
theorem sc_is_value : FnScope n_is_value p_is_value (defScope s_is_value) := ⟨rfl, rfl, rfl, by decide +kernel, rfl, by decide +kernel, by decide +kernel⟩
abbrev n_is_pair : List Str := ["thing"]
abbrev p_is_pair : List Str := ["thing"]
theorem sc_is_pair : FnScope n_is_pair p_is_pair (defScope s_is_pair) := ⟨rfl, rfl, rfl, by decide +kernel, rfl, by decide +kernel, by decide +kernel⟩
abbrev n_has_log_form : List Str := ["thing", "pair", "one", "other"]
abbrev p_has_log_form : List Str := ["thing"]
theorem sc_has_log_form : FnScope n_has_log_form p_has_log_form (defScope s_has_log_form) := ⟨rfl, rfl, rfl, by decide +kernel, rfl, by decide +kernel, by decide +kernel⟩
abbrev n_cells_in : List Str := ["logs", "log", "cell", "value"]
abbrev p_cells_in : List Str := ["logs"]
theorem sc_cells_in : FnScope n_cells_in p_cells_in (defScope s_cells_in) := ⟨rfl, rfl, rfl, by decide +kernel, rfl, by decide +kernel, by decide +kernel⟩
abbrev n_shared_cells : List Str := ["logs", "others", "log", "cell", "value", "other"]
abbrev p_shared_cells : List Str := ["logs"]
theorem sc_shared_cells : FnScope n_shared_cells p_shared_cells (defScope s_shared_cells) := ⟨rfl, rfl, rfl, by decide +kernel, rfl, by decide +kernel, by decide +kernel⟩
abbrev n_agreeing : List Str := ["logs", "known", "found", "log", "pairs", "cell", "value"]
abbrev p_agreeing : List Str := ["logs", "known"]
theorem sc_agreeing : FnScope n_agreeing p_agreeing (defScope s_agreeing) := ⟨rfl, rfl, rfl, by decide +kernel, rfl, by decide +kernel, by decide +kernel⟩
abbrev n_unread_shared : List Str := ["logs", "done", "cell"]
abbrev p_unread_shared : List Str := ["logs", "done"]
theorem sc_unread_shared : FnScope n_unread_shared p_unread_shared (defScope s_unread_shared) := ⟨rfl, rfl, rfl, by decide +kernel, rfl, by decide +kernel, by decide +kernel⟩
abbrev n_parts_by : List Str := ["logs", "cell", "parts", "log", "value"]
abbrev p_parts_by : List Str := ["logs", "cell"]
theorem sc_parts_by : FnScope n_parts_by p_parts_by (defScope s_parts_by) := ⟨rfl, rfl, rfl, by decide +kernel, rfl, by decide +kernel, by decide +kernel⟩
abbrev n_splitting_cells : List Str := ["logs", "maps", "log", "cell", "one"]
abbrev p_splitting_cells : List Str := ["logs"]
theorem sc_splitting_cells : FnScope n_splitting_cells p_splitting_cells (defScope s_splitting_cells) := ⟨rfl, rfl, rfl, by decide +kernel, rfl, by decide +kernel, by decide +kernel⟩
abbrev n_blocks : List Str := ["logs", "found", "waiting", "group", "cells", "value", "part"]
abbrev p_blocks : List Str := ["logs"]
theorem sc_blocks : FnScope n_blocks p_blocks (defScope s_blocks) := ⟨rfl, rfl, rfl, by decide +kernel, rfl, by decide +kernel, by decide +kernel⟩
abbrev n_stuck_block : List Str := ["logs", "block"]
abbrev p_stuck_block : List Str := ["logs"]
theorem sc_stuck_block : FnScope n_stuck_block p_stuck_block (defScope s_stuck_block) := ⟨rfl, rfl, rfl, by decide +kernel, rfl, by decide +kernel, by decide +kernel⟩
abbrev n_single_group : List Str := ["logs", "group", "at", "less"]
abbrev p_single_group : List Str := ["logs"]
theorem sc_single_group : FnScope n_single_group p_single_group (defScope s_single_group) := ⟨rfl, rfl, rfl, by decide +kernel, rfl, by decide +kernel, by decide +kernel⟩
abbrev n_check_reader : List Str := ["logs", "group"]
abbrev p_check_reader : List Str := ["logs"]
theorem sc_check_reader : FnScope n_check_reader p_check_reader (defScope s_check_reader) := ⟨rfl, rfl, rfl, by decide +kernel, rfl, by decide +kernel, by decide +kernel⟩
abbrev n_check_logs : List Str := ["logs"]
abbrev p_check_logs : List Str := ["logs"]
theorem sc_check_logs : FnScope n_check_logs p_check_logs (defScope s_check_logs) := ⟨rfl, rfl, rfl, by decide +kernel, rfl, by decide +kernel, by decide +kernel⟩
abbrev n_factorial : List Str := ["number", "found", "factor"]
abbrev p_factorial : List Str := ["number"]
theorem sc_factorial : FnScope n_factorial p_factorial (defScope s_factorial) := ⟨rfl, rfl, rfl, by decide +kernel, rfl, by decide +kernel, by decide +kernel⟩
abbrev n_count_readers : List Str := ["logs"]
abbrev p_count_readers : List Str := ["logs"]
theorem sc_count_readers : FnScope n_count_readers p_count_readers (defScope s_count_readers) := ⟨rfl, rfl, rfl, by decide +kernel, rfl, by decide +kernel, by decide +kernel⟩
abbrev n_check_log : List Str := ["logs", "log"]
abbrev p_check_log : List Str := ["logs", "log"]
theorem sc_check_log : FnScope n_check_log p_check_log (defScope s_check_log) := ⟨rfl, rfl, rfl, by decide +kernel, rfl, by decide +kernel, by decide +kernel⟩
abbrev n_group_after : List Str := ["logs", "log", "done", "pair"]
abbrev p_group_after : List Str := ["logs", "log", "done"]
theorem sc_group_after : FnScope n_group_after p_group_after (defScope s_group_after) := ⟨rfl, rfl, rfl, by decide +kernel, rfl, by decide +kernel, by decide +kernel⟩
abbrev n_available : List Str := ["logs", "log", "done"]
abbrev p_available : List Str := ["logs", "log", "done"]
theorem sc_available : FnScope n_available p_available (defScope s_available) := ⟨rfl, rfl, rfl, by decide +kernel, rfl, by decide +kernel, by decide +kernel⟩
abbrev n_count_orders : List Str := ["logs", "log", "ways", "turn", "later", "done", "many", "cell", "key"]
abbrev p_count_orders : List Str := ["logs", "log"]
theorem sc_count_orders : FnScope n_count_orders p_count_orders (defScope s_count_orders) := ⟨rfl, rfl, rfl, by decide +kernel, rfl, by decide +kernel, by decide +kernel⟩
abbrev n_law_box : List Str := ["_law_script", "_law_k", "_law_name", "_law_own"]
abbrev p_law_box : List Str := ["_law_script", "_law_k"]
theorem sc_law_box : FnScope n_law_box p_law_box (defScope s_law_box) := ⟨rfl, rfl, rfl, by decide +kernel, rfl, by decide +kernel, by decide +kernel⟩
abbrev n_law_take : List Str := ["_law_box_here", "_law_upon", "_law_digit", "_law_prime", "_law_drawn"]
abbrev p_law_take : List Str := ["_law_box_here", "_law_upon"]
theorem sc_law_take : FnScope n_law_take p_law_take (defScope s_law_take) := ⟨rfl, rfl, rfl, by decide +kernel, rfl, by decide +kernel, by decide +kernel⟩
abbrev n_law_of : List Str := ["_law_box_here", "_law_some"]
abbrev p_law_of : List Str := ["_law_box_here", "_law_some"]
theorem sc_law_of : FnScope n_law_of p_law_of (defScope s_law_of) := ⟨rfl, rfl, rfl, by decide +kernel, rfl, by decide +kernel, by decide +kernel⟩
abbrev n_law_cells : List Str := ["_law_box_here", "_law_count", "_law_letters", "_law_start", "_law_leap", "_law_stem", "_law_cut", "_law_turn"]
abbrev p_law_cells : List Str := ["_law_box_here", "_law_count"]
theorem sc_law_cells : FnScope n_law_cells p_law_cells (defScope s_law_cells) := ⟨rfl, rfl, rfl, by decide +kernel, rfl, by decide +kernel, by decide +kernel⟩
abbrev n_law_values : List Str := ["_law_box_here", "_law_count", "_law_some", "_law_found", "_law_turn", "_law_value", "_law_spare", "_law_each"]
abbrev p_law_values : List Str := ["_law_box_here", "_law_count"]
theorem sc_law_values : FnScope n_law_values p_law_values (defScope s_law_values) := ⟨rfl, rfl, rfl, by decide +kernel, rfl, by decide +kernel, by decide +kernel⟩
abbrev n_law_tree : List Str := ["_law_box_here", "_law_cells_here", "_law_budget", "_law_left", "_law_name", "_law_count", "_law_branches", "_law_value"]
abbrev p_law_tree : List Str := ["_law_box_here", "_law_cells_here", "_law_budget"]
theorem sc_law_tree : FnScope n_law_tree p_law_tree (defScope s_law_tree) := ⟨rfl, rfl, rfl, by decide +kernel, rfl, by decide +kernel, by decide +kernel⟩
abbrev n_law_leaves : List Str := ["_law_tree_here", "_law_found", "_law_waiting", "_law_here", "_law_pairs", "_law_value", "_law_below"]
abbrev p_law_leaves : List Str := ["_law_tree_here"]
theorem sc_law_leaves : FnScope n_law_leaves p_law_leaves (defScope s_law_leaves) := ⟨rfl, rfl, rfl, by decide +kernel, rfl, by decide +kernel, by decide +kernel⟩
abbrev n_law_shared : List Str := ["_law_family", "_law_read", "_law_tables", "_law_each", "_law_name", "_law_value", "_law_table"]
abbrev p_law_shared : List Str := ["_law_family", "_law_read"]
theorem sc_law_shared : FnScope n_law_shared p_law_shared (defScope s_law_shared) := ⟨rfl, rfl, rfl, by decide +kernel, rfl, by decide +kernel, by decide +kernel⟩
abbrev n_law_parts : List Str := ["_law_family", "_law_name", "_law_found", "_law_entry"]
abbrev p_law_parts : List Str := ["_law_family", "_law_name"]
theorem sc_law_parts : FnScope n_law_parts p_law_parts (defScope s_law_parts) := ⟨rfl, rfl, rfl, by decide +kernel, rfl, by decide +kernel, by decide +kernel⟩
abbrev n_law_absent : List Str := ["_law_names", "_law_name"]
abbrev p_law_absent : List Str := ["_law_names"]
theorem sc_law_absent : FnScope n_law_absent p_law_absent (defScope s_law_absent) := ⟨rfl, rfl, rfl, by decide +kernel, rfl, by decide +kernel, by decide +kernel⟩
abbrev n_law_less : List Str := ["_law_family", "_law_name", "_law_entry", "_law_pair"]
abbrev p_law_less : List Str := ["_law_family", "_law_name"]
theorem sc_law_less : FnScope n_law_less p_law_less (defScope s_law_less) := ⟨rfl, rfl, rfl, by decide +kernel, rfl, by decide +kernel, by decide +kernel⟩
abbrev n_law_sum : List Str := ["_law_family", "_law_total", "_law_name", "_law_parts_here", "_law_found", "_law_value"]
abbrev p_law_sum : List Str := ["_law_family"]
theorem sc_law_sum : FnScope n_law_sum p_law_sum (defScope s_law_sum) := ⟨rfl, rfl, rfl, by decide +kernel, rfl, by decide +kernel, by decide +kernel⟩
abbrev n_law_right : List Str := ["_law_box_here", "_law_family", "_law_names", "_law_many", "_law_most", "_law_entry", "_law_spare", "_law_same", "_law_own", "_law_at"]
abbrev p_law_right : List Str := ["_law_box_here", "_law_family", "_law_names"]
theorem sc_law_right : FnScope n_law_right p_law_right (defScope s_law_right) := ⟨rfl, rfl, rfl, by decide +kernel, rfl, by decide +kernel, by decide +kernel⟩
abbrev n_law_fan_right : List Str := ["_law_box_here", "_law_names", "_law_shared_here", "_law_family", "_law_free", "_law_fan_total", "_law_ahead", "_law_at", "_law_pairs", "_law_some", "_law_early", "_law_found", "_law_entry", "_law_factor", "_law_name"]
abbrev p_law_fan_right : List Str := ["_law_box_here"]
theorem sc_law_fan_right : FnScope n_law_fan_right p_law_fan_right (defScope s_law_fan_right) := ⟨rfl, rfl, rfl, by decide +kernel, rfl, by decide +kernel, by decide +kernel⟩
abbrev n_law : List Str := ["_law_script", "_law_k", "_law_box_here", "_law_names", "_law_family", "_law_extra", "_law_name", "_law_entry"]
abbrev p_law : List Str := ["_law_script"]
theorem sc_law : FnScope n_law p_law (defScope s_law) := ⟨rfl, rfl, rfl, by decide +kernel, rfl, by decide +kernel, by decide +kernel⟩
abbrev n_init : List Str := ["self"]
abbrev p_init : List Str := ["self"]
theorem sc_init : FnScope n_init p_init (defScope s_init) := ⟨rfl, rfl, rfl, by decide +kernel, rfl, by decide +kernel, by decide +kernel⟩
abbrev n_of_group : List Str := ["self", "logs", "done", "key", "cell"]
abbrev p_of_group : List Str := ["self", "logs", "done"]
theorem sc_of_group : FnScope n_of_group p_of_group (defScope s_of_group) := ⟨rfl, rfl, rfl, by decide +kernel, rfl, by decide +kernel, by decide +kernel⟩
abbrev n_of_node : List Str := ["self", "logs", "done", "cell", "found", "value", "part"]
abbrev p_of_node : List Str := ["self", "logs", "done", "cell"]
theorem sc_of_node : FnScope n_of_node p_of_node (defScope s_of_node) := ⟨rfl, rfl, rfl, by decide +kernel, rfl, by decide +kernel, by decide +kernel⟩
end Ro

/-! RoCalls: what a def of the text promises and how it is called; the names of the built-ins; what a call may leave. -/
namespace Ro
open PySem PySem.Spec PyProof.Rows L2

theorem bt_isinstance : bootBuiltins "isinstance" = some (.builtin "isinstance") := PyProof.Rows.boot_isinstance
theorem bt_len : bootBuiltins "len" = some (.builtin "len") := PySem.boot_len
theorem bt_all : bootBuiltins "all" = some (.builtin "all") := PyProof.Rows.boot_all
theorem bt_sorted : bootBuiltins "sorted" = some (.builtin "sorted") := PyProof.Rows.boot_sorted
theorem bt_sum : bootBuiltins "sum" = some (.builtin "sum") := PyProof.Rows.boot_sum
theorem bt_abs : bootBuiltins "abs" = some (.builtin "abs") := PyProof.Rows.boot_abs
theorem bt_min : bootBuiltins "min" = some (.builtin "min") := PyProof.Rows.boot_min
theorem bt_max : bootBuiltins "max" = some (.builtin "max") := PyProof.Rows.boot_max
theorem bt_repr : bootBuiltins "repr" = some (.builtin "repr") := PyProof.Rows.boot_repr
theorem bt_str : bootBuiltins "str" = some (.type "str") := PyProof.Rows.boot_str
theorem bt_int : bootBuiltins "int" = some (.type "int") := PyProof.Rows.boot_int
theorem bt_bool : bootBuiltins "bool" = some (.type "bool") := PyProof.Rows.boot_bool
theorem bt_tuple : bootBuiltins "tuple" = some (.type "tuple") := PyProof.Rows.boot_tuple
theorem bt_list : bootBuiltins "list" = some (.type "list") := PyProof.Rows.boot_list
theorem bt_dict : bootBuiltins "dict" = some (.type "dict") := PyProof.Rows.boot_dict
theorem bt_set : bootBuiltins "set" = some (.type "set") := PyProof.Rows.boot_set
theorem bt_zip : bootBuiltins "zip" = some (.type "zip") := PyProof.Rows.boot_zip
theorem bt_range : bootBuiltins "range" = some (.type "range") := PyProof.Rows.boot_range
theorem bt_enumerate : bootBuiltins "enumerate" = some (.type "enumerate") := PyProof.Rows.boot_enumerate
/-- no built-in that the text calls is overlaid -/
structure Bu (mg : Str → Option Value) : Prop where
  isinstance : mg "isinstance" = none
  str : mg "str" = none
  int : mg "int" = none
  bool : mg "bool" = none
  tuple : mg "tuple" = none
  list : mg "list" = none
  dict : mg "dict" = none
  set : mg "set" = none
  len : mg "len" = none
  all : mg "all" = none
  zip : mg "zip" = none
  sorted : mg "sorted" = none
  sum : mg "sum" = none
  range : mg "range" = none
  abs : mg "abs" = none
  min : mg "min" = none
  max : mg "max" = none
  repr : mg "repr" = none
  enumerate : mg "enumerate" = none

section
variable {P : Program} {w : World} {K : PySem.W.Frag} {mg : Str → Option Value} {base : Heap}
/-- a def of the text keeps its promise -/
def Ok (P : Program) (w : World) (K : PySem.W.Frag) (mg : Str → Option Value) (base : Heap) (k : Nat) (x : Str) (ps : List Str) (sp : Sp) : Prop :=
  ∃ f fd, FnOk P w K mg base CX0 k f fd ps sp ∧ mg x = some (.ref f) ∧ PySem.W.keepIn K (.ref f) = true ∧ Binds K fd ps []
theorem Ok.mono {j k : Nat} {x : Str} {ps : List Str} {sp : Sp} (o : Ok P w K mg base j x ps sp) (h : j ≤ k) : Ok P w K mg base k x ps sp := let ⟨f, fd, a, r⟩ := o; ⟨f, fd, a.mono h, r⟩
/-- a def of the text as it stands behind the top -/
structure Df (K : PySem.W.Frag) (mg : Str → Option Value) (x : String) (st : Stmt) (ps : List Str) : Prop where
  ex : ∃ f fd, Fun K (Str.ofString x) (Str.ofString x) st f fd ∧ mg (Str.ofString x) = some (.ref f) ∧ Binds K fd ps []
theorem Df.ok {x : String} {st : Stmt} {N ps : List Str} {k : Nat} {sp : Sp} (D : Df K mg x st ps) (S : FnScope N ps (defScope st)) (len : ∀ vs H Q E, sp vs H Q E → vs.length = ps.length)
    (hbody : ∀ (f : Addr) (cdv : Value) (A : Around) (outer : List Env) (s : Shared) (H : Hp) (vs : List V) (Q : VK) (E : XK), Room k (A.deeper (envOfC (Str.ofString x) (defScope st) s.heap.objs.size f cdv)) → sp vs H Q E →
      ∃ t, PSs (cxOf CX0 P w K mg base N (Str.ofString x) (defScope st) f cdv A outer s H E).nox (defBody st) t ∧ t { nx := fun _ H' => Q .non H', rt := Q } (start N vs) H) :
    Ok P w K mg base (k + 1) (Str.ofString x) ps sp := by
  obtain ⟨f, fd, F, hm, hb⟩ := D.ex
  exact ⟨f, fd, F.ok S len fun cdv A outer s H vs Q E hr hsp => hbody f cdv A outer s H vs Q E hr hsp, hm, F.kp, hb⟩
end

section
variable {X : Cx} {k : Nat} {x : Str} {ps : List Str} {sp : Sp} {p pos : Pos} {e : Expr} {es : List Expr} {t : TA}
/-- f(a, ..) of a def of the text -/
def tCl (sp : Sp) (t : TA) : TE := fun σ H Q => t σ H fun vs H1 => sp vs H1 Q E0
theorem pe_cl (o : Ok X.prog X.w X.K X.mg X.base k x ps sp) (hr : Room k X.A) (ha : PA X (e :: es) t) (hg : Gl X x := by rfl) (hdb : (x == ("__debug__" : Str)) = false := by decide)
    (he : starEach (e :: es) X.env = (false, eval e X.env) :: starEach es X.env := by rfl) (hpl : ((backTo pos (starEach es X.env)).any fun x => x.1) = false := by rfl) : PE X (.Call (.Name x p) (e :: es) [] pos) (tCl sp t) := by
  obtain ⟨f, fd, F, hm, hk, hb⟩ := o
  have h := pe_call F hr hg hm hk hb (.nil : Vals [] []) (pass0 (X := X)) ha (p := p) (pos := pos) (hdb := hdb) (he := he) (hpl := hpl)
  refine ⟨fun pins s σ H Q I q => h.run pins s σ H Q I ?_⟩
  show t σ H fun vs H1 => sp (vs ++ []) H1 Q E0
  simp only [List.append_nil]
  exact q
end

/-! ### what a call gives back -/
/-- v, all that was stands -/
def RV (H : Hp) (Q : VK) (v : V) : Prop := ∀ H', Kp Nil H H' → Q v H'
/-- data -/
def RD (H : Hp) (Q : VK) (d : PyData) : Prop := ∀ v H', Kp Nil H H' → Tv H' v d → Q v H'
/-- a new list -/
def RL (H : Hp) (Q : VK) (Φ : List V → Hp → Prop) : Prop := ∀ p xs H', Kp Nil H H' → H p = none → H' p = some (.lst xs) → Φ xs H' → Q (.ref p) H'
end Ro

/-! RoComp: comprehensions and loops whose turns only add to the heap. -/
namespace Ro
open PySem PySem.Spec PyProof.Rows L2

section
variable {S : Addr → Prop} {H H1 : Hp} {D : Addr}
/-- the list at D written -/
theorem Kp.atD {ys zs : List V} (h : H D = some (.lst ys)) : Kp (One D) H (upd H D (.lst zs)) :=
  Kp.own Kp.refl rfl fun u v e => by rw [h] at e; cases e
theorem Kp.split {S' : Addr → Prop} {H2 : Hp} (a : Kp S H H1) (b : Kp S' H1 H2) : Kp (fun x => S x ∨ S' x) H H2 := (a.wide fun _ z => .inl z).trans (b.wide fun _ z => .inr z)
/-- a thing that was not there may be changed on the way -/
theorem Kp.less {b : Addr} (a : Kp (fun x => S x ∨ One b x) H H1) (n : H b = none) : Kp S H H1 :=
  ⟨fun x o h s => a.keep x o h fun z => z.elim s fun e => (by rw [e, n] at h; cases h), a.frz⟩
theorem Kp.less1 {b : Addr} (a : Kp (One b) H H1) (n : H b = none) : Kp Nil H H1 :=
  ⟨fun x o h _ => a.keep x o h fun e => (by rw [e, n] at h; cases h), a.frz⟩
end

section
variable {J : It} {n : Nat} {G : Hp → Prop} {Y : Nat → Hp → V → Hp → Prop} {S : Addr → Prop}
/-- a comprehension: Acc by the turn, the heap and what has been made -/
theorem lc_acc (w : Walk J n G Y) {g : TG} {tt : TT} {te : TE} {vs : List Nat} {σ : L2.St} {H1 : Hp} {D : Addr} {Qd : Hp → Prop} (hD : H1 D = none) (sD : ¬ S D) (hn : n ≤ 100000) (Acc : Nat → Hp → List V → Prop)
    (a0 : Acc 0 (upd H1 D (.lst [])) []) (am : ∀ i H ys zs, H D = some (.lst ys) → Acc i H zs → Acc i (upd H D (.lst zs)) zs) (hG : ∀ H, Kp S H1 H → G H)
    (hs : ∀ i x H H' ys, i < n → Kp S H1 H → H D = some (.lst ys) → Acc i H ys → Y i H x H' → ∀ (Kt : VK) (Kf : Hp → Prop), (∀ y H4, Kp S H H4 → Acc (i + 1) H4 (ys ++ [y]) → Kt y H4) → (∀ H3, Kp S H H3 → Acc (i + 1) H3 ys → Kf H3) →
      g x (wipe σ vs) H' fun σ2 H2 => wipe σ2 vs = wipe σ vs ∧ tt σ2 H2 fun b H3 => if b = true then te σ2 H3 Kt else Kf H3)
    (hd : ∀ H ys, Kp S H1 H → H D = some (.lst ys) → Acc n H ys → Qd H) :
    ∃ W : Nat → Nat → Hp → Prop, (∃ m, W 0 m (upd H1 D (.lst []))) ∧ ∀ i m H, W i m H →
      (J.stop i H ∧ Qd H) ∨ (J.go i H ∧ ∃ Nx : Hp → Prop, (∀ H', Nx H' → ∃ m', m' < m ∧ W (i + 1) m' H') ∧ ∀ x H', J.yld i H x H' → g x (wipe σ vs) H' fun σ2 H2 => wipe σ2 vs = wipe σ vs ∧ tt σ2 H2 fun b H3 =>
        if b = true then te σ2 H3 fun y H4 => ∃ acc, H4 D = some (.lst acc) ∧ acc.length < sizeLine ∧ Nx (upd H4 D (.lst (acc ++ [y]))) else Nx H3) := by
  refine lc_it w (fun i H => Kp S H1 H ∧ ∃ ys, H D = some (.lst ys) ∧ ys.length ≤ i ∧ Acc i H ys) ⟨Kp.mut Kp.refl hD, [], upd_same, Nat.le_refl _, a0⟩ (fun i H _ h => hG H h.1) (fun i x H H' hi h y => ?_) fun H ⟨k, ys, e, _, a⟩ => hd H ys k e a
  obtain ⟨k, ys, e, hl, a⟩ := h
  refine hs i x H H' ys hi k e a y _ _ (fun y H4 k4 a4 => ?_) fun H3 k3 a3 => ⟨k.trans k3, ys, k3.keep D _ e sD, by omega, a3⟩
  have e4 : H4 D = some (.lst ys) := k4.keep D _ e sD
  exact ⟨ys, e4, by rw [sizeLine_eq]; omega, Kp.mut (k.trans k4) hD, _, upd_same, by rw [List.length_append, List.length_singleton]; omega, am _ _ _ _ e4 a4⟩
end
/-- a comprehension's block within another's -/
theorem blk_in {X : Cx} {s : Shared} {H : Hp} {sc0 scope : Scope} {cl : List (Str × Addr)} {C : Addr} {fp : List Addr} {own : List (Str × Nat)} {N : List Str} {sc : Scope} (hN : X.N = N) (hs : X.env.scope = sc) (h : blkC N (relS sc0 sc) scope own = true) :
    BlkOk (X.blk s H sc0 (compEnvC sc0 cl C X.env) fp).N (X.blk s H sc0 (compEnvC sc0 cl C X.env) fp).env.scope scope own := by
  subst hN hs
  exact blkOk_by h

/-! ### a rule's reading made easier -/
section
variable {X : Cx}
theorem SlR_imp {r r' : V → Option Int → Option Int → Hp → VK → Prop} (h : SlR X r) (i : ∀ x lo hi H Q, r' x lo hi H Q → r x lo hi H Q) : SlR X r' :=
  fun pins s σ H x v vl vu lo hi sl Q I rx hs pl pu q => h pins s σ H x v vl vu lo hi sl Q I rx hs pl pu (i _ _ _ _ _ q)
theorem CallR_imp {f : Value} {r r' : List V → Hp → VK → Prop} (h : CallR X f r) (i : ∀ xs H Q, r' xs H Q → r xs H Q) : CallR X f r' :=
  fun pins s σ H xs us Q I rs q => h pins s σ H xs us Q I rs (i _ _ _ q)
theorem OpR_imp {f : Value → Value → Sem Value} {r r' : R2} (h : OpR X f r) (i : ∀ x y H Q, r' x y H Q → r x y H Q) : OpR X f r' :=
  fun pins s σ H x y v u Q I rx ry q => h pins s σ H x y v u Q I rx ry (i _ _ _ _ q)
end
theorem cut_from (xs : List V) (k : Nat) : cutV xs (some (k : Int)) none = xs.drop k := by
  unfold cutV
  rw [HT.sIx_nat, HT.sIx_none]
  rcases Nat.le_total k xs.length with h | h
  · rw [Nat.min_eq_left h, List.take_of_length_le (by rw [List.length_drop]; exact Nat.le_refl _)]
  · rw [Nat.min_eq_right h, List.drop_of_length_le h, List.drop_of_length_le (Nat.le_refl _), List.take_nil]
/-- t[k:] of a tuple, k at least 1 -/
def rFromT (K : PySem.W.Frag) : V → Option Int → Option Int → Hp → VK → Prop := fun x lo hi H Q => ∃ a xs, ∃ k : Nat, x = .ref a ∧ lo = some (k : Int) ∧ hi = none ∧ 1 ≤ k ∧ SqT K H a xs ∧ ∀ p H', Kp Nil H H' → SqT K H' p (xs.drop k) → Q (.ref p) H'
theorem sl_from {X : Cx} (K : PySem.W.Frag) (hK : X.K = K := by rfl) : SlR X (rFromT K) := by
  subst hK
  refine SlR_imp sl_tupA fun x lo hi H Q ⟨a, xs, k, ex, el, eh, hk, h, q⟩ => ?_
  subst ex el eh
  refine ⟨a, xs, rfl, h, fun hw => q a H Kp.refl ?_, fun _ p np => q p _ (Kp.new Kp.refl np) (by rw [cut_from]; exact .inl (.inl upd_same))⟩
  have e := hw.1
  rw [HT.sIx_nat] at e
  have e2 : xs = [] := List.eq_nil_of_length_eq_zero (by omega)
  subst e2
  rw [List.drop_nil]
  exact h

/-! ### rules told by the written part K, for a comprehension's block -/
section
variable {X : Cx}
theorem ixT (K : PySem.W.Frag) (h : X.K = K := by rfl) : IxR X (rIxT K) := by subst h; exact ix_tup
theorem ixL (K : PySem.W.Frag) (h : X.K = K := by rfl) : IxR X (rIxL K) := by subst h; exact ix_list
def rLenQ (K : PySem.W.Frag) : List V → Hp → VK → Prop := fun xs H Q => ∃ p ys, xs = [.ref p] ∧ (SqL K H p ys ∨ SqT K H p ys) ∧ Q (.int ys.length) H
theorem lenQ (K : PySem.W.Frag) (h : X.K = K := by rfl) : CallR X (.builtin "len") (rLenQ K) := by subst h; exact call_len_seq
theorem allQ (K : PySem.W.Frag) (hc : X.calm = true := by rfl) (h : X.K = K := by rfl) : CallR X (.builtin "all") (rAll K) := by subst h; exact cr_all hc
def rTupP (K : PySem.W.Frag) : List V → Hp → VK → Prop := fun xs H Q => ∃ p ys, xs = [.ref p] ∧ SqL K H p ys ∧ ∀ l o, H l = none → o.cls = .type "tuple" → o.dict = none → Q (.ref l) (upd H l (.frz o (.tup ys)))
theorem tupQ (K : PySem.W.Frag) (h : X.K = K := by rfl) : CallR X (.type "tuple") (rTupP K) := by subst h; exact call_tupleP
theorem catQ (K : PySem.W.Frag) (h : X.K = K := by rfl) : OpR X (binaryOp .Add) (rCatP K) := by subst h; exact op_catP
theorem inQ (K : PySem.W.Frag) (h : X.K = K := by rfl) : OpR X (compareOp .In) (rIn K false) := by subst h; exact op_in_seq
theorem ninQ (K : PySem.W.Frag) (h : X.K = K := by rfl) : OpR X (compareOp .NotIn) (rIn K true) := by subst h; exact op_notIn_seq
theorem sortQ (K : PySem.W.Frag) (hu : X.A.units + 64 < cLine) (h : X.K = K := by rfl) : CallR X (.builtin "sorted") (rSortV K) := by subst h; exact cr_sortV hu
def rListQ (K : PySem.W.Frag) : List V → Hp → VK → Prop := fun xs H Q => ∃ p ys, xs = [.ref p] ∧ (SqL K H p ys ∨ SqT K H p ys) ∧ ∀ l, H l = none → Q (.ref l) (upd H l (.lst ys))
theorem listQ (K : PySem.W.Frag) (h : X.K = K := by rfl) : CallR X (.type "list") (rListQ K) := by subst h; exact call_list_of
end
/-- no test: the element is made -/
theorem yes_go {te : TE} {σ : L2.St} {H : Hp} {Kt : VK} {Kf : Hp → Prop} (h : te σ H Kt) : tYes σ H fun b H3 => if b = true then te σ H3 Kt else Kf H3 := by
  show (if true = true then te σ H Kt else Kf H)
  rw [if_pos rfl]
  exact h
end Ro

/-! RoLogs1: is_cell, is_value, is_pair, has_log_form. -/
namespace Ro
open PySem PySem.Spec PyProof.Rows L2

/-- the module's constants -/
structure Cs (mg : Str → Option Value) : Prop where
  letters8 : ∃ u, mg "MOST_LETTERS" = some u ∧ L2.RelV (.int 8) u
  value9 : ∃ u, mg "MOST_VALUE" = some u ∧ L2.RelV (.int 1000000000) u
  letters : ∃ u, mg "LETTERS" = some u ∧ L2.RelV (.str "abcdefghijklmnopqrstuvwxyz") u
  pair : ∃ u, mg "PAIR" = some u ∧ L2.RelV (.int 2) u
  cells12 : ∃ u, mg "MOST_CELLS" = some u ∧ L2.RelV (.int 12) u
  logs60 : ∃ u, mg "MOST_LOGS" = some u ∧ L2.RelV (.int 60) u
  counted12 : ∃ u, mg "MOST_COUNTED" = some u ∧ L2.RelV (.int 12) u
theorem pe_gc {X : Cx} {x : Str} {v : V} {pos : Pos} (h : ∃ u, X.mg x = some u ∧ L2.RelV v u) (hg : Gl X x := by rfl) (hd : (x == ("__debug__" : Str)) = false := by decide) : PE X (.Name x pos) (tC v) :=
  let ⟨_, a, b⟩ := h; pe_glob hg a b hd

/-! ### cells and values -/
def CellOk (z : Str) : Prop := 0 < z.length ∧ z.length ≤ 8 ∧ ∀ c ∈ z.cps.toList, 97 ≤ c ∧ c ≤ 122
def ValOk (i : Int) : Prop := 0 ≤ i ∧ i ≤ 1000000000
theorem letter_in {c : Nat} (h : 97 ≤ c ∧ c ≤ 122) : decide (c ∈ (("abcdefghijklmnopqrstuvwxyz" : Str)).cps.toList) = true := by
  have e : (("abcdefghijklmnopqrstuvwxyz" : Str)).cps.toList = (List.range 26).map (97 + ·) := by decide +kernel
  rw [e, decide_eq_true_eq, List.mem_map]
  exact ⟨c - 97, List.mem_range.mpr (by omega), by omega⟩
theorem all_true {bs : List Bool} (h : ∀ b ∈ bs, b = true) : bs.all id = true := List.all_eq_true.mpr h

section
variable {P : Program} {w : World} {K : PySem.W.Frag} {mg : Str → Option Value} {base : Heap}
def spIsCell : Sp := fun vs H Q _ => ∃ z, vs = [.str z] ∧ CellOk z ∧ RV H Q (.bl true)
theorem ok_is_cell (D : Df K mg "is_cell" s_is_cell p_is_cell) (T : Bu mg) (C : Cs mg) : Ok P w K mg base 1 "is_cell" p_is_cell spIsCell := by
  refine D.ok sc_is_cell (fun vs H Q E h => ?_) fun f cdv A outer s H vs Q E hr h => ?_
  · obtain ⟨z, rfl, _⟩ := h
    rfl
  · obtain ⟨z, rfl, hz, q⟩ := h
    obtain ⟨z1, z2, z3⟩ := id hz
    refine ⟨_, pss_cons (ps_if (PW.pt (pw_or (pt_not (pt_val (pe_callB call_isi (by rfl) T.isinstance bt_isinstance (pa_cons (pv 0) (pa_cons (pe_bltn (v := .ty "str") (by rfl) T.str bt_str rfl) pa_nil)))))
        (pw_or1 (pt_not (pt_chain op_lt op_le pe_int (pe_callB call_len (by rfl) T.len bt_len (pa_cons (pv 0) pa_nil)) (pe_gc C.letters8))))))
        (pss_one (ps_ret pe_bl)) pss_nil)
      (pss_one (ps_ret (pe_callB (cr_all rfl) (by rfl) T.all bt_all (pa_cons
        (pe_lc (own := [("letter", 1)]) (g := gName 1) (tt := tYes) rfl sc_is_cell.nd (pi_str (pv 0)) (blkOk_by (N := n_is_cell) (sc := defScope s_is_cell) (by decide +kernel)) (fun _ _ _ _ _ => pg_name (i := 1) sc_is_cell.nd rfl (Or.inl rfl)) (fun _ _ _ _ _ => pts_nil)
          (fun _ _ _ _ _ => pe_cmpR op_in_sign (pv 1) (pe_gc C.letters) rfl)) pa_nil)))), ?_⟩
    refine ⟨_, rfl, _, _, _, _, true, rfl, .ty _, .base (.str z), kit_ty (by decide +kernel), true, rfl, ?_⟩
    refine iteF ?_
    refine ⟨_, rfl, _, _, rfl, ⟨by rw [sizeLine_eq]; omega, rfl⟩, _, _, rfl, rfl, _, rfl, ?_⟩
    rw [decide_eq_true (show (0 : Int) < ((z.length : Nat) : Int) by omega)]
    refine iteT ⟨_, _, rfl, rfl, _, rfl, ?_⟩
    rw [decide_eq_true (show ((z.length : Nat) : Int) ≤ 8 by omega)]
    refine iteF ?_
    refine ⟨_, rfl, z, rfl, fun p np => lc_acc walk_str np (S := Nil) (fun z => z) (by show z.length ≤ 100000; omega) (fun i H ys => ys = List.replicate i (V.bl true)) rfl (fun _ _ _ _ _ e => e) (fun _ _ => trivial) (fun i x H1 H1' ys hi k e a y Kt Kf ht hf => ?_) fun H1 ys k e a => ?_⟩
    · obtain ⟨rfl, c, hc, rfl⟩ := y
      refine ⟨rfl, yes_go ⟨_, rfl, c, _, rfl, rfl, ?_⟩⟩
      have hm : c ∈ z.cps.toList := List.mem_of_getElem? (by rw [Array.getElem?_toList]; exact hc)
      rw [letter_in (z3 c hm)]
      exact ht _ _ Kp.refl (by rw [a, List.replicate_succ'])
    · have e2 : ys = (List.replicate z.cps.size true).map V.bl := by rw [a, List.map_replicate]
      rw [e2] at e
      refine ⟨p, _, rfl, SqL.of e, ?_⟩
      rw [all_true fun b hb => (List.mem_replicate.mp hb).2]
      exact q _ k

def spIsValue : Sp := fun vs H Q _ => ∃ i, vs = [.int i] ∧ ValOk i ∧ RV H Q (.bl true)
theorem ok_is_value (D : Df K mg "is_value" s_is_value p_is_value) (T : Bu mg) (C : Cs mg) : Ok P w K mg base 1 "is_value" p_is_value spIsValue := by
  refine D.ok sc_is_value (fun vs H Q E h => ?_) fun f cdv A outer s H vs Q E hr h => ?_
  · obtain ⟨z, rfl, _⟩ := h
    rfl
  · obtain ⟨i, rfl, ⟨i1, i2⟩, q⟩ := h
    refine ⟨_, pss_one (ps_ret (pe_and (pe_callB call_isi (by rfl) T.isinstance bt_isinstance (pa_cons (pv 0) (pa_cons (pe_bltn (v := .ty "int") (by rfl) T.int bt_int rfl) pa_nil)))
      (pe_and (pe_not (pe_callB call_isi (by rfl) T.isinstance bt_isinstance (pa_cons (pv 0) (pa_cons (pe_bltn (v := .ty "bool") (by rfl) T.bool bt_bool rfl) pa_nil))))
        (pe_one (pe_chain op_le op_le pe_int (pv 0) (pe_gc C.value9)))))), ?_⟩
    refine ⟨_, rfl, _, _, _, _, true, rfl, .ty _, .base (.int i), kit_ty (by decide +kernel), true, rfl, iteT ?_⟩
    refine ⟨_, rfl, _, _, _, _, false, rfl, .ty _, .base (.int i), kit_ty (by decide +kernel), false, rfl, true, rfl, iteT ?_⟩
    refine ⟨_, rfl, _, _, rfl, rfl, _, rfl, ?_⟩
    rw [decide_eq_true i1]
    refine iteT ⟨_, _, rfl, rfl, ?_⟩
    show Q (.bl (decide (i ≤ 1000000000))) H
    rw [decide_eq_true i2]
    exact q _ Kp.refl

def PrOk (p : Pr) : Prop := CellOk p.1 ∧ ValOk p.2
def spIsPair : Sp := fun vs H Q _ => ∃ v p, vs = [v] ∧ Tv H v (encP p) ∧ PrOk p ∧ RV H Q (.bl true)
theorem Pt.ty {H : Hp} {a : Addr} {xs : List V} (h : Pt H a xs) : TyX K H (.ref a) (.type "tuple") := let ⟨_, e, _⟩ := h; .fTuple e
theorem ok_is_pair (D : Df K mg "is_pair" s_is_pair p_is_pair) (T : Bu mg) (C : Cs mg) (oc : Ok P w K mg base 1 "is_cell" p_is_cell spIsCell) (ov : Ok P w K mg base 1 "is_value" p_is_value spIsValue) :
    Ok P w K mg base 2 "is_pair" p_is_pair spIsPair := by
  refine D.ok sc_is_pair (fun vs H Q E h => ?_) fun f cdv A outer s H vs Q E hr h => ?_
  · obtain ⟨v, p, rfl, _⟩ := h
    rfl
  · obtain ⟨v, ⟨c, i⟩, rfl, hv, ⟨hc, hi⟩, q⟩ := h
    obtain ⟨a, rfl, hp⟩ := TvAll.inv_pairs hv
    refine ⟨_, pss_one (ps_ret (pe_and (pe_callB call_isi (by rfl) T.isinstance bt_isinstance (pa_cons (pv 0) (pa_cons (pe_bltn (v := .ty "tuple") (by rfl) T.tuple bt_tuple rfl) pa_nil)))
      (pe_and (pe_cmpR op_eq (pe_callB call_len_seq (by rfl) T.len bt_len (pa_cons (pv 0) pa_nil)) (pe_gc C.pair) (nomark _))
        (pe_and (pe_cl oc hr (pa_cons (pe_ix ix_tup (pv 0) pe_int (fun _ _ => rfl)) pa_nil)) (pe_one (pe_cl ov hr (pa_cons (pe_ix ix_tup (pv 0) pe_int (fun _ _ => rfl)) pa_nil))))))), ?_⟩
    refine ⟨_, rfl, _, _, _, _, true, rfl, .ty _, hp.ty, kit_ty (by decide +kernel), true, rfl, iteT ?_⟩
    refine ⟨_, rfl, a, _, rfl, .inr hp.sqt, rfl, true, rfl, iteT ?_⟩
    refine ⟨_, rfl, a, _, 0, _, rfl, rfl, hp.sqt, atI_nat (j := 0) rfl, c, rfl, hc, fun H1 k1 => ⟨true, rfl, iteT ?_⟩⟩
    exact ⟨_, rfl, a, _, 1, _, rfl, rfl, (hp.keep k1).sqt, atI_nat (j := 1) rfl, i, rfl, hi, fun H2 k2 => q H2 (k1.trans k2)⟩

/-! ### a log's form -/
def Asc (l : Lg) : Prop := ∀ i p q, l[i]? = some p → l[i + 1]? = some q → p.1.cps.toList < q.1.cps.toList
def LgOk (l : Lg) : Prop := (∀ p ∈ l, PrOk p) ∧ Asc l ∧ l.length ≤ 1000
theorem walk_zipT {K : PySem.W.Frag} {a b : Addr} {xs ys : List V} {n : Nat} (hn : n = min xs.length ys.length) : Walk (RZ.ItzT K a b) n (fun H => SqT K H a xs ∧ SqT K H b ys) (YPair (fun i => xs[i]?) (fun i => ys[i]?)) := by
  subst hn
  refine ⟨fun i _ hi q => ?_, fun _ q => ⟨xs, ys, q.1, q.2, by omega⟩, fun i H v H' _ q ⟨T, x, z, h1, h2, h3, h4, h5⟩ => ⟨T, x, z, h1, h2, h3, h4 xs q.1, h5 ys q.2⟩⟩
  have l1 : i < xs.length := by omega
  have l2 : i < ys.length := by omega
  exact ⟨xs, ys, xs[i], ys[i], q.1, q.2, List.getElem?_eq_getElem l1, List.getElem?_eq_getElem l2⟩
theorem atI_0 {α : Type} {x : α} {xs : List α} : atI (x :: xs) 0 = some x := atI_nat (j := 0) rfl
theorem atI_1 {α : Type} {x y : α} {xs : List α} : atI (x :: y :: xs) 1 = some y := atI_nat (j := 1) rfl
def spLogForm : Sp := fun vs H Q _ => ∃ v l, vs = [v] ∧ Tv H v (encL l) ∧ LgOk l ∧ RV H Q (.bl true)
theorem ok_has_log_form (D : Df K mg "has_log_form" s_has_log_form p_has_log_form) (T : Bu mg) (op : Ok P w K mg base 2 "is_pair" p_is_pair spIsPair) :
    Ok P w K mg base 3 "has_log_form" p_has_log_form spLogForm := by
  refine D.ok sc_has_log_form (fun vs H Q E h => ?_) fun f cdv A outer s H vs Q E hr h => ?_
  · obtain ⟨v, p, rfl, _⟩ := h
    rfl
  · obtain ⟨v, l, rfl, hv, ⟨hok, hasc, hlen⟩, q⟩ := h
    obtain ⟨a, xs, rfl, hp, hT⟩ := hv.inv
    have hl : xs.length = l.length := by rw [hT.length, List.length_map]
    refine ⟨_, pss_cons (ps_if (PW.pt (pw_or (pt_not (pt_val (pe_callB call_isi (by rfl) T.isinstance bt_isinstance (pa_cons (pv 0) (pa_cons (pe_bltn (v := .ty "tuple") (by rfl) T.tuple bt_tuple rfl) pa_nil)))))
        (pw_or1 (pt_not (pt_val (pe_callB (cr_all rfl) (by rfl) T.all bt_all (pa_cons
          (pe_lc (own := [("pair", 1)]) (g := gName 1) (tt := tYes) rfl sc_has_log_form.nd (pi_tup (pv 0)) (blkOk_by (N := n_has_log_form) (sc := defScope s_has_log_form) (by decide +kernel)) (fun _ _ _ _ _ => pg_name (i := 1) sc_has_log_form.nd rfl (Or.inl rfl)) (fun _ _ _ _ _ => pts_nil)
            (fun _ _ _ _ _ => pe_cl op hr (pa_cons (pv 1) pa_nil))) pa_nil)))))))
        (pss_one (ps_ret pe_bl)) pss_nil)
      (pss_one (ps_ret (pe_callB (cr_all rfl) (by rfl) T.all bt_all (pa_cons
        (pe_lc (own := [("one", 2), ("other", 3)]) (g := gTup K 2 (gCons (gName 2) (gCons (gName 3) gNil))) (tt := tYes) rfl sc_has_log_form.nd (RZ.pi_zipA (by rfl) T.zip (pa_cons (pv 0) (pa_cons (pe_slice (sl_from K) (pv 0) (po_some pe_int) po_none) pa_nil))) (blkOk_by (N := n_has_log_form) (sc := defScope s_has_log_form) (by decide +kernel))
          (fun _ _ _ _ _ => pg_tup rfl (pgs_cons (pg_name (i := 2) sc_has_log_form.nd rfl (.inl rfl)) (pgs_cons (pg_name (i := 3) sc_has_log_form.nd rfl (.inl rfl)) pgs_nil))) (fun _ _ _ _ _ => pts_nil)
          (fun _ _ _ _ _ => pe_cmpR op_lt_str (pe_ix (ixT K) (pv 2) pe_int (fun _ _ => rfl)) (pe_ix (ixT K) (pv 3) pe_int (fun _ _ => rfl)) (nomark _))) pa_nil)))), ?_⟩
    refine ⟨_, rfl, _, _, _, _, true, rfl, .ty _, hp.ty, kit_ty (by decide +kernel), true, rfl, iteF ?_⟩
    refine ⟨_, rfl, a, rfl, ⟨xs, hp.sqt⟩, fun D1 n1 => lc_acc (walk_tup (xs := xs)) n1 (S := Nil) (fun z => z) (by omega) (fun i H ys => ys = List.replicate i (V.bl true)) rfl (fun _ _ _ _ _ e => e) (fun _ k => (hp.keep k).sqt) (fun i x H1 H1' ys hi k e a1 y Kt Kf ht hf => ?_) fun H1 ys k1 e a1 => ?_⟩
    · obtain ⟨rfl, hx⟩ := y
      obtain ⟨d, hd, tv⟩ := hT.get hx
      obtain ⟨p, hpr, rfl⟩ : ∃ p, l[i]? = some p ∧ encP p = d := by
        rw [List.getElem?_map] at hd
        cases e2 : l[i]? with
        | none => rw [e2] at hd; cases hd
        | some p => rw [e2] at hd; exact ⟨p, rfl, Option.some.inj hd⟩
      refine ⟨rfl, yes_go ⟨_, rfl, x, p, rfl, tv.keep k, hok p (List.mem_of_getElem? hpr), fun H2 k2 => ?_⟩⟩
      exact ht _ _ k2 (by rw [a1, List.replicate_succ'])
    · have e2 : ys = (List.replicate xs.length true).map V.bl := by rw [a1, List.map_replicate]
      rw [e2] at e
      refine ⟨D1, _, rfl, SqL.of e, ?_⟩
      rw [all_true fun b hb => (List.mem_replicate.mp hb).2]
      refine ⟨true, rfl, iteF ?_⟩
      refine ⟨_, rfl, _, rfl, _, rfl, _, _, 1, rfl, rfl, rfl, Nat.le_refl 1, (hp.keep k1).sqt, fun b H2 k2 hb => ?_⟩
      refine ⟨a, b, xs, xs.drop 1, rfl, .inr ⟨((hp.keep k1).keep k2).sqt, hb, fun D2 n2 => ?_⟩⟩
      have kk := k1.trans k2
      refine lc_acc (walk_zipT (xs := xs) (ys := xs.drop 1) rfl) n2 (S := Nil) (fun z => z) (by omega) (fun i H ys => ys = List.replicate i (V.bl true)) rfl (fun _ _ _ _ _ e => e) (fun _ k => ⟨(hp.keep (kk.trans k)).sqt, k.sqt hb (fun z => z)⟩) (fun i x H3 H3' ys hi k3 e a1 y Kt Kf ht hf => ?_) fun H3 ys k3 e a1 => ?_
      · obtain ⟨T1, x1, x2, rfl, nT, rfl, hx1, hx2⟩ := y
        have hx2' : xs[i + 1]? = some x2 := by
          have e : (xs.drop 1)[i]? = some x2 := hx2
          rw [List.getElem?_drop, Nat.add_comm] at e
          exact e
        have kT : Kp Nil H3 (upd H3 T1 (.tup [x1, x2])) := Kp.new Kp.refl nT
        have got : ∀ {j : Nat} {x : V}, xs[j]? = some x → ∃ p, l[j]? = some p ∧ Tv H x (encP p) := fun {j x} h => by
          obtain ⟨d, hd, tv⟩ := hT.get h
          rw [List.getElem?_map] at hd
          cases e2 : l[j]? with
          | none => rw [e2] at hd; cases hd
          | some p => rw [e2] at hd; cases hd; exact ⟨p, rfl, tv⟩
        obtain ⟨⟨c1, i1⟩, g1, t1⟩ := got hx1
        obtain ⟨⟨c2, i2⟩, g2, t2⟩ := got hx2'
        obtain ⟨a1', rfl, q1⟩ := TvAll.inv_pairs (t1.keep ((kk.trans k3).trans kT))
        obtain ⟨a2', rfl, q2⟩ := TvAll.inv_pairs (t2.keep ((kk.trans k3).trans kT))
        refine ⟨T1, _, rfl, SqT.of upd_same, rfl, _, _, rfl, _, _, rfl, rfl, rfl, yes_go ?_⟩
        refine ⟨_, rfl, a1', _, 0, _, rfl, rfl, q1.sqt, atI_0, _, rfl, a2', _, 0, _, rfl, rfl, q2.sqt, atI_0, c1, c2, rfl, rfl, ?_⟩
        rw [decide_eq_true (hasc i _ _ g1 g2)]
        exact ht _ _ kT (by rw [a1, List.replicate_succ'])
      · have e2 : ys = (List.replicate (min xs.length (xs.drop 1).length) true).map V.bl := by rw [a1, List.map_replicate]
        rw [e2] at e
        refine ⟨D2, _, rfl, SqL.of e, ?_⟩
        rw [all_true fun b hb => (List.mem_replicate.mp hb).2]
        exact q _ (kk.trans k3)
end
end Ro

/-! RoData: the data of this program: what may be compared and sorted; a log's dict. -/
namespace Ro
open PySem PySem.Spec PyProof.Rows L2

/-! ### families -/
def LgW (l : Lg) : Prop := (cells l).Nodup ∧ l.length ≤ 16 ∧ ∀ p ∈ l, PrOk p
structure FmOk (F : Fm) : Prop where
  ne : F ≠ []
  le : F.length ≤ 60
  wf : ∀ l ∈ F, LgW l
theorem FmOk.nd {F : Fm} (h : FmOk F) : ∀ l ∈ F, (cells l).Nodup := fun l hl => (h.wf l hl).1
theorem FmOk.len {F : Fm} (h : FmOk F) : ∀ l ∈ F, l.length ≤ 16 := fun l hl => (h.wf l hl).2.1
theorem FmOk.filter {F : Fm} (h : FmOk F) (p : Lg → Bool) (ne : F.filter p ≠ []) : FmOk (F.filter p) :=
  ⟨ne, Nat.le_trans (List.length_filter_le _ _) h.le, fun l hl => h.wf l (List.mem_filter.mp hl).1⟩

/-! ### the dict of a log -/
theorem valV_app {κ : Type} [DecidableEq κ] (k : κ) : ∀ a b : List (κ × V), valV (a ++ b) k = (valV a k).or (valV b k)
  | [], b => by rw [List.nil_append, valV_nil]; rfl
  | p :: r, b => by
    by_cases e : p.1 = k
    · rw [List.cons_append, valV_pos e, valV_pos e]; rfl
    · rw [List.cons_append, valV_neg e, valV_neg e, valV_app k r b]
theorem valV_kvL (c : Str) : ∀ l : Lg, valV (kvL l) (Sum.inr c) = (get l c).map V.int
  | [] => rfl
  | (k, v) :: r => by
    have e : kvL ((k, v) :: r) = (Sum.inr k, V.int v) :: kvL r := rfl
    rw [e]
    unfold get
    by_cases h : k = c
    · subst h
      rw [if_pos rfl]
      exact valV_pos rfl
    · rw [if_neg h, valV_neg (by intro q; exact h (Sum.inr.inj q)), valV_kvL c r]
theorem merge_new : ∀ (more kvs : List (Key × V)), (kvs.map (·.1) ++ more.map (·.1)).Nodup → mergeK kvs more = kvs ++ more
  | [], kvs, _ => by rw [List.append_nil]; rfl
  | p :: r, kvs, h => by
    have hk : valV kvs p.1 = none := by
      cases e : valV kvs p.1 with
      | none => rfl
      | some v =>
        exfalso
        unfold valV at e
        cases e2 : kvs.find? (fun kv => decide (kv.1 = p.1)) with
        | none => rw [e2] at e; cases e
        | some q =>
          have m1 := List.mem_of_find?_eq_some e2
          have m2 : q.1 = p.1 := by
            have := List.find?_some e2
            exact of_decide_eq_true this
          have := (List.nodup_append.mp h).2.2 q.1 (List.mem_map.mpr ⟨q, m1, rfl⟩) p.1 (by simp)
          exact this m2
    have e : putK kvs p.1 p.2 = kvs ++ [p] := putK_new p.2 hk
    show mergeK (putK kvs p.1 p.2) r = _
    rw [e, merge_new r _ (by simpa using h)]
    simp
theorem dictL_eq {l : Lg} (h : (cells l).Nodup) : dictL l = kvL l := by
  have hn : ((kvL l).map (·.1)).Nodup := by
    have e : (kvL l).map (·.1) = (cells l).map Sum.inr := by
      unfold kvL cells
      rw [List.map_map, List.map_map]; rfl
    rw [e]
    exact List.Pairwise.map _ (fun a b ne q => ne (Sum.inr.inj q)) h
  have := merge_new (kvL l) [] (by simpa using hn)
  simpa [dictL] using this
theorem valV_dictL {l : Lg} (h : (cells l).Nodup) (c : Str) : valV (dictL l) (Sum.inr c) = (get l c).map V.int := by rw [dictL_eq h, valV_kvL]

/-! ### what may be compared -/
theorem strOk_cell {z : Str} (h : CellOk z) : PyData.strOk z = true := by
  unfold PyData.strOk
  rw [← Array.all_toList, List.all_eq_true]
  intro c hc
  have := (h.2.2 c hc).2
  exact decide_eq_true (by omega)
theorem lay_all {β : Type} {enc : β → PyData} : ∀ {l : List β}, (∀ x ∈ l, (enc x).canLay0 = true) → PyData.canLayAll0 (l.map enc) = true
  | [], _ => by simp [PyData.canLayAll0]
  | x :: r, h => by
    rw [List.map_cons, PyData.canLayAll0, h x List.mem_cons_self, lay_all fun y hy => h y (List.mem_cons_of_mem _ hy)]
    rfl
theorem depth_all {β : Type} {enc : β → PyData} {k : Nat} : ∀ {l : List β}, (∀ x ∈ l, (enc x).depth ≤ k) → PyData.depthAll (l.map enc) ≤ k
  | [], _ => by simp [PyData.depthAll]
  | x :: r, h => by
    rw [List.map_cons, PyData.depthAll]
    exact Nat.max_le.mpr ⟨h x List.mem_cons_self, depth_all fun y hy => h y (List.mem_cons_of_mem _ hy)⟩
theorem lay_P {p : Pr} (h : PrOk p) : (encP p).canLay0 = true := by simp [encP, PyData.canLay0, PyData.canLayAll0, strOk_cell h.1]
theorem depth_P (p : Pr) : (encP p).depth = 1 := by simp [encP, PyData.depth, PyData.depthAll]
theorem lay_L {l : Lg} (h : ∀ p ∈ l, PrOk p) : (encL l).canLay0 = true := by
  rw [encL, PyData.canLay0]
  exact lay_all fun p hp => lay_P (h p hp)
theorem depth_L (l : Lg) : (encL l).depth ≤ 2 := by
  rw [encL, PyData.depth]
  have := depth_all (enc := encP) (k := 1) (l := l) fun p _ => Nat.le_of_eq (depth_P p)
  omega
theorem lay_F {F : Fm} (h : ∀ l ∈ F, ∀ p ∈ l, PrOk p) : (encF F).canLay0 = true := by
  rw [encF, PyData.canLay0]
  exact lay_all fun l hl => lay_L (h l hl)
theorem depth_F (F : Fm) : (encF F).depth ≤ 3 := by
  rw [encF, PyData.depth]
  have := depth_all (enc := encL) (k := 2) (l := F) fun l _ => depth_L l
  omega
theorem shaped_of {d : PyData} (h : d.canLay0 = true) (k : d.depth ≤ 64) : SeqAt.shaped d = true := by
  unfold SeqAt.shaped
  rw [h, decide_eq_true k]; rfl
theorem shaped_nil : SeqAt.shaped (.tuple []) = true := by decide
theorem FmOk.shaped {F : Fm} (h : FmOk F) : SeqAt.shaped (encF F) = true := shaped_of (lay_F fun l hl => (h.wf l hl).2.2) (Nat.le_trans (depth_F F) (by decide))
theorem eqv_cons (x : PyData) (xs : List PyData) : PyData.eqv (.tuple (x :: xs)) (.tuple []) = false := by simp [PyData.eqv, PyData.eqvAll]
theorem eqv_nil : PyData.eqv (.tuple []) (.tuple []) = true := by simp [PyData.eqv, PyData.eqvAll]
theorem eqv_F {F : Fm} (h : F ≠ []) : PyData.eqv (encF F) (.tuple []) = false := by
  obtain ⟨l, r, e⟩ := List.exists_cons_of_ne_nil h
  subst e
  exact eqv_cons _ _

/-! ### what may be sorted -/
open PySem.W in
theorem alike_all {β : Type} {enc : β → PyData} (h : ∀ x y, alike (enc x) (enc y) = true) : ∀ a b : List β, alikeAll (a.map enc) (b.map enc) = true
  | [], b => by cases b <;> simp [alikeAll]
  | _ :: _, [] => by simp [alikeAll]
  | x :: a, y :: b => by rw [List.map_cons, List.map_cons, alikeAll, h, alike_all h a b]; rfl
open PySem.W in
theorem alike_P (p q : Pr) : alike (encP p) (encP q) = true := by simp [encP, alike, alikeAll]
open PySem.W in
theorem alike_L (l m : Lg) : alike (encL l) (encL m) = true := by
  rw [encL, encL, alike]
  exact alike_all alike_P l m
open PySem.W in
theorem alike_F (F G : Fm) : alike (encF F) (encF G) = true := by
  rw [encF, encF, alike]
  exact alike_all alike_L F G
open PySem.W in
theorem sortOk_strs (xs : List Str) (h : xs.length ≤ sizeLine) : SortOk (xs.map PyData.str) := by
  refine ⟨AllAlike.of fun x y => by simp [alike], .inl (Sortable.others fun x => ⟨by simp, by simp⟩), by rw [List.length_map]; exact h, fun d hd => ?_⟩
  obtain ⟨x, _, rfl⟩ := List.mem_map.mp hd
  simp [PyData.depth]
open PySem.W in
theorem sortOk_pairs (l : Lg) (h : l.length ≤ sizeLine) : SortOk (l.map encP) := by
  refine ⟨AllAlike.of alike_P, .inl (Sortable.tuples fun p => ⟨_, _, rfl⟩), by rw [List.length_map]; exact h, fun d hd => ?_⟩
  obtain ⟨x, _, rfl⟩ := List.mem_map.mp hd
  rw [depth_P]; decide
open PySem.W in
theorem sortOk_logs (F : Fm) (h : F.length ≤ sizeLine) (k : (∀ l ∈ F, l ≠ []) ∨ F.length < 2) : SortOk (F.map encL) := by
  refine ⟨AllAlike.of alike_L, ?_, by rw [List.length_map]; exact h, fun d hd => ?_⟩
  · rcases k with k | k
    · refine .inl (.inl fun d hd => ?_)
      obtain ⟨l, hl, rfl⟩ := List.mem_map.mp hd
      obtain ⟨p, r, e⟩ := List.exists_cons_of_ne_nil (k l hl)
      subst e
      exact ⟨_, _, rfl⟩
    · refine .inr ⟨by rw [List.length_map]; exact k, fun d hd => ?_⟩
      obtain ⟨l, _, rfl⟩ := List.mem_map.mp hd
      simp [encL]
  · obtain ⟨l, _, rfl⟩ := List.mem_map.mp hd
    exact Nat.le_trans (depth_L l) (by decide)
open PySem.W in
theorem sortOk_groups (G : List Fm) (h : G.length ≤ sizeLine) (k : ∀ F ∈ G, F ≠ []) : SortOk (G.map encF) := by
  refine ⟨AllAlike.of alike_F, .inl (.inl fun d hd => ?_), by rw [List.length_map]; exact h, fun d hd => ?_⟩
  · obtain ⟨l, hl, rfl⟩ := List.mem_map.mp hd
    obtain ⟨p, r, e⟩ := List.exists_cons_of_ne_nil (k l hl)
    subst e
    exact ⟨_, _, rfl⟩
  · obtain ⟨l, _, rfl⟩ := List.mem_map.mp hd
    exact Nat.le_trans (depth_F l) (by decide)
open PySem.W in
/-- sorting what things stand for -/
theorem sort_map {β : Type} (enc : β → PyData) (l : List β) : (l.map enc).mergeSort (dataLe false id) = (l.mergeSort (dataLe false enc)).map enc := by
  rw [List.map_mergeSort (r := dataLe false enc) (s := dataLe false id) (f := enc) fun a _ b _ => rfl]
theorem TvAll.at {H : Hp} {β : Type} {enc : β → PyData} {vs : List V} {l : List β} {i : Nat} {v : V} (h : TvAll H vs (l.map enc)) (e : vs[i]? = some v) : ∃ x, l[i]? = some x ∧ Tv H v (enc x) := by
  obtain ⟨d, hd, t⟩ := h.get e
  rw [List.getElem?_map] at hd
  cases e2 : l[i]? with
  | none => rw [e2] at hd; cases hd
  | some x => rw [e2] at hd; cases hd; exact ⟨x, rfl, t⟩
theorem TvAll.at' {H : Hp} {β : Type} {enc : β → PyData} {vs : List V} {l : List β} {i : Nat} {x : β} (h : TvAll H vs (l.map enc)) (e : l[i]? = some x) : ∃ v, vs[i]? = some v ∧ Tv H v (enc x) :=
  h.get' (by rw [List.getElem?_map, e]; rfl)
theorem TvAll.len {H : Hp} {β : Type} {enc : β → PyData} {vs : List V} {l : List β} (h : TvAll H vs (l.map enc)) : vs.length = l.length := by rw [h.length, List.length_map]
theorem Tv.tuple {H : Hp} {β : Type} {enc : β → PyData} {v : V} {l : List β} (h : Tv H v (.tuple (l.map enc))) : ∃ a xs, v = .ref a ∧ Pt H a xs ∧ TvAll H xs (l.map enc) := h.inv
end Ro

/-! RoLogs2: shared_cells, agreeing. -/
namespace Ro
open PySem PySem.Spec PyProof.Rows L2

/-- each of vs is a dict with a log's pairs -/
def Dicts (H : Hp) : List V → List Lg → Prop := Paired fun y l => ∃ d, y = .ref d ∧ H d = some (.dK (dictL l))
theorem Dicts.keep {S : Addr → Prop} {H H' : Hp} (k : Kp S H H') : ∀ {vs : List V} {ls : List Lg}, (∀ d, (∃ l, H d = some (.dK (dictL l))) → ¬ S d) → Dicts H vs ls → Dicts H' vs ls
  | _, _, _, .nil => .nil
  | _, _, hs, .cons ⟨d, e, h⟩ t => .cons ⟨d, e, k.keep _ _ h (hs d ⟨_, h⟩)⟩ (Dicts.keep k hs t)
theorem Dicts.atD {H : Hp} {D : Addr} {ys zs : List V} {vs : List V} {ls : List Lg} (h : H D = some (.lst ys)) (d : Dicts H vs ls) : Dicts (upd H D (.lst zs)) vs ls :=
  d.keep (Kp.atD h) fun a ⟨l, e⟩ z => by rw [show a = D from z, h] at e; cases e
theorem Dicts.snoc {H : Hp} {vs : List V} {ls : List Lg} {d : Addr} {l : Lg} (h : Dicts H vs ls) (e : H d = some (.dK (dictL l))) : Dicts H (vs ++ [.ref d]) (ls ++ [l]) := by
  induction h with
  | nil => exact .cons ⟨d, rfl, e⟩ .nil
  | cons h _ ih => exact .cons h ih
theorem Dicts.get {H : Hp} : ∀ {vs : List V} {ls : List Lg} {i : Nat} {v : V}, Dicts H vs ls → vs[i]? = some v → ∃ d l, v = .ref d ∧ ls[i]? = some l ∧ H d = some (.dK (dictL l))
  | _, _, _, _, .nil, e => by simp at e
  | _, _, 0, _, .cons ⟨d, h1, h2⟩ _, e => by simp at e; subst e; exact ⟨d, _, h1, rfl, h2⟩
  | _, _, i + 1, v, .cons _ t, e => by
    obtain ⟨d, l, h1, h2, h3⟩ := Dicts.get (i := i) t (by simpa using e)
    exact ⟨d, l, h1, by simpa using h2, h3⟩
theorem Dicts.length {H : Hp} {vs : List V} {ls : List Lg} (h : Dicts H vs ls) : vs.length = ls.length := Paired.length h
theorem take_snoc {β : Type} {l : List β} {i : Nat} {x : β} (h : l[i]? = some x) : l.take (i + 1) = l.take i ++ [x] := by
  rw [List.take_add_one, h]; rfl
theorem filter_snoc {β : Type} {p : β → Bool} {l : List β} {i : Nat} {x : β} (h : l[i]? = some x) : (l.take (i + 1)).filter p = (l.take i).filter p ++ (if p x = true then [x] else []) := by
  rw [take_snoc h, List.filter_append]
  cases hp : p x <;> simp [hp]
theorem TvAll.atD {H : Hp} {D : Addr} {ys zs vs : List V} {ds : List PyData} (h : H D = some (.lst ys)) (t : TvAll H vs ds) : TvAll (upd H D (.lst zs)) vs ds := t.keep (Kp.atD h)

section
variable {P : Program} {w : World} {K : PySem.W.Frag} {mg : Str → Option Value} {base : Heap}
def spShared : Sp := fun vs H Q _ => ∃ v F, vs = [v] ∧ Tv H v (encF F) ∧ FmOk F ∧ RD H Q (.tuple ((shared F).map .str))
theorem ok_shared_cells (D : Df K mg "shared_cells" s_shared_cells p_shared_cells) (T : Bu mg) : Ok P w K mg base 1 "shared_cells" p_shared_cells spShared := by
  refine D.ok sc_shared_cells (fun vs H Q E h => ?_) fun f cdv A outer s H vs Q E hr h => ?_
  · obtain ⟨v, p, rfl, _⟩ := h
    rfl
  · obtain ⟨v, F, rfl, hv, hF, q⟩ := h
    obtain ⟨a, xs, rfl, hp, hT⟩ := hv.tuple
    have hu := hr.units
    have hl : xs.length = F.length := hT.len
    have hle := hF.le
    obtain ⟨l0, r0, e0⟩ := List.exists_cons_of_ne_nil hF.ne
    refine ⟨_, pss_cons (ps_if (pt_cmpR (op_eqD hu) (pv 0) (pe_tupP pa_nil) (nomark _)) (pss_one (ps_ret (pe_tupP pa_nil))) pss_nil)
      (pss_cons (ps_set (i := 1) sc_shared_cells.nd rfl (Or.inr rfl)
        (pe_lc (own := [("log", 2)]) (g := gName 2) (tt := tYes) rfl sc_shared_cells.nd (pi_tup (pe_slice (sl_from K) (pv 0) (po_some pe_int) po_none)) (blkOk_by (N := n_shared_cells) (sc := defScope s_shared_cells) (by decide +kernel)) (fun _ _ _ _ _ => pg_name (i := 2) sc_shared_cells.nd rfl (Or.inl rfl)) (fun _ _ _ _ _ => pts_nil)
          (fun _ _ _ _ _ => pe_callTy (call_dictT rfl) (by rfl) T.dict bt_dict (pa_cons (pv 2) pa_nil))))
      (pss_one (ps_ret (pe_callTy (tupQ K) (by rfl) T.tuple bt_tuple (pa_cons
        (pe_lc (own := [("cell", 3), ("value", 4)]) (g := gTup K 2 (gCons (gName 3) (gCons (gName 4) gNil))) rfl sc_shared_cells.nd (pi_tup (pe_ix (ixT K) (pv 0) pe_int (fun _ _ => rfl))) (blkOk_by (N := n_shared_cells) (sc := defScope s_shared_cells) (by decide +kernel))
          (fun _ _ _ _ _ => pg_tup rfl (pgs_cons (pg_name (i := 3) sc_shared_cells.nd rfl (.inr rfl)) (pgs_cons (pg_name (i := 4) sc_shared_cells.nd rfl (.inl rfl)) pgs_nil)))
          (fun _ _ _ _ _ => pts_one (pt_val (pe_callB (allQ K) (by rfl) T.all bt_all (pa_cons
            (pe_lc (own := [("other", 5)]) (g := gName 5) (tt := tYes) (wi := iList K (tVar 1)) rfl sc_shared_cells.nd (pi_list (pv 1)) (blk_in (N := n_shared_cells) (sc := defScope s_shared_cells) rfl rfl (by decide +kernel)) (fun _ _ _ _ _ => pg_name (i := 5) sc_shared_cells.nd rfl (Or.inl rfl)) (fun _ _ _ _ _ => pts_nil)
              (fun _ _ _ _ _ => pe_cmp (pc_din (hu_of hr) (pv 3) (pv 5)) rfl)) pa_nil))))
          (fun _ _ _ _ _ => pv 3)) pa_nil))))), ?_⟩
    refine ⟨_, rfl, Nat.zero_le _, fun t0 o0 n0 c0 d0 => ?_⟩
    have k0 : Kp Nil H (upd H t0 (.frz o0 (.tup []))) := Kp.new Kp.refl n0
    refine ⟨encF F, .tuple [], (hv.keep k0).dp, (Tv.tup (Pt.new c0 d0) .nil).dp, hF.shaped, shaped_nil, _, rfl, ?_⟩
    rw [eqv_F hF.ne]
    refine iteF ?_
    refine ⟨_, rfl, _, rfl, _, _, 1, rfl, rfl, rfl, Nat.le_refl 1, (hp.keep k0).sqt, fun b H1 k1 hb => ⟨b, rfl, ⟨_, hb⟩, fun D1 n1 => ?_⟩⟩
    have k01 := k0.trans k1
    refine lc_acc (walk_tup (xs := xs.drop 1)) n1 (S := Nil) (fun z => z) (by rw [List.length_drop]; omega) (fun i H ys => Dicts H ys ((F.drop 1).take i)) .nil (fun _ _ _ _ e d => d.atD e) (fun _ k => k.sqt hb (fun z => z)) (fun i x H2 H2' ys hi k2 e2 a2 y Kt Kf ht hf => ?_) fun H2 ys k2 e2 a2 => ?_
    · obtain ⟨rfl, hx⟩ := y
      have hT1 : TvAll H (xs.drop 1) ((F.drop 1).map encL) := by rw [List.map_drop]; exact hT.drop 1
      obtain ⟨l, hl1, tv⟩ := hT1.at hx
      obtain ⟨al, ps, rfl, hpl, hTl⟩ := (tv.keep (k01.trans k2)).tuple
      refine ⟨rfl, yes_go ⟨_, rfl, al, ps, l, rfl, hpl, hTl, fun d nd => ht _ _ (Kp.new Kp.refl nd) ?_⟩⟩
      rw [take_snoc hl1]
      exact (a2.keep (Kp.new (S := Nil) Kp.refl nd) fun _ _ z => z).snoc upd_same
    · have k02 := k01.trans k2
      have a2' : Dicts H2 ys r0 := by
        have e : (F.drop 1).take (xs.drop 1).length = r0 := by
          rw [List.take_of_length_le (by rw [List.length_drop, List.length_drop]; omega), e0]; rfl
        rw [← e]; exact a2
      obtain ⟨x0, hx0, tv0⟩ := hT.at' (i := 0) (x := l0) (by rw [e0]; rfl)
      obtain ⟨b0, ps, rfl, hp0, hT0⟩ := (tv0.keep k02).tuple
      have hps : ps.length = l0.length := hT0.len
      have hr0 : F.length = r0.length + 1 := by rw [e0]; rfl
      have hl0 : l0.length ≤ 16 := hF.len l0 (by rw [e0]; exact List.mem_cons_self)
      refine ⟨_, rfl, a, xs, 0, _, rfl, rfl, (hp.keep k02).sqt, atI_nat (j := 0) hx0, b0, rfl, ⟨_, hp0.sqt⟩, fun D2 n2 => ?_⟩
      refine lc_acc (walk_tup (xs := ps)) n2 (S := Nil) (fun z => z) (by omega) (fun i H ys => TvAll H ys (((l0.take i).filter fun p : Pr => r0.all fun m => hasC m p.1).map fun p : Pr => PyData.str p.1)) .nil (fun _ _ _ _ e d => d.atD e) (fun _ k => (hp0.keep k).sqt) (fun i x H3 H3' ys3 hi k3 e3 a3 y Kt Kf ht hf => ?_) fun H3 ys3 k3 e3 a3 => ?_
      · obtain ⟨rfl, hx⟩ := y
        obtain ⟨⟨c, v⟩, hpr, tv⟩ := hT0.at hx
        obtain ⟨bp, rfl, hbp⟩ := TvAll.inv_pairs (tv.keep k3)
        refine ⟨bp, _, rfl, hbp.sqt, rfl, _, _, rfl, _, _, rfl, rfl, rfl, ?_⟩
        refine ⟨_, rfl, D1, rfl, ⟨ys, SqL.of (k3.keep _ _ e2 fun z => z)⟩, fun D3 n3 => ?_⟩
        refine lc_acc (walk_list (xs := ys)) n3 (S := Nil) (fun z => z) (by rw [a2'.length]; omega) (fun i H zs => zs = ((r0.take i).map fun l => hasC l c).map V.bl) rfl (fun _ _ _ _ _ e => e) (fun _ k => SqL.of (k.keep _ _ (k3.keep _ _ e2 fun z => z) fun z => z)) (fun i x H4 H4' zs hi k4 e4 a4 y Lt Lf gt gf => ?_) fun H4 zs k4 e4 a4 => ?_
        · obtain ⟨rfl, hx⟩ := y
          obtain ⟨d, l, rfl, hrl, hd⟩ := a2'.get hx
          have hd4 := k4.keep _ _ (k3.keep _ _ hd fun z => z) fun z => z
          refine ⟨rfl, yes_go ⟨_, rfl, _, rfl, d, _, rfl, DGet.k (k := Sum.inr c) hd4, ?_⟩⟩
          have en : (valV (dictL l) (Sum.inr c)).isSome = hasC l c := by
            rw [valV_dictL (hF.nd l (by rw [e0]; exact List.mem_cons_of_mem _ (List.mem_of_getElem? hrl))), Option.isSome_map]
            unfold hasC
            rw [Bool.eq_iff_iff, get_isSome, decide_eq_true_eq]
          rw [en]
          exact gt _ _ Kp.refl (by rw [a4, take_snoc hrl]; simp)
        · have ez : zs = (r0.map fun l => hasC l c).map V.bl := by
            rw [a4, List.take_of_length_le (by rw [a2'.length]; exact Nat.le_refl _)]
          rw [ez] at e4
          refine ⟨D3, _, rfl, SqL.of e4, _, rfl, ?_⟩
          have ea : ((r0.map fun l => hasC l c).all id) = r0.all fun m => hasC m c := by rw [List.all_map]; rfl
          have a3' := a3.keep k4
          rw [ea]
          have st := filter_snoc (p := fun p : Pr => r0.all fun m => hasC m p.1) hpr
          refine ite2 (fun hb => ?_) (fun hb => ?_)
          · refine ⟨_, rfl, ht _ _ k4 ?_⟩
            rw [st, if_pos hb, List.map_append]
            exact a3'.snoc (.str c)
          · refine hf _ k4 ?_
            rw [st, if_neg hb, List.append_nil]
            exact a3'
      · refine ⟨D2, _, rfl, SqL.of e3, fun r o nr hc hd => q _ _ (((k02.trans k3)).trans (Kp.new Kp.refl nr)) (.tup (Pt.new hc hd) ?_)⟩
        have es : (shared F).map PyData.str = ((l0.take ps.length).filter fun p : Pr => r0.all fun m => hasC m p.1).map fun p : Pr => PyData.str p.1 := by
          rw [e0, hps, List.take_length]
          show ((l0.map (·.1)).filter _).map _ = _
          rw [List.filter_map, List.map_map]
          rfl
        rw [es]
        exact a3.keep (Kp.new (S := Nil) Kp.refl nr)

/-! ### agreeing -/
def agr (kn : Lg) (l : Lg) : Bool := kn.all fun p => decide (get l p.1 = some p.2)
def spAgreeing : Sp := fun vs H Q _ => ∃ v u F kn, vs = [v, u] ∧ Tv H v (encF F) ∧ Tv H u (encL kn) ∧ F.length ≤ 64 ∧ (∀ l ∈ F, LgW l) ∧ kn.length ≤ 16 ∧ RD H Q (encF (F.filter (agr kn)))
theorem ok_agreeing (D : Df K mg "agreeing" s_agreeing p_agreeing) (T : Bu mg) : Ok P w K mg base 1 "agreeing" p_agreeing spAgreeing := by
  refine D.ok sc_agreeing (fun vs H Q E h => ?_) fun f cdv A outer s H vs Q E hr h => ?_
  · obtain ⟨v, u, F, kn, rfl, _⟩ := h
    rfl
  · obtain ⟨v, u, F, kn, rfl, hv, hk, hle, hw, hkl, q⟩ := h
    obtain ⟨a, xs, rfl, hp, hT⟩ := hv.tuple
    obtain ⟨b, ks, rfl, hb, hK⟩ := hk.tuple
    have hl : xs.length = F.length := hT.len
    have hks : ks.length = kn.length := hK.len
    refine ⟨_, pss_cons (ps_set (i := 2) sc_agreeing.nd rfl (Or.inl rfl) (pe_lst pa_nil))
      (pss_cons (ps_for PassesOwn.never rfl (pi_tup (pv 0)) (pg_name (i := 3) sc_agreeing.nd rfl (.inl rfl))
        (pss_cons (ps_set (i := 4) sc_agreeing.nd rfl (Or.inr rfl) (pe_callTy (call_dictT rfl) (by rfl) T.dict bt_dict (pa_cons (pv 3) pa_nil)))
        (pss_one (ps_if (pt_val (pe_callB (allQ K) (by rfl) T.all bt_all (pa_cons
            (pe_lc (own := [("cell", 5), ("value", 6)]) (g := gTup K 2 (gCons (gName 5) (gCons (gName 6) gNil))) (tt := tYes) rfl sc_agreeing.nd (pi_tup (pv 1)) (blkOk_by (N := n_agreeing) (sc := defScope s_agreeing) (by decide +kernel))
              (fun _ _ _ _ _ => pg_tup rfl (pgs_cons (pg_name (i := 5) sc_agreeing.nd rfl (.inl rfl)) (pgs_cons (pg_name (i := 6) sc_agreeing.nd rfl (.inl rfl)) pgs_nil))) (fun _ _ _ _ _ => pts_nil)
              (fun _ _ _ _ _ => pe_cmpR op_eq (pe_dget1 (hu_of hr) (pv 4) (pv 5) ⟨by rfl, by rfl, rfl, by rfl⟩) (pv 6) (nomark _))) pa_nil)))
          (pss_one (ps_expr (pe_bm PySem.F.plainAttrs_list PySem.F.slot_list_append PySem.F.type_list_append mt_append (pv 2) (pa_cons (pv 3) pa_nil)))) pss_nil))))
      (pss_one (ps_ret (pe_callTy (tupQ K) (by rfl) T.tuple bt_tuple (pa_cons (pv 2) pa_nil))))), ?_⟩
    refine ⟨Nat.zero_le _, fun fo nf => ?_⟩
    have k0 : Kp Nil H (upd H fo (.lst [])) := Kp.new Kp.refl nf
    refine ⟨_, rfl, a, rfl, ⟨xs, (hp.keep k0).sqt⟩, for_it (walk_tup (xs := xs)) (fun i σ H1 => (∃ y3 y4, σ = [some (.ref a), some (.ref b), some (.ref fo), y3, y4, none, none]) ∧ Kp Nil H H1 ∧ ∃ ys, H1 fo = some (.lst ys) ∧ TvAll H1 ys (((F.take i).filter (agr kn)).map encL))
      ⟨⟨none, none, rfl⟩, k0, [], upd_same, .nil⟩ (fun _ _ _ _ h => (hp.keep h.2.1).sqt) (fun i x σ H1 H1' hi hP y => ?_) fun σ H1 hP => ?_⟩
    · obtain ⟨rfl, hx⟩ := y
      obtain ⟨⟨y3, y4, rfl⟩, k1, ys, e1, t1⟩ := hP
      obtain ⟨l, hl1, tv⟩ := hT.at hx
      have tv1 := tv.keep k1
      obtain ⟨al, ps, rfl, hpl, hTl⟩ := tv1.tuple
      have hlw := hw l (List.mem_of_getElem? hl1)
      refine ⟨_, rfl, al, ps, l, rfl, hpl, hTl, fun d nd => ?_⟩
      have k2 : Kp Nil H1' (upd H1' d (.dK (dictL l))) := Kp.new Kp.refl nd
      refine ⟨_, rfl, b, rfl, ⟨ks, (hb.keep (k1.trans k2)).sqt⟩, fun D1 n1 => ?_⟩
      refine lc_acc (walk_tup (xs := ks)) n1 (S := Nil) (fun z => z) (by omega) (fun i H ys => ys = ((kn.take i).map fun p => decide (get l p.1 = some p.2)).map V.bl) rfl (fun _ _ _ _ _ e => e) (fun _ k => (hb.keep ((k1.trans k2).trans k)).sqt) (fun j x H3 H3' ys3 hj k3 e3 a3 y Kt Kf ht hf => ?_) fun H3 ys3 k3 e3 a3 => ?_
      · obtain ⟨rfl, hx⟩ := y
        obtain ⟨⟨c, v⟩, hpr, tvp⟩ := hK.at hx
        obtain ⟨bp, rfl, hbp⟩ := TvAll.inv_pairs (tvp.keep ((k1.trans k2).trans k3))
        refine ⟨bp, _, rfl, hbp.sqt, rfl, _, _, rfl, _, _, rfl, rfl, rfl, yes_go ?_⟩
        have hd3 : H3' d = some (.dK (dictL l)) := k3.keep _ _ upd_same fun z => z
        refine ⟨_, rfl, d, rfl, .inl ⟨_, .inl hd3⟩, _, rfl, _, DGet.k (k := Sum.inr c) hd3, _, rfl, ?_, ?_⟩
        · rw [valV_dictL hlw.1]
          cases get l c <;> rfl
        · have ev : decide ((valV (dictL l) (Sum.inr c)).getD V.non = V.int v) = decide (get l c = some v) := by
            rw [valV_dictL hlw.1]
            cases get l c with
            | none => simp
            | some z => simp
          rw [ev]
          exact ht _ _ Kp.refl (by rw [a3, take_snoc hpr]; simp)
      · have ez : ys3 = (kn.map fun p => decide (get l p.1 = some p.2)).map V.bl := by rw [a3, hks, List.take_length]
        rw [ez] at e3
        have ea : ((kn.map fun p => decide (get l p.1 = some p.2)).all id) = agr kn l := by rw [List.all_map]; rfl
        refine ⟨D1, _, rfl, SqL.of e3, _, rfl, ?_⟩
        rw [ea]
        have k13 := (k1.trans k2).trans k3
        have e13 : H3 fo = some (.lst ys) := (k2.trans k3).keep _ _ e1 fun z => z
        have hyl : ys.length ≤ 64 := by
          have := t1.len
          have := List.length_filter_le (agr kn) (F.take i)
          have : (F.take i).length ≤ F.length := by rw [List.length_take]; exact Nat.min_le_right _ _
          omega
        have st := filter_snoc (p := agr kn) hl1
        refine ite2 (fun hb' => ?_) (fun hb' => ?_)
        · refine ⟨_, rfl, .inl ⟨rfl, _, SqL.of e13⟩, _, rfl, fo, ys, _, rfl, rfl, e13, by rw [sizeLine_eq]; omega, ⟨_, _, rfl⟩, Kp.mut k13 nf, _, upd_same, ?_⟩
          rw [st, if_pos hb', List.map_append]
          exact TvAll.atD e13 ((t1.keep (k2.trans k3)).snoc (tv1.keep (k2.trans k3)))
        · refine ⟨⟨_, _, rfl⟩, k13, ys, e13, ?_⟩
          rw [st, if_neg hb', List.append_nil]
          exact t1.keep (k2.trans k3)
    · obtain ⟨⟨y3, y4, rfl⟩, k1, ys, e1, t1⟩ := hP
      refine ⟨_, rfl, fo, ys, rfl, SqL.of e1, fun r o nr hc hd => q _ _ (k1.trans (Kp.new Kp.refl nr)) (.tup (Pt.new hc hd) ?_)⟩
      rw [hl, List.take_length] at t1
      exact t1.keep (Kp.new (S := Nil) Kp.refl nr)
end
end Ro

/-! RoParts: unread_shared; the dict value -> the logs that have it. -/
namespace Ro
open PySem PySem.Spec PyProof.Rows L2

theorem inV_strs (c : Str) (ds : List Str) : inV (.str c) (ds.map V.str) = decide (c ∈ ds) := by
  unfold inV
  rw [Bool.eq_iff_iff, List.any_eq_true, decide_eq_true_eq]
  constructor
  · rintro ⟨y, hy, e⟩
    obtain ⟨x, hx, rfl⟩ := List.mem_map.mp hy
    have e : (x == c) = true := e
    exact (beq_iff_eq.mp e) ▸ hx
  · intro h
    exact ⟨.str c, List.mem_map.mpr ⟨c, h, rfl⟩, show (c == c) = true from beq_self_eq_true c⟩
theorem flat_strs' (ds : List Str) : (ds.map V.str).all flatV = true := by
  rw [List.all_eq_true]
  intro x hx
  obtain ⟨y, _, rfl⟩ := List.mem_map.mp hx
  rfl
theorem strs_of {H : Hp} {xs : List V} {ds : List Str} (h : TvAll H xs (ds.map PyData.str)) : xs = ds.map V.str := TvAll.inv_strs h

/-! ### the dict of parts -/
def kvP (es : List (Int × Addr)) : List (Key × V) := es.map fun e => (Sum.inl e.1, V.ref e.2)
structure Parts (H0 H : Hp) (d : Addr) (G : Fm) (c : Str) (es : List (Int × Addr)) : Prop where
  at_ : H d = some (.dK (kvP es))
  nk : (es.map (·.1)).Nodup
  na : (es.map (·.2)).Nodup
  mem : ∀ v, v ∈ es.map (·.1) ↔ ∃ l ∈ G, get l c = some v
  lists : ∀ e ∈ es, H0 e.2 = none ∧ ∃ ys, H e.2 = some (.lst ys) ∧ TvAll H ys ((part G c e.1).map encL)
theorem kvP_some : ∀ {es : List (Int × Addr)} {v : Int} {p : Addr}, (es.map (·.1)).Nodup → (v, p) ∈ es → valV (kvP es) (Sum.inl v) = some (.ref p)
  | (k, q) :: r, v, p, hn, h => by
    have hn' := List.nodup_cons.mp hn
    have e : kvP ((k, q) :: r) = (Sum.inl k, V.ref q) :: kvP r := rfl
    rw [e]
    rcases List.mem_cons.mp h with z | z
    · cases z
      exact valV_pos rfl
    · have ne : k ≠ v := fun q => hn'.1 (by rw [q]; exact List.mem_map.mpr ⟨(v, p), z, rfl⟩)
      rw [valV_neg (by intro q; exact ne (Sum.inl.inj q)), kvP_some hn'.2 z]
theorem kvP_none : ∀ {es : List (Int × Addr)} {v : Int}, v ∉ es.map (·.1) → valV (kvP es) (Sum.inl v) = none
  | [], _, _ => rfl
  | (k, q) :: r, v, h => by
    have e : kvP ((k, q) :: r) = (Sum.inl k, V.ref q) :: kvP r := rfl
    rw [e, valV_neg (by intro q; exact h (by rw [← Sum.inl.inj q]; exact List.mem_cons_self)), kvP_none fun z => h (List.mem_cons_of_mem _ z)]
theorem part_snoc (G : Fm) (l : Lg) (c : Str) (v : Int) : part (G ++ [l]) c v = part G c v ++ (if get l c = some v then [l] else []) := by
  unfold part
  rw [List.filter_append]
  by_cases h : get l c = some v <;> simp [h]
section
variable {H0 H H' : Hp} {d : Addr} {G : Fm} {c : Str} {es : List (Int × Addr)}
theorem Parts.keep {S : Addr → Prop} (h : Parts H0 H d G c es) (k : Kp S H H') (sd : ¬ S d) (se : ∀ e ∈ es, ¬ S e.2) : Parts H0 H' d G c es :=
  ⟨k.keep _ _ h.at_ sd, h.nk, h.na, h.mem, fun e he => let ⟨a, ys, b, t⟩ := h.lists e he; ⟨a, ys, k.keep _ _ b (se e he), t.keep k⟩⟩
theorem Parts.keep0 (h : Parts H0 H d G c es) (k : Kp Nil H H') : Parts H0 H' d G c es := h.keep k (fun z => z) fun _ _ z => z
theorem Parts.start (n0 : H0 d = none) : Parts H0 (upd H d (.dK [])) d [] c [] :=
  ⟨upd_same, by simp, by simp, fun v => by simp, fun e he => by simp at he⟩
theorem Parts.app {l : Lg} {v : Int} {p : Addr} {ys : List V} {x : V} (h : Parts H0 H d G c es) (hp : (v, p) ∈ es) (hv : get l c = some v) (e : H p = some (.lst ys)) (tx : Tv H x (encL l)) : Parts H0 (upd H p (.lst (ys ++ [x]))) d (G ++ [l]) c es := by
  have kp : Kp (One p) H (upd H p (.lst (ys ++ [x]))) := Kp.atD e
  have dp : d ≠ p := ne_of h.at_ e (by intro z; cases z)
  refine ⟨by rw [upd_ne dp]; exact h.at_, h.nk, h.na, fun w => ?_, fun e' he' => ?_⟩
  · rw [h.mem w]
    constructor
    · rintro ⟨m, hm, z⟩; exact ⟨m, List.mem_append_left _ hm, z⟩
    · rintro ⟨m, hm, z⟩
      rcases List.mem_append.mp hm with hm | hm
      · exact ⟨m, hm, z⟩
      · rw [List.mem_singleton.mp hm, hv] at z
        cases z
        exact (h.mem v).mp (List.mem_map.mpr ⟨_, hp, rfl⟩)
  · obtain ⟨a, zs, b, t⟩ := h.lists e' he'
    refine ⟨a, ?_⟩
    rw [part_snoc]
    by_cases q : e'.2 = p
    · have ee : e'.1 = v := by
        obtain ⟨i, hi⟩ := List.mem_iff_getElem?.mp he'
        obtain ⟨j, hj⟩ := List.mem_iff_getElem?.mp hp
        have e1 : (es.map (·.2))[i]? = some p := by rw [List.getElem?_map, hi, ← q]; rfl
        have e2 : (es.map (·.2))[j]? = some p := by rw [List.getElem?_map, hj]; rfl
        have e3 := nd_ix h.na e1 e2
        rw [e3, hj] at hi
        cases hi; rfl
      rw [q] at b
      rw [b] at e
      cases e
      refine ⟨ys ++ [x], by rw [q]; exact upd_same, ?_⟩
      rw [ee, if_pos hv, List.map_append, ← ee]
      exact (t.keep kp).append (.cons (tx.keep kp) .nil)
    · have ne : e'.1 ≠ v := fun z => q (by
        obtain ⟨i, hi⟩ := List.mem_iff_getElem?.mp he'
        obtain ⟨j, hj⟩ := List.mem_iff_getElem?.mp hp
        have e1 : (es.map (·.1))[i]? = some v := by rw [List.getElem?_map, hi, ← z]; rfl
        have e2 : (es.map (·.1))[j]? = some v := by rw [List.getElem?_map, hj]; rfl
        have e3 := nd_ix h.nk e1 e2
        rw [e3, hj] at hi
        cases hi; rfl)
      refine ⟨zs, by rw [upd_ne q]; exact b, ?_⟩
      rw [if_neg fun z => ne (Option.some.inj (z.symm.trans hv)), List.append_nil]
      exact t.keep kp
theorem Parts.add {l : Lg} {v : Int} {p : Addr} {ys : List V} {x : V} (h : Parts H0 H d G c es) (nv : v ∉ es.map (·.1)) (hv : get l c = some v) (hp : H0 p = none) (np : p ∉ es.map (·.2)) (e : H p = some (.lst ys)) (tx : Tv H x (encL l)) :
    Parts H0 (upd (upd H d (.dK (kvP (es ++ [(v, p)])))) p (.lst [x])) d (G ++ [l]) c (es ++ [(v, p)]) := by
  have dp : d ≠ p := ne_of h.at_ e (by intro z; cases z)
  have e1 : (upd H d (.dK (kvP (es ++ [(v, p)])))) p = some (.lst ys) := by rw [upd_ne (Ne.symm dp)]; exact e
  have k1 : Kp (One d) H (upd H d (.dK (kvP (es ++ [(v, p)])))) := Kp.own Kp.refl rfl fun u w z => by rw [h.at_] at z; cases z
  have kp : Kp (fun a => One d a ∨ One p a) H (upd (upd H d (.dK (kvP (es ++ [(v, p)])))) p (.lst [x])) := k1.split (Kp.atD e1)
  have pe : part G c v = [] := by
    apply List.eq_nil_iff_forall_not_mem.mpr
    intro m hm
    obtain ⟨a, b⟩ := mem_part.mp hm
    exact nv ((h.mem v).mpr ⟨m, a, b⟩)
  refine ⟨by rw [upd_ne dp]; exact upd_same, ?_, ?_, fun w => ?_, fun e' he' => ?_⟩
  · rw [List.map_append]; exact nd_snoc h.nk nv
  · rw [List.map_append]; exact nd_snoc h.na np
  · rw [List.map_append, List.mem_append, h.mem w]
    constructor
    · rintro (⟨m, hm, z⟩ | z)
      · exact ⟨m, List.mem_append_left _ hm, z⟩
      · have z : w = v := by simpa using z
        subst z
        exact ⟨l, by simp, hv⟩
    · rintro ⟨m, hm, z⟩
      rcases List.mem_append.mp hm with hm | hm
      · exact .inl ⟨m, hm, z⟩
      · rw [List.mem_singleton.mp hm, hv] at z
        cases z
        exact .inr (by simp)
  · rw [part_snoc]
    rcases List.mem_append.mp he' with he' | he'
    · obtain ⟨a, zs, b, t⟩ := h.lists e' he'
      have q1 : e'.2 ≠ p := fun z => np (List.mem_map.mpr ⟨e', he', z⟩)
      have q2 : e'.2 ≠ d := ne_of b h.at_ (by intro z; cases z)
      have ne : ¬ get l c = some e'.1 := fun z => nv (by rw [hv] at z; rw [Option.some.inj z]; exact List.mem_map.mpr ⟨e', he', rfl⟩)
      refine ⟨a, zs, by rw [upd_ne q1, upd_ne q2]; exact b, ?_⟩
      rw [if_neg ne, List.append_nil]
      exact t.keep kp
    · have z : e' = (v, p) := by simpa using he'
      subst z
      refine ⟨hp, [x], upd_same, ?_⟩
      rw [if_pos hv, pe]
      exact .cons (tx.keep kp) .nil
theorem Parts.fresh (h : Parts H0 H d G c es) {p : Addr} (n : H p = none) : p ∉ es.map (·.2) := fun z => by
  obtain ⟨e, he, q⟩ := List.mem_map.mp z
  obtain ⟨_, _, b, _⟩ := h.lists e he
  rw [q, n] at b
  cases b
theorem Parts.vals (h : Parts H0 H d G c es) : IsVals G c (es.map (·.1)) := ⟨h.nk, h.mem⟩
theorem Parts.length (h : Parts H0 H d G c es) : es.length ≤ G.length := by
  have : (es.map (·.1)).length ≤ (G.filterMap fun l => get l c).length := by
    refine len_le_of_sub h.nk fun v hv => ?_
    obtain ⟨l, hl, e⟩ := (h.mem v).mp hv
    exact List.mem_filterMap.mpr ⟨l, hl, e⟩
  rw [List.length_map] at this
  exact Nat.le_trans this (List.length_filterMap_le _ _)
end
/-- what one turn of the loop leaves: setdefault(v, []).append(x) -/
theorem Parts.turn {H0 H : Hp} {d : Addr} {G : Fm} {c : Str} {es : List (Int × Addr)} {l : Lg} {v : Int} {x : V} {p0 : Addr} (h : Parts H0 H d G c es) (hd0 : H0 d = none) (k0 : Kp Nil H0 H) (hv : get l c = some v) (tx : Tv H x (encL l)) (hG : G.length ≤ 64) (n0 : H p0 = none)
    {Q : Hp → Prop} (q : ∀ H' es', Kp Nil H0 H' → Parts H0 H' d (G ++ [l]) c es' → Q H') :
    ∃ (kvs : List (Key × V)) (k : Key), (upd H p0 (.lst [])) d = some (.dK kvs) ∧ V.int v = kV k ∧ kvs.length < sizeLine ∧
      (∀ z, valV kvs k = some z → ∃ p ys, z = .ref p ∧ (upd H p0 (.lst [])) p = some (.lst ys) ∧ ys.length < sizeLine ∧ Q (upd (upd H p0 (.lst [])) p (.lst (ys ++ [x])))) ∧
      (valV kvs k = none → ∃ ys, (upd (upd H p0 (.lst [])) d (.dK (putK kvs k (.ref p0)))) p0 = some (.lst ys) ∧ ys.length < sizeLine ∧ Q (upd (upd (upd H p0 (.lst [])) d (.dK (putK kvs k (.ref p0)))) p0 (.lst (ys ++ [x])))) := by
  have kn : Kp Nil H (upd H p0 (.lst [])) := Kp.new Kp.refl n0
  have h1 := h.keep0 kn
  have tx1 := tx.keep kn
  have hlen := h.length
  refine ⟨kvP es, Sum.inl v, h1.at_, rfl, by rw [sizeLine_eq]; unfold kvP; rw [List.length_map]; omega, fun z hz => ?_, fun hz => ?_⟩
  · by_cases hm : v ∈ es.map (·.1)
    · obtain ⟨⟨v', p⟩, he, e⟩ := List.mem_map.mp hm
      have e : v' = v := e
      subst e
      rw [kvP_some h.nk he] at hz
      cases hz
      obtain ⟨a, ys, b, t⟩ := h1.lists _ he
      have hy : ys.length ≤ 64 := by
        rw [t.len]
        exact Nat.le_trans (List.length_filter_le _ _) hG
      exact ⟨p, ys, rfl, b, by rw [sizeLine_eq]; omega, q _ es ((k0.trans kn).mut a) (h1.app he hv b tx1)⟩
    · rw [kvP_none hm] at hz
      cases hz
  · by_cases hm : v ∈ es.map (·.1)
    · obtain ⟨⟨v', p⟩, he, e⟩ := List.mem_map.mp hm
      have e : v' = v := e
      subst e
      rw [kvP_some h.nk he] at hz
      cases hz
    · have e1 : putK (kvP es) (Sum.inl v) (.ref p0) = kvP (es ++ [(v, p0)]) := by
        rw [putK_new _ hz]
        unfold kvP
        rw [List.map_append]; rfl
      have dp : p0 ≠ d := Ne.symm (ne_of_none h.at_ n0)
      rw [e1]
      refine ⟨[], by rw [upd_ne dp]; exact upd_same, by rw [sizeLine_eq]; decide, q _ _ ?_ (h1.add hm hv (k0.fresh n0) (h.fresh n0) upd_same tx1)⟩
      exact ((k0.trans kn).mut hd0).mut (k0.fresh n0)

section
variable {P : Program} {w : World} {K : PySem.W.Frag} {mg : Str → Option Value} {base : Heap}
def spUnread (K : PySem.W.Frag) : Sp := fun vs H Q _ => ∃ v d F ds, vs = [v, .ref d] ∧ Tv H v (encF F) ∧ FmOk F ∧ SqT K H d (ds.map V.str) ∧ (∀ p H', Kp Nil H H' → H p = none → H' p = some (.lst ((unread F ds).map V.str)) → Q (.ref p) H')
theorem shared_len {F : Fm} (h : FmOk F) : (shared F).length ≤ 16 := by
  obtain ⟨l, r, e⟩ := List.exists_cons_of_ne_nil h.ne
  subst e
  have := h.len l List.mem_cons_self
  refine Nat.le_trans (List.length_filter_le _ _) ?_
  rw [List.length_map]; exact this
theorem ok_unread_shared (D : Df K mg "unread_shared" s_unread_shared p_unread_shared) (T : Bu mg) (os : Ok P w K mg base 1 "shared_cells" p_shared_cells spShared) :
    Ok P w K mg base 2 "unread_shared" p_unread_shared (spUnread K) := by
  refine D.ok sc_unread_shared (fun vs H Q E h => ?_) fun f cdv A outer s H vs Q E hr h => ?_
  · obtain ⟨v, d, F, ds, rfl, _⟩ := h
    rfl
  · obtain ⟨v, d, F, ds, rfl, hv, hF, hd, q⟩ := h
    refine ⟨_, pss_one (ps_ret (pe_lc (own := [("cell", 2)]) (g := gName 2) rfl sc_unread_shared.nd (pi_tup (pe_cl os hr (pa_cons (pv 0) pa_nil))) (blkOk_by (N := n_unread_shared) (sc := defScope s_unread_shared) (by decide +kernel))
      (fun _ _ _ _ _ => pg_name (i := 2) sc_unread_shared.nd rfl (.inl rfl))
      (fun _ _ _ _ _ => pts_one (pt_cmpR (ninQ K) (pv 2) (pv 1) rfl))
      (fun _ _ _ _ _ => pv 2))), ?_⟩
    refine ⟨_, rfl, v, F, rfl, hv, hF, fun v1 H1 k1 t1 => ?_⟩
    obtain ⟨a, xs, rfl, hp, hT⟩ := t1.inv
    have hx := TvAll.inv_strs (by rw [← List.map_id (shared F)] at hT; simpa using hT)
    subst hx
    have hsl := shared_len hF
    refine ⟨a, rfl, ⟨_, hp.sqt⟩, fun D1 n1 => ?_⟩
    refine lc_acc (walk_tup (xs := (shared F).map V.str)) n1 (S := Nil) (fun z => z) (by rw [List.length_map]; omega) (fun i H ys => ys = (((shared F).take i).filter fun c => decide (c ∉ ds)).map V.str) rfl (fun _ _ _ _ _ e => e) (fun _ k => (hp.keep k).sqt) (fun i x H2 H2' ys hi k2 e2 a2 y Kt Kf ht hf => ?_) fun H2 ys k2 e2 a2 => ?_
    · obtain ⟨rfl, hx⟩ := y
      obtain ⟨c, hc, rfl⟩ : ∃ c, (shared F)[i]? = some c ∧ x = .str c := by
        rw [List.getElem?_map] at hx
        cases e3 : (shared F)[i]? with
        | none => rw [e3] at hx; cases hx
        | some c => rw [e3] at hx; exact ⟨c, rfl, (Option.some.inj hx).symm⟩
      have st := filter_snoc (p := fun c => decide (c ∉ ds)) hc
      refine ⟨rfl, _, rfl, _, rfl, d, ds.map V.str, rfl, .inr ((k1.trans k2).sqt hd (fun z => z)), rfl, flat_strs' ds, ?_⟩
      rw [inV_strs]
      refine ⟨_, rfl, ?_⟩
      refine ite2 (fun hb => ?_) (fun hb => ?_)
      · refine ⟨_, rfl, ht _ _ Kp.refl ?_⟩
        have : decide (c ∉ ds) = true := by simpa using hb
        rw [a2, st, if_pos this, List.map_append]; rfl
      · refine hf _ Kp.refl ?_
        have : ¬ decide (c ∉ ds) = true := by simpa using hb
        rw [a2, st, if_neg this, List.append_nil]
    · refine q D1 H2 (k1.trans k2) (k1.fresh n1) ?_
      rw [e2, a2, List.length_map, List.take_length]; rfl

def encVP (F : Fm) (c : Str) (v : Int) : PyData := .tuple [.int v, encF (part F c v)]
def spPartsBy : Sp := fun vs H Q _ => ∃ v c F, vs = [v, .str c] ∧ Tv H v (encF F) ∧ FmOk F ∧ (∀ l ∈ F, c ∈ cells l) ∧
  ∀ p xs H' vs, Kp Nil H H' → H p = none → H' p = some (.lst xs) → TvAll H' xs (vs.map (encVP F c)) → IsVals F c vs → vs.length ≤ F.length → Q (.ref p) H'
theorem ok_parts_by (D : Df K mg "parts_by" s_parts_by p_parts_by) (T : Bu mg) : Ok P w K mg base 1 "parts_by" p_parts_by spPartsBy := by
  refine D.ok sc_parts_by (fun vs H Q E h => ?_) fun f cdv A outer s H vs Q E hr h => ?_
  · obtain ⟨v, c, F, rfl, _⟩ := h
    rfl
  · obtain ⟨v, c, F, rfl, hv, hF, hc, q⟩ := h
    obtain ⟨a, xs, rfl, hp, hT⟩ := hv.tuple
    have hl : xs.length = F.length := hT.len
    have hle := hF.le
    refine ⟨_, pss_cons (ps_set (i := 2) sc_parts_by.nd rfl (Or.inr rfl) pe_dnewK)
      (pss_cons (ps_for PassesOwn.never rfl (pi_tup (pv 0)) (pg_name (i := 3) sc_parts_by.nd rfl (.inl rfl))
        (pss_one (ps_expr (pe_bm PySem.F.plainAttrs_list PySem.F.slot_list_append PySem.F.type_list_append mt_append
          (pe_dsetd (pv 2) (pe_dget (hu_of hr) (pe_callTy (call_dictT rfl) (by rfl) T.dict bt_dict (pa_cons (pv 3) pa_nil)) (pv 1) (fun _ _ => rfl)) (pe_lst pa_nil) ⟨by rfl, by rfl, rfl, by rfl⟩) (pa_cons (pv 3) pa_nil)))))
      (pss_one (ps_ret (pe_lc (own := [("value", 4)]) (g := gName 4) (tt := tYes) rfl sc_parts_by.nd (pi_list (pe_callB (call_sortedDI rfl) (by rfl) T.sorted bt_sorted (pa_cons (pv 2) pa_nil))) (blkOk_by (N := n_parts_by) (sc := defScope s_parts_by) (by decide +kernel))
        (fun _ _ _ _ _ => pg_name (i := 4) sc_parts_by.nd rfl (.inl rfl)) (fun _ _ _ _ _ => pts_nil)
        (fun _ _ _ _ _ => pe_tupP (pa_cons (pv 4) (pa_cons (pe_callTy (tupQ K) (by rfl) T.tuple bt_tuple (pa_cons (pe_dget (hu_of hr) (pv 2) (pv 4) (fun _ _ => rfl)) pa_nil)) pa_nil))))))), ?_⟩
    refine fun d hd => ?_
    have k0 : Kp Nil H (upd H d (.dK [])) := Kp.new Kp.refl hd
    refine ⟨_, rfl, a, rfl, ⟨xs, (hp.keep k0).sqt⟩, for_it (walk_tup (xs := xs)) (fun i σ H1 => (∃ y3, σ = [some (.ref a), some (.str c), some (.ref d), y3, none]) ∧ Kp Nil H H1 ∧ ∃ es, Parts H H1 d (F.take i) c es)
      ⟨⟨none, rfl⟩, k0, [], Parts.start hd⟩ (fun _ _ _ _ h => (hp.keep h.2.1).sqt) (fun i x σ H1 H1' hi hP y => ?_) fun σ H1 hP => ?_⟩
    · obtain ⟨rfl, hx⟩ := y
      obtain ⟨⟨y3, rfl⟩, k1, es, hPa⟩ := hP
      obtain ⟨l, hl1, tv⟩ := hT.at hx
      have hlF := List.mem_of_getElem? hl1
      have tv1 := tv.keep k1
      obtain ⟨al, ps, rfl, hpl, hTl⟩ := tv1.tuple
      obtain ⟨gv, hgv⟩ := Option.isSome_iff_exists.mp (get_isSome.mpr (hc l hlF))
      refine ⟨_, rfl, d, rfl, .inl ⟨_, .inl hPa.at_⟩, ?_⟩
      refine ⟨_, rfl, al, ps, l, rfl, hpl, hTl, fun dd nd => ?_⟩
      have kd : Kp Nil H1' (upd H1' dd (.dK (dictL l))) := Kp.new Kp.refl nd
      have hg : DGet (upd H1' dd (.dK (dictL l))) dd (.str c) (some (.int gv)) := by
        have := DGet.k (k := Sum.inr c) (H := upd H1' dd (.dK (dictL l))) upd_same
        rw [valV_dictL (hF.nd l hlF), hgv] at this
        exact this
      refine ⟨_, rfl, dd, _, rfl, hg, Nat.zero_le _, fun p0 n0 => ?_⟩
      have k01 := k1.trans kd
      obtain ⟨kvs, k, e1, e2, e3, e4, e5⟩ := Parts.turn (hPa.keep0 kd) hd k01 hgv (tv1.keep kd) (by rw [List.length_take]; omega) n0 (Q := fun H' => ∃ es', Kp Nil H H' ∧ Parts H H' d (F.take (i + 1)) c es') (fun H' es' k' hP' => ⟨es', k', by rw [take_snoc hl1]; exact hP'⟩)
      refine ⟨kvs, k, e1, e2, e3, fun z hz => ?_, fun hz => ?_⟩
      · obtain ⟨p, ys, rfl, ep, el, es', k', hP'⟩ := e4 z hz
        exact ⟨.inl ⟨rfl, _, SqL.of ep⟩, _, rfl, p, ys, _, rfl, rfl, ep, el, ⟨_, rfl⟩, k', es', hP'⟩
      · obtain ⟨ys, ep, el, es', k', hP'⟩ := e5 hz
        exact ⟨.inl ⟨rfl, _, SqL.of ep⟩, _, rfl, p0, ys, _, rfl, rfl, ep, el, ⟨_, rfl⟩, k', es', hP'⟩
    · obtain ⟨⟨y3, rfl⟩, k1, es, hPa⟩ := hP
      rw [hl, List.take_length] at hPa
      have hel := hPa.length
      refine ⟨_, rfl, d, kvP es, es.map (·.1), rfl, .inl hPa.at_, by unfold kvP; rw [List.map_map, List.map_map]; rfl, by rw [List.length_map]; omega, fun ys p perm pw np => ?_⟩
      have hys : ys.length ≤ F.length := by rw [perm.length_eq, List.length_map]; exact hel
      have k2 := k1.trans (Kp.new (o := .lst (ys.map V.int)) Kp.refl np)
      have hPb := hPa.keep0 (Kp.new (o := .lst (ys.map V.int)) Kp.refl np)
      refine ⟨p, rfl, ⟨_, SqL.of upd_same⟩, fun D1 n1 => ?_⟩
      refine lc_acc (walk_list (xs := ys.map V.int)) n1 (S := Nil) (fun z => z) (by rw [List.length_map]; omega) (fun i H zs => TvAll H zs ((ys.take i).map (encVP F c))) .nil (fun _ _ _ _ e t => TvAll.atD e t) (fun _ k => SqL.of (k.keep _ _ upd_same fun z => z)) (fun i x H2 H2' zs hi k3 e3 a3 y Kt Kf ht hf => ?_) fun H2 zs k3 e3 a3 => ?_
      · obtain ⟨rfl, hx⟩ := y
        obtain ⟨v, hv', rfl⟩ : ∃ v, ys[i]? = some v ∧ x = .int v := by
          rw [List.getElem?_map] at hx
          cases e3 : ys[i]? with
          | none => rw [e3] at hx; cases hx
          | some c => rw [e3] at hx; exact ⟨c, rfl, (Option.some.inj hx).symm⟩
        have hPc := hPb.keep0 k3
        obtain ⟨⟨v', q'⟩, he, ev⟩ := List.mem_map.mp (perm.mem_iff.mp (List.mem_of_getElem? hv'))
        have ev : v' = v := ev
        subst ev
        obtain ⟨_, ws, ew, tw⟩ := hPc.lists _ he
        have hg : DGet H2' d (.int v') (some (.ref q')) := by
          have := DGet.k (k := Sum.inl v') hPc.at_
          rw [kvP_some hPc.nk he] at this
          exact this
        refine ⟨rfl, yes_go ⟨_, rfl, _, rfl, _, rfl, d, _, rfl, hg, q', ws, rfl, SqL.of ew, fun l o nl hc' hd' => ⟨by show 2 ≤ sizeLine; rw [sizeLine_eq]; decide, fun p2 o2 n2 hc2 hd2 => ?_⟩⟩⟩
        have kl : Kp Nil H2' (upd H2' l (.frz o (.tup ws))) := Kp.new Kp.refl nl
        have kl2 : Kp Nil H2' (upd (upd H2' l (.frz o (.tup ws))) p2 (.frz o2 (.tup [.int v', .ref l]))) := Kp.new kl n2
        refine ht _ _ kl2 ?_
        rw [take_snoc hv', List.map_append]
        refine (a3.keep kl2).snoc (.tup (Pt.new hc2 hd2) (.cons (.int _) (.cons ?_ .nil)))
        exact Tv.keep (Kp.new (S := Nil) Kp.refl n2) (.tup (Pt.new hc' hd') (tw.keep kl))
      · rw [List.length_map, List.take_length] at a3
        refine q D1 zs H2 ys (k2.trans k3) (k2.fresh n1) e3 a3 ⟨perm.nodup_iff.mpr hPa.nk, fun v => by rw [perm.mem_iff]; exact hPa.mem v⟩ hys
end
end Ro

/-! RoGroups: splitting_cells, blocks, stuck_block, single_group, check_reader, check_logs, factorial. -/
namespace Ro
open PySem PySem.Spec PyProof.Rows L2

/-! ### len(set(list of ints)) -/
theorem firstMet_nd (val : Nat → Int) : ∀ i, (PyProof.Rows.firstMet val i).Nodup
  | 0 => by rw [PyProof.Rows.firstMet_zero]; exact List.nodup_nil
  | i + 1 => by
    have ih := firstMet_nd val i
    rw [PyProof.Rows.firstMet_succ]
    unfold PyProof.Rows.step_dedup
    split
    · exact ih
    · rename_i h
      refine nd_snoc ih fun z => h ?_
      exact List.any_eq_true.mpr ⟨_, z, beq_self_eq_true _⟩
theorem mem_firstMet {ns : List Int} {k : Int} : k ∈ PyProof.Rows.firstMet (fun i => ns.getD i 0) ns.length ↔ k ∈ ns := by
  have h := PyProof.Rows.firstMet_any (fun i => ns.getD i 0) ns.length k
  have e : (List.range ns.length).map (fun i => ns.getD i 0) = ns := by
    apply List.ext_getElem?
    intro i
    rw [List.getElem?_map]
    by_cases hi : i < ns.length
    · rw [List.getElem?_range hi, List.getElem?_eq_getElem hi]
      simp [List.getD_eq_getElem?_getD, List.getElem?_eq_getElem hi]
    · rw [List.getElem?_eq_none (by simpa using hi), List.getElem?_eq_none (by simpa using hi)]; rfl
  rw [e] at h
  have q : ∀ l : List Int, (l.any (· == k)) = true ↔ k ∈ l := fun l => by
    rw [List.any_eq_true]
    exact ⟨fun ⟨x, hx, ex⟩ => (beq_iff_eq.mp ex) ▸ hx, fun z => ⟨k, z, beq_self_eq_true k⟩⟩
  rw [← q, ← q, h]
theorem two_of {ns ms : List Int} (hn : ms.Nodup) (hm : ∀ k, k ∈ ms ↔ k ∈ ns) : 1 < ms.length ↔ ∃ x ∈ ns, ∃ y ∈ ns, x ≠ y := by
  constructor
  · intro h
    match ms, hn, h, hm with
    | x :: y :: r, hn, _, hm =>
      refine ⟨x, (hm x).mp (by simp), y, (hm y).mp (by simp), fun e => ?_⟩
      exact (List.nodup_cons.mp hn).1 (by rw [e]; simp)
  · rintro ⟨x, hx, y, hy, ne⟩
    match ms, hm with
    | [], hm => exact absurd ((hm x).mpr hx) (by simp)
    | [z], hm =>
      have a := (hm x).mpr hx
      have b := (hm y).mpr hy
      simp at a b
      exact absurd (a.trans b.symm) ne
    | _ :: _ :: _, _ => simp
def tLenSet (K : PySem.W.Frag) (ta : TE) : TE := fun σ H Q => ta σ H fun x H1 => ∃ (l : Addr) (ns : List Int), x = .ref l ∧ SqL K H1 l (ns.map V.int) ∧ ns.length ≤ 4000 ∧ ∀ m : Nat, (1 < m ↔ ∃ x ∈ ns, ∃ y ∈ ns, x ≠ y) → Q (.int m) H1
theorem pe_lenSet {X : Cx} {a : Expr} {ta : TE} {p p2 q pos : Pos} (K : PySem.W.Frag) (hg : Gl X "len") (hm : X.mg "len" = none) (hg2 : Gl X "set") (hm2 : X.mg "set" = none) (ha : PE X a ta) (hc : X.calm = true := by rfl) (hK : X.K = K := by rfl)
    (na : starEach [a] X.env = (false, eval a X.env) :: starEach [] X.env := by rfl) : PE X (.Call (.Name "len" p) [.Call (.Name "set" p2) [a] [] q] [] pos) (tLenSet K ta) := by
  subst hK
  refine ⟨fun pins s σ H Q I h => ?_⟩
  refine Call_ (ld_blt I hg hm bt_len ?_)
  refine PyProof.Rows.callWith_builtin1 (PyProof.Rows.args_cons ?_ rfl) rfl rfl
  refine Call_ (ld_blt I hg2 hm2 bt_set ?_)
  refine PyProof.Rows.callWith_type1 (PyProof.Rows.args_cons (thn (ha.run pins s σ H _ I h) fun v s1 ⟨x, H1, I1, r1, q1⟩ => PyProof.Rows.args_nil ?_) na) na rfl
  obtain ⟨l, ns, rfl, hq, hl, q1⟩ := q1
  cases r1
  obtain ⟨its, r, pl, _⟩ := I1.list hq
  have hlen : its.toArray.size = ns.length := by rw [List.size_toArray, ← r.length, List.length_map]
  refine call_set_list (I1.ok.hd hc) pl.isList (by simpa using RZ.intsAre_vals r) (by rw [hlen]; unfold scanBound; omega) fun h' tk hS hk => ?_
  refine PyProof.Rows.args_nil ?_
  rw [hlen] at hS
  obtain ⟨o, es, ep, t, ho, hex, hd, _, _, _, hf, hn⟩ := hS
  have I2 : Inv X pins σ H1 { s1 with heap := h', toks := tk } := I1.kept fun b o e => hk b o (Heap.lt_size e) e
  have hle := PyProof.Rows.firstMet_length_le (fun i => ns.getD i 0) ns.length
  exact call_len_set ho hex hd hf (by rw [hn]; omega) ⟨.int _, H1, I2.tok _, ⟨_, rfl⟩, q1 _ (by rw [hn]; exact two_of (firstMet_nd _ _) fun k => mem_firstMet)⟩

/-! ### splitting_cells -/
def splitB (F : Fm) (c : Str) : Bool := F.any fun l => F.any fun m => decide (get l c ≠ get m c)
theorem splitB_iff {F : Fm} {c : Str} : splitB F c = true ↔ ∃ l ∈ F, ∃ m ∈ F, get l c ≠ get m c := by
  unfold splitB
  simp [List.any_eq_true]
def splitsOf (F : Fm) : List Str := (shared F).filter (splitB F)
theorem strs_at {xs : List Str} {i : Nat} {x : V} (h : (xs.map V.str)[i]? = some x) : ∃ c, xs[i]? = some c ∧ x = .str c := by
  rw [List.getElem?_map] at h
  cases e3 : xs[i]? with
  | none => rw [e3] at h; cases h
  | some c => rw [e3] at h; exact ⟨c, rfl, (Option.some.inj h).symm⟩
theorem ints_at {xs : List Int} {i : Nat} {x : V} (h : (xs.map V.int)[i]? = some x) : ∃ c, xs[i]? = some c ∧ x = .int c := by
  rw [List.getElem?_map] at h
  cases e3 : xs[i]? with
  | none => rw [e3] at h; cases h
  | some c => rw [e3] at h; exact ⟨c, rfl, (Option.some.inj h).symm⟩
theorem Tv.strs {H : Hp} {v : V} {xs : List Str} (h : Tv H v (.tuple (xs.map PyData.str))) : ∃ a, v = .ref a ∧ Pt H a (xs.map V.str) := by
  obtain ⟨a, ys, rfl, hp, hT⟩ := h.inv
  rw [TvAll.inv_strs hT] at hp
  exact ⟨a, rfl, hp⟩
theorem DGet.str {H : Hp} {d : Addr} {l : Lg} {c : Str} {v : Int} (e : H d = some (.dK (dictL l))) (hn : (cells l).Nodup) (hg : get l c = some v) : DGet H d (.str c) (some (.int v)) := by
  have := DGet.k (k := Sum.inr c) e
  rw [valV_dictL hn, hg] at this
  exact this
section
variable {P : Program} {w : World} {K : PySem.W.Frag} {mg : Str → Option Value} {base : Heap}
def spSplitting : Sp := fun vs H Q _ => ∃ v F, vs = [v] ∧ Tv H v (encF F) ∧ FmOk F ∧ RD H Q (.tuple ((splitsOf F).map .str))
theorem ok_splitting_cells (D : Df K mg "splitting_cells" s_splitting_cells p_splitting_cells) (T : Bu mg) (os : Ok P w K mg base 1 "shared_cells" p_shared_cells spShared) :
    Ok P w K mg base 2 "splitting_cells" p_splitting_cells spSplitting := by
  refine D.ok sc_splitting_cells (fun vs H Q E h => ?_) fun f cdv A outer s H vs Q E hr h => ?_
  · obtain ⟨v, F, rfl, _⟩ := h
    rfl
  · obtain ⟨v, F, rfl, hv, hF, q⟩ := h
    obtain ⟨a, xs, rfl, hp, hT⟩ := hv.tuple
    have hl : xs.length = F.length := hT.len
    have hle := hF.le
    have hsl := shared_len hF
    refine ⟨_, pss_cons (ps_set (i := 1) sc_splitting_cells.nd rfl (Or.inr rfl)
        (pe_lc (own := [("log", 2)]) (g := gName 2) (tt := tYes) rfl sc_splitting_cells.nd (pi_tup (pv 0)) (blkOk_by (N := n_splitting_cells) (sc := defScope s_splitting_cells) (by decide +kernel)) (fun _ _ _ _ _ => pg_name (i := 2) sc_splitting_cells.nd rfl (Or.inl rfl)) (fun _ _ _ _ _ => pts_nil)
          (fun _ _ _ _ _ => pe_callTy (call_dictT rfl) (by rfl) T.dict bt_dict (pa_cons (pv 2) pa_nil))))
      (pss_one (ps_ret (pe_callTy (tupQ K) (by rfl) T.tuple bt_tuple (pa_cons
        (pe_lc (own := [("cell", 3)]) (g := gName 3) rfl sc_splitting_cells.nd (pi_tup (pe_cl os hr (pa_cons (pv 0) pa_nil))) (blkOk_by (N := n_splitting_cells) (sc := defScope s_splitting_cells) (by decide +kernel))
          (fun _ _ _ _ _ => pg_name (i := 3) sc_splitting_cells.nd rfl (.inr rfl))
          (fun _ _ _ _ _ => pts_one (pt_cmpR op_gt (pe_lenSet K (by rfl) T.len (by rfl) T.set
            (pe_lc (own := [("one", 4)]) (g := gName 4) (tt := tYes) (wi := iList K (tVar 1)) rfl sc_splitting_cells.nd (pi_list (pv 1)) (blk_in (N := n_splitting_cells) (sc := defScope s_splitting_cells) rfl rfl (by decide +kernel)) (fun _ _ _ _ _ => pg_name (i := 4) sc_splitting_cells.nd rfl (Or.inl rfl)) (fun _ _ _ _ _ => pts_nil)
              (fun _ _ _ _ _ => pe_dget (hu_of hr) (pv 4) (pv 3) (fun _ _ => rfl)))) pe_int (nomark _)))
          (fun _ _ _ _ _ => pv 3)) pa_nil)))), ?_⟩
    refine ⟨_, rfl, a, rfl, ⟨xs, hp.sqt⟩, fun D1 n1 => ?_⟩
    refine lc_acc (walk_tup (xs := xs)) n1 (S := Nil) (fun z => z) (by omega) (fun i H ys => Dicts H ys (F.take i)) .nil (fun _ _ _ _ e d => d.atD e) (fun _ k => (hp.keep k).sqt) (fun i x H2 H2' ys hi k2 e2 a2 y Kt Kf ht hf => ?_) fun H2 ys k2 e2 a2 => ?_
    · obtain ⟨rfl, hx⟩ := y
      obtain ⟨l, hl1, tv⟩ := hT.at hx
      obtain ⟨al, ps, rfl, hpl, hTl⟩ := (tv.keep k2).tuple
      refine ⟨rfl, yes_go ⟨_, rfl, al, ps, l, rfl, hpl, hTl, fun d nd => ht _ _ (Kp.new Kp.refl nd) ?_⟩⟩
      rw [take_snoc hl1]
      exact (a2.keep (Kp.new (S := Nil) Kp.refl nd) fun _ _ z => z).snoc upd_same
    · rw [hl, List.take_length] at a2
      refine ⟨_, rfl, _, F, rfl, hv.keep k2, hF, fun v1 H1 k1 t1 => ?_⟩
      obtain ⟨b, rfl, hb⟩ := t1.strs
      have k02 := k2.trans k1
      have e1 : H1 D1 = some (.lst ys) := k1.keep _ _ e2 fun z => z
      have a1 : Dicts H1 ys F := a2.keep k1 fun _ _ z => z
      refine ⟨b, rfl, ⟨_, hb.sqt⟩, fun D2 n2 => ?_⟩
      refine lc_acc (walk_tup (xs := (shared F).map V.str)) n2 (S := Nil) (fun z => z) (by rw [List.length_map]; omega) (fun i H zs => zs = (((shared F).take i).filter (splitB F)).map V.str) rfl (fun _ _ _ _ _ e => e) (fun _ k => (hb.keep k).sqt) (fun i x H3 H3' zs hi k3 e3 a3 y Kt Kf ht hf => ?_) fun H3 zs k3 e3 a3 => ?_
      · obtain ⟨rfl, hx⟩ := y
        obtain ⟨c, hc, rfl⟩ := strs_at hx
        have st := filter_snoc (p := splitB F) hc
        have hcs : ∀ l ∈ F, c ∈ cells l := mem_shared' (List.mem_of_getElem? hc)
        have e13 : H3' D1 = some (.lst ys) := k3.keep _ _ e1 fun z => z
        have a13 : Dicts H3' ys F := a1.keep k3 fun _ _ z => z
        refine ⟨rfl, _, rfl, D1, rfl, ⟨ys, SqL.of e13⟩, fun D3 n3 => ?_⟩
        refine lc_acc (walk_list (xs := ys)) n3 (S := Nil) (fun z => z) (by rw [a13.length]; omega) (fun i H ws => ws = ((F.take i).map fun l => (get l c).getD 0).map V.int) rfl (fun _ _ _ _ _ e => e) (fun _ k => SqL.of (k.keep _ _ e13 fun z => z)) (fun j x H4 H4' ws hj k4 e4 a4 y Lt Lf gt gf => ?_) fun H4 ws k4 e4 a4 => ?_
        · obtain ⟨rfl, hx⟩ := y
          obtain ⟨d, l, rfl, hrl, hd⟩ := a13.get hx
          have hd4 := k4.keep _ _ hd fun z => z
          obtain ⟨gv, hgv⟩ := Option.isSome_iff_exists.mp (get_isSome.mpr (hcs l (List.mem_of_getElem? hrl)))
          refine ⟨rfl, yes_go ⟨_, rfl, _, rfl, d, _, rfl, DGet.str hd4 (hF.nd l (List.mem_of_getElem? hrl)) hgv, ?_⟩⟩
          exact gt _ _ Kp.refl (by rw [a4, take_snoc hrl]; simp [hgv])
        · have ez : ws = (F.map fun l => (get l c).getD 0).map V.int := by rw [a4, a13.length, List.take_length]
          rw [ez] at e4
          refine ⟨D3, _, rfl, SqL.of e4, by rw [List.length_map]; omega, fun m hm => ⟨m, 1, rfl, rfl, _, rfl, ?_⟩⟩
          have ed : decide ((m : Int) > 1) = splitB F c := by
            rw [Bool.eq_iff_iff, decide_eq_true_eq, splitB_iff]
            constructor
            · intro h
              obtain ⟨x, hx, y, hy, ne⟩ := hm.mp (by omega)
              obtain ⟨l, hl, rfl⟩ := List.mem_map.mp hx
              obtain ⟨l', hl', rfl⟩ := List.mem_map.mp hy
              exact ⟨l, hl, l', hl', fun e => ne (by rw [e])⟩
            · rintro ⟨l, hl, l', hl', ne⟩
              have : 1 < m := hm.mpr ⟨_, List.mem_map.mpr ⟨l, hl, rfl⟩, _, List.mem_map.mpr ⟨l', hl', rfl⟩, fun e => ne ?_⟩
              · omega
              · obtain ⟨u, hu⟩ := Option.isSome_iff_exists.mp (get_isSome.mpr (hcs l hl))
                obtain ⟨u', hu'⟩ := Option.isSome_iff_exists.mp (get_isSome.mpr (hcs l' hl'))
                rw [hu, hu'] at e ⊢
                exact congrArg some e
          rw [ed]
          refine ite2 (fun hb => ?_) (fun hb => ?_)
          · refine ⟨_, rfl, ht _ _ k4 ?_⟩
            rw [a3, st, if_pos hb, List.map_append]; rfl
          · refine hf _ k4 ?_
            rw [a3, st, if_neg hb, List.append_nil]
      · rw [List.length_map, List.take_length] at a3
        refine ⟨D2, _, rfl, SqL.of e3, fun r o nr hc hd => q _ _ ((k02.trans k3).trans (Kp.new Kp.refl nr)) (.tup (Pt.new hc hd) ?_)⟩
        rw [a3]
        exact TvAll.strs _
end
end Ro

/-! RoBlocks: blocks, stuck_block, single_group, check_reader, check_logs. -/
namespace Ro
open PySem PySem.Spec PyProof.Rows L2

/-! ### plain -/
theorem sum_one (f : Int → Nat) (v0 : Int) : ∀ vs : List Int, vs.Nodup → v0 ∈ vs → (vs.map fun v => if v0 = v then f v + 1 else f v).sum = (vs.map f).sum + 1
  | [], _, h => by cases h
  | v :: r, hn, h => by
    have hn' := List.nodup_cons.mp hn
    rw [List.map_cons, List.map_cons, List.sum_cons, List.sum_cons]
    by_cases e : v0 = v
    · have : r.map (fun v => if v0 = v then f v + 1 else f v) = r.map f := map_congr_mem fun x hx => if_neg fun z => hn'.1 (by rw [← e, z]; exact hx)
      rw [if_pos e, this]; omega
    · have hm : v0 ∈ r := (List.mem_cons.mp h).resolve_left e
      rw [if_neg e, sum_one f v0 r hn'.2 hm]; omega
theorem parts_sum {c : Str} {vs : List Int} (hn : vs.Nodup) : ∀ F : Fm, (∀ l ∈ F, ∃ v ∈ vs, get l c = some v) → (vs.map fun v => (part F c v).length).sum = F.length
  | [], _ => by
    have : (vs.map fun v => (part ([] : Fm) c v).length) = vs.map fun _ => 0 := rfl
    rw [this, sum_const fun _ _ => rfl]; simp
  | l :: F, h => by
    obtain ⟨v0, hv0, e0⟩ := h l List.mem_cons_self
    have ih := parts_sum hn F fun m hm => h m (List.mem_cons_of_mem _ hm)
    have : (vs.map fun v => (part (l :: F) c v).length) = vs.map fun v => if v0 = v then (part F c v).length + 1 else (part F c v).length := map_congr_mem fun v _ => by
      unfold part
      by_cases e : v0 = v
      · rw [if_pos e, List.filter_cons_of_pos (by rw [e0, e]; simp)]; rfl
      · rw [if_neg e, List.filter_cons_of_neg (by rw [e0]; simpa using e)]
    rw [this, sum_one _ _ _ hn hv0, ih]; rfl
theorem IsVals.sum {F : Fm} {c : Str} {vs : List Int} (iv : IsVals F c vs) (h : ∀ l ∈ F, c ∈ cells l) : ((vs.map (part F c)).map List.length).sum = F.length := by
  have := parts_sum iv.1 F fun l hl => by
    obtain ⟨v, e⟩ := Option.isSome_iff_exists.mp (get_isSome.mpr (h l hl))
    exact ⟨v, (iv.2 v).mpr ⟨l, hl, e⟩, e⟩
  rw [List.map_map]; exact this
def tot (W : List Fm) : Nat := (W.map List.length).sum
def wt (W : List Fm) : Nat := (W.map fun g => 2 * g.length - 1).sum
theorem wt_tot : ∀ {W : List Fm}, (∀ g ∈ W, g ≠ []) → wt W + W.length = 2 * tot W
  | [], _ => rfl
  | g :: W, h => by
    have ih := wt_tot fun x hx => h x (List.mem_cons_of_mem _ hx)
    have : 1 ≤ g.length := List.length_pos_iff.mpr (h g List.mem_cons_self)
    unfold wt tot at ih ⊢
    rw [List.map_cons, List.map_cons, List.sum_cons, List.sum_cons, List.length_cons]
    omega
theorem wt_app (W V : List Fm) : wt (W ++ V) = wt W + wt V := by unfold wt; rw [List.map_append, List.sum_append]
theorem tot_app (W V : List Fm) : tot (W ++ V) = tot W + tot V := by unfold tot; rw [List.map_append, List.sum_append]
theorem tot_one (g : Fm) : tot [g] = g.length := by simp [tot]
theorem wt_one (g : Fm) : wt [g] = 2 * g.length - 1 := by simp [wt]
theorem len_tot : ∀ {W : List Fm}, (∀ g ∈ W, g ≠ []) → W.length ≤ tot W
  | [], _ => Nat.zero_le _
  | g :: W, h => by
    have ih := len_tot fun x hx => h x (List.mem_cons_of_mem _ hx)
    have : 1 ≤ g.length := List.length_pos_iff.mpr (h g List.mem_cons_self)
    unfold tot at ih ⊢
    rw [List.map_cons, List.sum_cons, List.length_cons]
    omega
structure GOk (g : Fm) : Prop where
  fm : FmOk g
  good : Good g
theorem GOk.part {g : Fm} (h : GOk g) {c : Str} {v : Int} {vs : List Int} (iv : IsVals g c vs) (hv : v ∈ vs) : GOk (part g c v) := by
  refine ⟨h.fm.filter _ ?_, h.good.part c v⟩
  obtain ⟨l, hl, e⟩ := (iv.2 v).mp hv
  exact List.ne_nil_of_mem (mem_part.mpr ⟨hl, e⟩)
theorem GOk.one {g : Fm} (h : GOk g) (e : splitsOf g = []) : g.length ≤ 1 := by
  refine Nat.le_of_not_lt fun h2 => ?_
  obtain ⟨c, hc, x⟩ := h.good.splits h2
  have : c ∈ splitsOf g := List.mem_filter.mpr ⟨(mem_shared h.fm.ne).mpr hc, splitB_iff.mpr x⟩
  rw [e] at this; cases this
theorem splits_vals {g : Fm} {c : Str} {vs : List Int} (iv : IsVals g c vs) (hc : ∀ l ∈ g, c ∈ cells l) (h : splitB g c = true) : 2 ≤ vs.length := by
  obtain ⟨l, hl, m, hm, ne⟩ := splitB_iff.mp h
  obtain ⟨u, hu⟩ := Option.isSome_iff_exists.mp (get_isSome.mpr (hc l hl))
  obtain ⟨u', hu'⟩ := Option.isSome_iff_exists.mp (get_isSome.mpr (hc m hm))
  have a := (iv.2 u).mpr ⟨l, hl, hu⟩
  have b := (iv.2 u').mpr ⟨m, hm, hu'⟩
  have : u ≠ u' := fun e => ne (by rw [hu, hu', e])
  match vs, a, b with
  | [z], a, b => simp at a b; exact absurd (a.trans b.symm) this
  | _ :: _ :: _, _, _ => simp
theorem shaped_strs {g : Fm} (h : FmOk g) {xs : List Str} (hx : ∀ c ∈ xs, c ∈ shared g) : SeqAt.shaped (.tuple (xs.map .str)) = true := by
  refine shaped_of ?_ ?_
  · rw [PyData.canLay0]
    refine lay_all fun c hc => ?_
    obtain ⟨l, r, e⟩ := List.exists_cons_of_ne_nil h.ne
    have hl : l ∈ g := by rw [e]; exact List.mem_cons_self
    obtain ⟨p, hp, rfl⟩ := List.mem_map.mp (mem_shared' (hx c hc) l hl)
    rw [PyData.canLay0]
    exact strOk_cell ((h.wf l hl).2.2 p hp).1
  · rw [PyData.depth]
    have := depth_all (enc := PyData.str) (k := 0) (l := xs) fun c _ => by simp [PyData.depth]
    omega
theorem shaped_groups {W : List Fm} (h : ∀ g ∈ W, FmOk g) : SeqAt.shaped (.list (W.map encF)) = true := by
  refine shaped_of ?_ ?_
  · rw [PyData.canLay0]
    exact lay_all fun g hg => lay_F fun l hl => ((h g hg).wf l hl).2.2
  · rw [PyData.depth]
    have := depth_all (enc := encF) (k := 3) (l := W) fun g _ => depth_F g
    omega
theorem eqv_list_nil : PyData.eqv (.list []) (.list []) = true := by simp [PyData.eqv, PyData.eqvAll]
theorem eqv_list_cons (x : PyData) (xs : List PyData) : PyData.eqv (.list (x :: xs)) (.list []) = false := by simp [PyData.eqv, PyData.eqvAll]
theorem shaped_lnil : SeqAt.shaped (.list []) = true := by decide
theorem dropLast_last {β : Type} {l : List β} (h : l ≠ []) : ∃ r x, l = r ++ [x] := ⟨l.dropLast, l.getLast h, (List.dropLast_concat_getLast h).symm⟩

section
variable {P : Program} {w : World} {K : PySem.W.Frag} {mg : Str → Option Value} {base : Heap}
/-- all the blocks of a good family are of one log -/
def spBlocks : Sp := fun vs H Q _ => ∃ v F, vs = [v] ∧ Tv H v (encF F) ∧ GOk F ∧ ∀ (u : V) (H' : Hp) (G : List Fm), Kp Nil H H' → Tv H' u (.tuple (G.map encF)) → (∀ g ∈ G, g.length ≤ 1) → G.length ≤ 60 → Q u H'
structure Blk (H0 H : Hp) (fo wo : Addr) (W G : List Fm) : Prop where
  kp : Kp Nil H0 H
  fnd : ∃ ys, H fo = some (.lst ys) ∧ TvAll H ys (G.map encF)
  wai : ∃ ys, H wo = some (.lst ys) ∧ TvAll H ys (W.map encF)
  wok : ∀ g ∈ W, GOk g
  gok : ∀ g ∈ G, FmOk g ∧ g.length ≤ 1
  len : tot W + G.length ≤ 60
theorem ok_blocks (D : Df K mg "blocks" s_blocks p_blocks) (T : Bu mg) (os : Ok P w K mg base 2 "splitting_cells" p_splitting_cells spSplitting) (op : Ok P w K mg base 1 "parts_by" p_parts_by spPartsBy) :
    Ok P w K mg base 3 "blocks" p_blocks spBlocks := by
  refine D.ok sc_blocks (fun vs H Q E h => ?_) fun f cdv A outer s H vs Q E hr h => ?_
  · obtain ⟨v, F, rfl, _⟩ := h
    rfl
  · obtain ⟨v, F, rfl, hv, hF, q⟩ := h
    have hu := hr.units
    obtain ⟨a, xs, rfl, hp, hT⟩ := hv.tuple
    have hl : xs.length = F.length := hT.len
    have hle := hF.fm.le
    have hpos : 1 ≤ F.length := List.length_pos_iff.mpr hF.fm.ne
    refine ⟨_, pss_cons (ps_par (i := 1) (j := 2) rfl sc_blocks.nd rfl rfl (by decide) rfl rfl (pa_cons (pe_lst pa_nil) (pa_cons (pe_lst pa_nil) pa_nil)) (by rfl))
      (pss_cons (ps_if (pt_cmpR op_gt (pe_callB (lenQ K) (by rfl) T.len bt_len (pa_cons (pv 0) pa_nil)) pe_int (nomark _))
        (pss_one (ps_expr (pe_bm PySem.F.plainAttrs_list PySem.F.slot_list_append PySem.F.type_list_append mt_append (pv 2) (pa_cons (pv 0) pa_nil)))) pss_nil)
      (pss_cons (ps_while PassesOwn.never (pt_cmpR (op_neD hu) (pv 2) (pe_lst pa_nil) (nomark _))
        (pss_cons (ps_set (i := 3) sc_blocks.nd rfl (.inl rfl) (pe_bm0 PySem.F.plainAttrs_list PySem.F.slot_list_pop PySem.F.type_list_pop mt_pop (pv 2)))
        (pss_cons (ps_set (i := 4) sc_blocks.nd rfl (.inl rfl) (pe_cl os (hr.mono (by decide)) (pa_cons (pv 3) pa_nil)))
        (pss_one (ps_if (pt_cmpR (op_eqD hu) (pv 4) (pe_tupP pa_nil) (nomark _))
          (pss_one (ps_expr (pe_bm PySem.F.plainAttrs_list PySem.F.slot_list_append PySem.F.type_list_append mt_append (pv 1) (pa_cons (pv 3) pa_nil))))
          (pss_one (ps_expr (pe_bm PySem.F.plainAttrs_list PySem.F.slot_list_extend PySem.F.type_list_extend mt_extend (pv 2) (pa_cons
            (pe_lc (own := [("value", 5), ("part", 6)]) (g := gTup K 2 (gCons (gName 5) (gCons (gName 6) gNil))) (tt := tYes) rfl sc_blocks.nd (pi_list (pe_cl op (hr.mono (by decide)) (pa_cons (pv 3) (pa_cons (pe_ix (ixT K) (pv 4) pe_int (fun _ _ => rfl)) pa_nil)))) (blkOk_by (N := n_blocks) (sc := defScope s_blocks) (by decide +kernel))
              (fun _ _ _ _ _ => pg_tup rfl (pgs_cons (pg_name (i := 5) sc_blocks.nd rfl (.inl rfl)) (pgs_cons (pg_name (i := 6) sc_blocks.nd rfl (.inl rfl)) pgs_nil))) (fun _ _ _ _ _ => pts_nil)
              (fun _ _ _ _ _ => pv 6)) pa_nil)))))))))
      (pss_one (ps_ret (pe_callTy (tupQ K) (by rfl) T.tuple bt_tuple (pa_cons (pe_callB (sortQ K hu) (by rfl) T.sorted bt_sorted (pa_cons (pv 1) pa_nil)) pa_nil)))))), ?_⟩
    refine ⟨Nat.zero_le _, fun fo nf => ⟨Nat.zero_le _, fun wo nw => ⟨_, _, rfl, ?_⟩⟩⟩
    have kf : Kp Nil H (upd H fo (.lst [])) := Kp.new Kp.refl nf
    have kw : Kp Nil H (upd (upd H fo (.lst [])) wo (.lst [])) := Kp.new kf nw
    have nwH : H wo = none := kf.fresh nw
    have fw : fo ≠ wo := fun e => by rw [← e, upd_same] at nw; cases nw
    refine ⟨_, rfl, a, xs, rfl, .inr (hp.keep kw).sqt, _, _, rfl, rfl, _, rfl, ?_⟩
    rw [decide_eq_true (show ((xs.length : Nat) : Int) > 0 by omega)]
    refine iteT ⟨_, rfl, .inl ⟨rfl, _, SqL.of upd_same⟩, _, rfl, wo, [], _, rfl, rfl, upd_same, by rw [sizeLine_eq]; decide, ?_⟩
    have kw2 : Kp Nil H (upd (upd (upd H fo (.lst [])) wo (.lst [])) wo (.lst ([] ++ [.ref a]))) := Kp.mut kw nwH
    refine ⟨fun m σ H1 => (∃ y3 y4, σ = [some (.ref a), some (.ref fo), some (.ref wo), y3, y4, none, none]) ∧ ∃ W G, Blk H H1 fo wo W G ∧ m = wt W, ⟨_, ⟨none, none, rfl⟩, [F], [], ⟨kw2, ⟨[], by rw [upd_ne fw, upd_ne fw]; exact upd_same, .nil⟩, ⟨_, upd_same, .cons (.tup (hp.keep kw2) (hT.keep kw2)) .nil⟩, fun g hg => by rw [List.mem_singleton.mp hg]; exact hF, fun g hg => (by cases hg), by rw [tot_one]; exact hle⟩, rfl⟩, ?_⟩
    rintro m σ H1 ⟨⟨y3, y4, rfl⟩, W, G, B, rfl⟩
    obtain ⟨ws, ew, tw⟩ := B.wai
    obtain ⟨fs, ef, tf⟩ := B.fnd
    have lw : ws.length = W.length := tw.len
    have lf : fs.length = G.length := tf.len
    have hWne : ∀ g ∈ W, g ≠ [] := fun g hg => (B.wok g hg).fm.ne
    have hlt := len_tot hWne
    have hB := B.len
    refine ⟨_, rfl, Nat.zero_le _, fun b nb => ⟨.list (W.map encF), .list [], .lst (SqL.of (by rw [upd_ne (ne_of_none ew nb)]; exact ew)) (tw.keep (Kp.new (S := Nil) Kp.refl nb)).dp, .lst (SqL.of upd_same) .nil, shaped_groups fun g hg => (B.wok g hg).fm, shaped_lnil, _, rfl, ?_⟩⟩
    have kb : Kp Nil H1 (upd H1 b (.lst [])) := Kp.new Kp.refl nb
    have ew1 : (upd H1 b (.lst [])) wo = some (.lst ws) := kb.keep _ _ ew fun z => z
    have ef1 : (upd H1 b (.lst [])) fo = some (.lst fs) := kb.keep _ _ ef fun z => z
    by_cases hW : W = []
    · subst hW
      rw [show ([] : List Fm).map encF = [] from rfl, eqv_list_nil]
      refine iteF ?_
      have ok : SortOk (G.map encF) := sortOk_groups G (by rw [sizeLine_eq]; omega) fun g hg => (B.gok g hg).1.ne
      refine ⟨_, rfl, fo, fs, _, rfl, .inl (SqL.of ef1), tf.keep kb, ok, fun p zs np tz => ⟨p, zs, rfl, SqL.of upd_same, fun l o nl hc hd => ?_⟩⟩
      have kp1 : Kp Nil H1 (upd (upd H1 b (.lst [])) p (.lst zs)) := Kp.new kb np
      have kl : Kp Nil H1 (upd (upd (upd H1 b (.lst [])) p (.lst zs)) l (.frz o (.tup zs))) := Kp.new kp1 nl
      rw [sort_map] at tz
      have pm : (G.mergeSort (PySem.W.dataLe false encF)).Perm G := List.mergeSort_perm _ _
      refine q _ _ _ (B.kp.trans kl) (.tup (Pt.new hc hd) (tz.keep (Kp.new (S := Nil) (Kp.new (S := Nil) Kp.refl np) nl))) (fun g hg => (B.gok g (pm.mem_iff.mp hg)).2) (by rw [pm.length_eq]; omega)
    · obtain ⟨W', g, rfl⟩ := dropLast_last hW
      have eqf : PyData.eqv (.list ((W' ++ [g]).map encF)) (.list []) = false := by
        cases h : (W' ++ [g]).map encF with
        | nil => exact absurd (List.map_eq_nil_iff.mp h) hW
        | cons x r => exact eqv_list_cons x r
      rw [eqf]
      refine iteT ⟨fun σ' H' => ∃ m', m' < wt (W' ++ [g]) ∧ (∃ y3 y4, σ' = [some (.ref a), some (.ref fo), some (.ref wo), y3, y4, none, none]) ∧ ∃ W G, Blk H H' fo wo W G ∧ m' = wt W, fun _ _ z => z, ?_⟩
      have hg : GOk g := B.wok g (by simp)
      have hlast : ws[ws.length - 1]? = ws[W'.length]? := by rw [lw, List.length_append, List.length_singleton, Nat.add_sub_cancel]
      obtain ⟨gv, hgv, tgv⟩ := tw.at' (i := W'.length) (x := g) (by rw [List.getElem?_append_right (Nat.le_refl _)]; simp)
      refine ⟨_, rfl, .inl ⟨rfl, _, SqL.of ew1⟩, wo, ws, gv, rfl, rfl, ew1, by rw [hlast]; exact hgv, ?_⟩
      have ews : ws.dropLast = ws.take W'.length := by rw [List.dropLast_eq_take, lw, List.length_append, List.length_singleton, Nat.add_sub_cancel]
      have tw' : TvAll H1 (ws.take W'.length) (W'.map encF) := by
        have := tw.take W'.length
        rw [← List.map_take, List.take_left] at this
        exact this
      rw [ews]
      have kd : Kp (One wo) (upd H1 b (.lst [])) (upd (upd H1 b (.lst [])) wo (.lst (ws.take W'.length))) := Kp.atD ew1
      have kH : Kp Nil H (upd (upd H1 b (.lst [])) wo (.lst (ws.take W'.length))) := Kp.mut (B.kp.trans kb) nwH
      have tg1 : Tv (upd (upd H1 b (.lst [])) wo (.lst (ws.take W'.length))) gv (encF g) := (tgv.keep kb).keep kd
      refine ⟨_, rfl, gv, g, rfl, tg1, hg.fm, fun v2 H2 k2 t2 => ?_⟩
      obtain ⟨c2, rfl, hc2⟩ := t2.strs
      have ew2 : H2 wo = some (.lst (ws.take W'.length)) := k2.keep _ _ upd_same fun z => z
      have ef2 : H2 fo = some (.lst fs) := k2.keep _ _ (by rw [upd_ne fw]; exact ef1) fun z => z
      have tw2 : TvAll H2 (ws.take W'.length) (W'.map encF) := ((tw'.keep kb).keep kd).keep k2
      have tf2 : TvAll H2 fs (G.map encF) := ((tf.keep kb).keep kd).keep k2
      have tg2 : Tv H2 gv (encF g) := tg1.keep k2
      have hWl : (W' ++ [g]).length = W'.length + 1 := by rw [List.length_append, List.length_singleton]
      have hWg := wt_app W' [g]
      have hTg := tot_app W' [g]
      rw [wt_one] at hWg
      rw [tot_one] at hTg
      have hg1 : 1 ≤ g.length := List.length_pos_iff.mpr hg.fm.ne
      refine ⟨_, rfl, Nat.zero_le _, fun e o ne hc hd => ?_⟩
      have ke : Kp Nil H2 (upd H2 e (.frz o (.tup []))) := Kp.new Kp.refl ne
      refine ⟨_, .tuple [], (Tv.tup (hc2.keep ke) (TvAll.strs _)).dp, (Tv.tup (Pt.new hc hd) .nil).dp, shaped_strs hg.fm fun c hc => (List.mem_filter.mp hc).1, shaped_nil, _, rfl, ?_⟩
      have ew3 := ke.keep _ _ ew2 fun z => z
      have ef3 := ke.keep _ _ ef2 fun z => z
      cases hs : splitsOf g with
      | nil =>
        rw [show ([] : List Str).map PyData.str = [] from rfl, eqv_nil]
        have hg2 := hg.one hs
        refine iteT ⟨_, rfl, .inl ⟨rfl, _, SqL.of ef3⟩, _, rfl, fo, fs, _, rfl, rfl, ef3, by rw [sizeLine_eq]; omega, ?_⟩
        have ka := Kp.atD (zs := fs ++ [gv]) ef3
        refine ⟨_, ?_, ⟨_, _, rfl⟩, W', G ++ [g], ⟨Kp.mut ((kH.trans k2).trans ke) nf, ⟨_, upd_same, ?_⟩, ⟨_, by rw [upd_ne (Ne.symm fw)]; exact ew3, (tw2.keep ke).keep ka⟩, fun x hx => B.wok x (List.mem_append_left _ hx), fun x hx => ?_, ?_⟩, rfl⟩
        · omega
        · rw [List.map_append]
          exact ((tf2.keep ke).keep ka).snoc ((tg2.keep ke).keep ka)
        · rcases List.mem_append.mp hx with hx | hx
          · exact B.gok x hx
          · rw [List.mem_singleton.mp hx]; exact ⟨hg.fm, hg2⟩
        · rw [List.length_append, List.length_singleton]; omega
      | cons c r =>
        rw [show (c :: r).map PyData.str = .str c :: r.map PyData.str from rfl, eqv_cons]
        have hcm : c ∈ splitsOf g := by rw [hs]; exact List.mem_cons_self
        have hcs := (List.mem_filter.mp hcm)
        have hcc : ∀ l ∈ g, c ∈ cells l := mem_shared' hcs.1
        refine iteF ⟨_, rfl, .inl ⟨rfl, _, SqL.of ew3⟩, _, rfl, _, rfl, c2, _, 0, .str c, rfl, rfl, (hc2.keep ke).sqt, by rw [hs]; exact atI_0, gv, c, g, rfl, tg2.keep ke, hg.fm, hcc, fun p xs3 H3 vs k3 n3 e3 t3 iv hvl => ⟨p, rfl, ⟨_, SqL.of e3⟩, fun D1 n1 => ?_⟩⟩
        have l3 : xs3.length = vs.length := t3.len
        refine lc_acc (walk_list (xs := xs3)) n1 (S := Nil) (fun z => z) (by omega) (fun i H zs => TvAll H zs (((vs.take i).map (part g c)).map encF)) .nil (fun _ _ _ _ e t => TvAll.atD e t) (fun _ k => SqL.of (k.keep _ _ e3 fun z => z)) (fun i x H4 H4' zs hi k4 e4 a4 y Kt Kf ht hf => ?_) fun H4 zs k4 e4 a4 => ?_
        · obtain ⟨rfl, hx⟩ := y
          obtain ⟨v, hv', tv⟩ := t3.at hx
          obtain ⟨ap, ps, rfl, hpp, hTp⟩ := (tv.keep k4).inv
          cases hTp with
          | cons hi1 hTp =>
            cases hTp with
            | cons hi2 hTp =>
              cases hTp
              rw [hi1.inv_int] at hpp
              refine ⟨ap, _, rfl, hpp.sqt, rfl, _, _, rfl, _, _, rfl, rfl, rfl, yes_go ⟨_, rfl, ht _ _ Kp.refl ?_⟩⟩
              rw [take_snoc hv', List.map_append, List.map_append]
              exact a4.snoc hi2
        · rw [l3, List.take_length] at a4
          have k34 := k3.trans k4
          have ew4 := k34.keep _ _ ew3 fun z => z
          have ef4 := k34.keep _ _ ef3 fun z => z
          have lz : zs.length = vs.length := by rw [a4.len, List.length_map]
          have lt : (ws.take W'.length).length = W'.length := tw2.len
          have hsum : tot (vs.map (part g c)) = g.length := iv.sum hcc
          have hpne : ∀ x ∈ vs.map (part g c), GOk x := fun x hx => by
            obtain ⟨v, hv, rfl⟩ := List.mem_map.mp hx
            exact hg.part iv hv
          have hwt := wt_tot fun x hx => (hpne x hx).fm.ne
          rw [List.length_map, hsum] at hwt
          have h2 := splits_vals iv hcc hcs.2
          have ka := Kp.atD (zs := ws.take W'.length ++ zs) ew4
          refine ⟨wo, D1, ws.take W'.length, zs, rfl, rfl, ew4, e4, by rw [lz, lt, sizeLine_eq]; omega, _, ?_, ⟨_, _, rfl⟩, W' ++ vs.map (part g c), G, ⟨Kp.mut (((kH.trans k2).trans ke).trans k34) nwH, ⟨fs, by rw [upd_ne fw]; exact ef4, ((tf2.keep ke).keep k34).keep ka⟩, ⟨_, upd_same, ?_⟩, fun x hx => ?_, B.gok, ?_⟩, rfl⟩
          · rw [hWg, wt_app]; omega
          · rw [List.map_append]
            exact (((tw2.keep ke).keep k34).keep ka).append (a4.keep ka)
          · rcases List.mem_append.mp hx with hx | hx
            · exact B.wok x (List.mem_append_left _ hx)
            · exact hpne x hx
          · rw [tot_app, hsum]; omega
end
end Ro

/-! RoCheck: stuck_block, single_group, check_reader, check_logs, factorial. -/
namespace Ro
open PySem PySem.Spec PyProof.Rows L2

/-! ### what isn't reached -/
section
variable {X : Cx}
theorem ps_never {st : Stmt} : PS X st (fun _ _ _ => False) := ⟨fun _ _ _ _ _ _ h => h.elim⟩
theorem pss_never {st : List Stmt} : PSs X st (fun _ _ _ => False) := ⟨fun _ _ _ _ _ _ h => h.elim⟩
theorem pw_never {e : Expr} : PW X e (fun _ _ _ => False) := ⟨fun _ _ _ _ _ _ _ h => h.elim⟩
theorem ip_mulW : PIp X .Mult (fun x y H Q => ∃ i j, x = .int i ∧ y = .int j ∧ CMulW i j ∧ Q (.int (i * j)) H) := by
  intro pins s σ H x y v u Q I r1 r2 h
  obtain ⟨i, j, e1, e2, hc, q⟩ := h
  subst e1; subst e2
  obtain ⟨t, rfl⟩ := r1
  obtain ⟨t', rfl⟩ := r2
  exact PyProof.Rows.imul_int ⟨.int _, H, I.tok _, ⟨_, rfl⟩, q⟩ hc.ok
end
theorem mulW_nat {a b : Nat} (ha : a < 2 ^ 3000) (hb : b < 2 ^ 3000) : CMulW (a : Int) (b : Int) :=
  wide_mul (a := 3000) (b := 3000) (by rw [Int.natAbs_natCast]; exact ha) (by rw [Int.natAbs_natCast]; exact hb) (by decide) (by decide) (by decide)
theorem small_nat {a b : Nat} (h : a ≤ b) (hb : b < 2 ^ 3000 := by decide) : a < 2 ^ 3000 := Nat.lt_of_le_of_lt h hb

section
variable {P : Program} {w : World} {K : PySem.W.Frag} {mg : Str → Option Value} {base : Heap}
/-- a good family has no stuck block -/
def spNone : Sp := fun vs H Q _ => ∃ v F, vs = [v] ∧ Tv H v (encF F) ∧ GOk F ∧ RV H Q .non
theorem ok_stuck_block (D : Df K mg "stuck_block" s_stuck_block p_stuck_block) (T : Bu mg) (ob : Ok P w K mg base 3 "blocks" p_blocks spBlocks) : Ok P w K mg base 4 "stuck_block" p_stuck_block spNone := by
  refine D.ok sc_stuck_block (fun vs H Q E h => ?_) fun f cdv A outer s H vs Q E hr h => ?_
  · obtain ⟨v, F, rfl, _⟩ := h
    rfl
  · obtain ⟨v, F, rfl, hv, hF, q⟩ := h
    refine ⟨_, pss_cons (ps_for PassesOwn.never rfl (pi_tup (pe_cl ob hr (pa_cons (pv 0) pa_nil))) (pg_name (i := 1) sc_stuck_block.nd rfl (.inl rfl))
        (pss_one (ps_if (pt_cmpR op_gt (pe_callB (lenQ K) (by rfl) T.len bt_len (pa_cons (pv 1) pa_nil)) pe_int (nomark _)) (pss_one (ps_ret (pv 1))) pss_nil)))
      (pss_one (ps_ret pe_non)), ?_⟩
    refine ⟨_, rfl, v, F, rfl, hv, hF, fun u H1 G k1 t1 hG hGl => ?_⟩
    obtain ⟨a, xs, rfl, hp, hT⟩ := t1.inv
    refine ⟨a, rfl, ⟨xs, hp.sqt⟩, for_it (walk_tup (xs := xs)) (fun i σ H2 => (∃ y, σ = [some v, y]) ∧ Kp Nil H1 H2) ⟨⟨none, rfl⟩, Kp.refl⟩ (fun _ _ _ _ h => (hp.keep h.2).sqt) (fun i x σ H2 H2' hi hP y => ?_) fun σ H2 hP => ?_⟩
    · obtain ⟨rfl, hx⟩ := y
      obtain ⟨⟨y, rfl⟩, k2⟩ := hP
      obtain ⟨g, hg, tv⟩ := hT.at hx
      obtain ⟨ag, ys, rfl, hpg, hTg⟩ := (tv.keep k2).tuple
      have hl : ys.length = g.length := hTg.len
      have := hG g (List.mem_of_getElem? hg)
      refine ⟨_, rfl, ag, ys, rfl, .inr hpg.sqt, _, _, rfl, rfl, _, rfl, ?_⟩
      rw [decide_eq_false (show ¬ ((ys.length : Nat) : Int) > 1 by omega)]
      exact iteF ⟨⟨_, rfl⟩, k2⟩
    · obtain ⟨_, k2⟩ := hP
      exact q _ (k1.trans k2)
theorem ok_single_group (D : Df K mg "single_group" s_single_group p_single_group) (T : Bu mg) (ob : Ok P w K mg base 4 "stuck_block" p_stuck_block spNone) : Ok P w K mg base 5 "single_group" p_single_group spNone := by
  refine D.ok sc_single_group (fun vs H Q E h => ?_) fun f cdv A outer s H vs Q E hr h => ?_
  · obtain ⟨v, F, rfl, _⟩ := h
    rfl
  · obtain ⟨v, F, rfl, hv, hF, q⟩ := h
    refine ⟨_, pss_cons (ps_par (i := 1) (j := 2) rfl sc_single_group.nd rfl rfl (by decide) rfl rfl (pa_cons (pe_cl ob hr (pa_cons (pv 0) pa_nil)) (pa_cons pe_int pa_nil)) (by rfl))
      (pss_cons (ps_while PassesOwn.never (PW.pt (pw_and (pt_cmpR op_notN (pv 1) pe_non (nomark _)) pw_never)) pss_never)
      (pss_one (ps_ret (pv 1)))), ?_⟩
    refine ⟨_, rfl, v, F, rfl, hv, hF, fun H1 k1 => ⟨_, _, rfl, ?_⟩⟩
    refine ⟨fun m σ H2 => σ = [some v, some V.non, some (V.int 0), none] ∧ H2 = H1, ⟨0, rfl, rfl⟩, ?_⟩
    rintro m σ H2 ⟨rfl, rfl⟩
    refine ⟨_, rfl, rfl, false, rfl, iteF ?_⟩
    exact iteF ⟨_, rfl, q _ k1⟩
theorem ok_check_reader (D : Df K mg "check_reader" s_check_reader p_check_reader) (T : Bu mg) (ob : Ok P w K mg base 5 "single_group" p_single_group spNone) : Ok P w K mg base 6 "check_reader" p_check_reader spNone := by
  refine D.ok sc_check_reader (fun vs H Q E h => ?_) fun f cdv A outer s H vs Q E hr h => ?_
  · obtain ⟨v, F, rfl, _⟩ := h
    rfl
  · obtain ⟨v, F, rfl, hv, hF, q⟩ := h
    refine ⟨_, pss_cons (ps_set (i := 1) sc_check_reader.nd rfl (.inl rfl) (pe_cl ob hr (pa_cons (pv 0) pa_nil)))
      (pss_one (ps_if (pt_cmpR op_notN (pv 1) pe_non (nomark _)) pss_never pss_nil)), ?_⟩
    refine ⟨_, rfl, v, F, rfl, hv, hF, fun H1 k1 => ⟨_, rfl, rfl, false, rfl, iteF ?_⟩⟩
    exact q _ k1
theorem ok_check_logs (D : Df K mg "check_logs" s_check_logs p_check_logs) (T : Bu mg) (ob : Ok P w K mg base 6 "check_reader" p_check_reader spNone) : Ok P w K mg base 7 "check_logs" p_check_logs spNone := by
  refine D.ok sc_check_logs (fun vs H Q E h => ?_) fun f cdv A outer s H vs Q E hr h => ?_
  · obtain ⟨v, F, rfl, _⟩ := h
    rfl
  · obtain ⟨v, F, rfl, hv, hF, q⟩ := h
    obtain ⟨a, xs, rfl, hp, hT⟩ := hv.tuple
    have hl : xs.length = F.length := hT.len
    have hpos : 1 ≤ F.length := List.length_pos_iff.mpr hF.fm.ne
    refine ⟨_, pss_cons (ps_if (pt_cmpR op_eq (pe_callB (lenQ K) (by rfl) T.len bt_len (pa_cons (pv 0) pa_nil)) pe_int (nomark _)) pss_never pss_nil)
      (pss_one (ps_expr (pe_cl ob hr (pa_cons (pv 0) pa_nil)))), ?_⟩
    refine ⟨_, rfl, a, xs, rfl, .inr hp.sqt, rfl, _, rfl, ?_⟩
    rw [decide_eq_false (show ¬ V.int ((xs.length : Nat) : Int) = V.int 0 from fun e => by injection e with e; omega)]
    refine iteF ⟨_, rfl, _, F, rfl, hv, hF, fun H1 k1 => ?_⟩
    exact q _ k1
def spFactorial : Sp := fun vs H Q _ => ∃ n : Nat, vs = [.int n] ∧ n ≤ 16 ∧ RV H Q (.int (fact n))
theorem ok_factorial (D : Df K mg "factorial" s_factorial p_factorial) (T : Bu mg) : Ok P w K mg base 1 "factorial" p_factorial spFactorial := by
  refine D.ok sc_factorial (fun vs H Q E h => ?_) fun f cdv A outer s H vs Q E hr h => ?_
  · obtain ⟨n, rfl, _⟩ := h
    rfl
  · obtain ⟨n, rfl, hn, q⟩ := h
    refine ⟨_, pss_cons (ps_set (i := 1) sc_factorial.nd rfl (.inl rfl) pe_int)
      (pss_cons (ps_for PassesOwn.never rfl (pi_range2 rfl T.range (pa_cons pe_int (pa_cons (pe_op op_add (pv 0) pe_int) pa_nil))) (pg_name (i := 2) sc_factorial.nd rfl (.inl rfl))
        (pss_one (ps_aug (i := 1) sc_factorial.nd rfl (.inl rfl) (pv 2) ip_mulW)))
      (pss_one (ps_ret (pv 1)))), ?_⟩
    refine ⟨_, rfl, _, _, rfl, rfl, 2, (n : Int) + 1, rfl, ⟨by decide, by decide, by omega, by omega⟩, ?_⟩
    have en : ((n : Int) + 1 - 2).toNat = n - 1 := by omega
    refine for_range (lo := 2) (fun i σ H1 => (∃ y, σ = [some (.int n), some (.int (fact (i + 1) : Nat)), y]) ∧ H1 = H) ⟨⟨none, rfl⟩, rfl⟩ (fun i σ H1 hi hP => ?_) fun σ H1 hP => ?_
    · obtain ⟨⟨y, rfl⟩, rfl⟩ := hP
      have hf : fact (i + 1) ≤ fact 16 := fact_mono (by omega)
      refine ⟨_, rfl, _, rfl, _, _, rfl, rfl, ?_, ⟨some (.int (2 + (i : Int))), ?_⟩, rfl⟩
      · rw [show (2 : Int) + (i : Int) = ((i + 2 : Nat) : Int) by omega]
        exact mulW_nat (small_nat hf (by decide)) (small_nat (b := 20) (by omega) (by decide))
      · show _ = _
        have : ((fact (i + 1) : Nat) : Int) * (2 + (i : Int)) = (fact (i + 1 + 1) : Nat) := by
          rw [show (2 : Int) + (i : Int) = ((i + 2 : Nat) : Int) by omega, ← Int.natCast_mul]
          congr 1
          show _ = (i + 1 + 1) * fact (i + 1)
          rw [Nat.mul_comm]
        rw [← this]; rfl
    · obtain ⟨⟨y, rfl⟩, rfl⟩ := hP
      have : fact (((n : Int) + 1 - 2).toNat + 1) = fact n := by
        rw [en]
        match n with
        | 0 => rfl
        | n + 1 => rfl
      rw [this]
      exact ⟨_, rfl, q _ Kp.refl⟩
end
end Ro

/-! RoSet1: a set of texts whose members can be walked: made, added to, sorted. -/
namespace Ro
open PySem PySem.Spec PyProof.Rows L2

abbrev txtK (P : Program) (w : World) : PySem.KeyKind P w Str := PySem.strKind P w
/-- the text of an entry -/
def txtOf (e : Int × Value) : Str := match e.2 with | .str z _ => z | _ => default
/-- entries and table of a set whose members are the texts ks -/
structure Texts (w : World) (es : Array (Int × Value)) (t : SetTable) (ks : List Str) : Prop where
  each : ∀ e ∈ es.toList, ∃ z tok, e = (hashStr w z, Value.str z tok)
  mem : (es.toList.map txtOf).Perm ks
  fits : t.fits es.size = true
  ris : Ris t.place.toList
  led : w.params.followText "set-order" = true ∨ t.led = true
section
variable {P : Program} {w : World} {es : Array (Int × Value)} {t : SetTable} {ks : List Str}
theorem Texts.size (T : Texts w es t ks) : es.size = ks.length := by
  have := T.mem.length_eq
  rw [List.length_map, Array.length_toList] at this
  exact this
theorem Texts.els (T : Texts w es t ks) : ElemsOf (txtK P w) es.toList := fun e he => by
  obtain ⟨z, tok, rfl⟩ := T.each e he
  exact ⟨⟨z, beq_self_eq_true z, rfl⟩, rfl⟩
theorem Texts.has (T : Texts w es t ks) (z : Str) : z ∈ ks ↔ ∃ e ∈ es.toList, Value.isStrOf z e.2 = true := by
  rw [← T.mem.mem_iff, List.mem_map]
  constructor
  · rintro ⟨e, he, q⟩
    obtain ⟨y, tok, rfl⟩ := T.each e he
    have q : y = z := q
    subst q
    exact ⟨_, he, beq_self_eq_true y⟩
  · rintro ⟨e, he, q⟩
    obtain ⟨y, tok, rfl⟩ := T.each e he
    have q : (y == z) = true := q
    exact ⟨_, he, beq_iff_eq.mp q⟩
theorem Texts.lay (T : Texts w es t ks) (z : Str) (tok : Tok) : Texts w (layNew t es (hashStr w z) (.str z tok)).1 (layNew t es (hashStr w z) (.str z tok)).2.1 (ks ++ [z]) := by
  have p := layNew_perm t es (hashStr w z) (.str z tok)
  rw [Array.toList_push] at p
  refine ⟨fun e he => ?_, ?_, layNew_fits .., layNew_ris _ _ _ _ T.ris, T.led.imp id fun q => (layNew_led t es _ _).trans q⟩
  · rcases List.mem_append.mp (p.mem_iff.mp he) with he | he
    · exact T.each e he
    · exact ⟨z, tok, List.mem_singleton.mp he⟩
  · have := p.map txtOf
    rw [List.map_append] at this
    exact this.trans (T.mem.append_right _)
theorem Texts.relay (T : Texts w es t ks) (m : Nat) : Texts w (relayAll t es m).1 (relayAll t es m).2.1 ks :=
  have p := relayAll_perm t es m
  ⟨fun e he => T.each e (p.mem_iff.mp he), (p.map txtOf).trans T.mem, relayAll_fits .., relayAll_ris .., T.led.imp id fun q => (relayAll_led t es m).trans q⟩
theorem Texts.off (T : Texts w es t ks) : Texts w es { t with plain := false } ks := ⟨T.each, T.mem, SetTable.fits_plain_off T.fits, T.ris, T.led⟩
theorem Texts.start (w : World) : Texts w #[] (.fresh 0 0 (!w.params.followText "set-order")) [] :=
  ⟨fun e he => by simp at he, by simp, rfl, List.Pairwise.nil, by
    show _ ∨ (!w.params.followText "set-order") = true
    cases w.params.followText "set-order" <;> simp⟩
end
/-- at a stands such a set -/
def TxtSet (w : World) (h : Heap) (a : Addr) (ks : List Str) : Prop := ∃ o es ep t, h.get? a = some o ∧ o.ExactSet ∧ o.data = .set es ep t ∧ Texts w es t ks
def TSO (w : World) (a : Addr) (ks : List Str) : HO := .ext fun h => TxtSet w h a ks
/-- z put in -/
def putT (ks : List Str) (z : Str) : List Str := if z ∈ ks then ks else ks ++ [z]
section
variable {P : Program} {w : World} {A : Around} {E : Value → Shared → Prop} {s : Shared} {a : Addr} {ks : List Str}
theorem TxtSet.at {h h' : Heap} (R : TxtSet w h a ks) (k : ∀ o, h.get? a = some o → h'.get? a = some o) : TxtSet w h' a ks := let ⟨o, es, ep, t, ho, r⟩ := R; ⟨o, es, ep, t, k o ho, r⟩
theorem TxtSet.ok {H : Hp} {h : Heap} (R : TxtSet w h a ks) : ObjOk P w H h a (TSO w a ks) := by
  obtain ⟨o, _, _, _, ho, _⟩ := id R
  exact ⟨R, ⟨o, ho⟩, fun _ _ p k => p.at k⟩
theorem TxtSet.start (w : World) (h : Heap) : TxtSet w (h.push { cls := .type "set", dict := none, data := .set #[] 0 (.fresh 0 0 (!w.params.followText "set-order")) }) h.objs.size [] :=
  ⟨_, _, _, _, Heap.get?_push_size _ rfl, ⟨rfl, rfl, rfl⟩, rfl, Texts.start w⟩
/-- the entries and the table stored -/
theorem TxtSet.stored {h : Heap} {o : Obj} {es es' : Array (Int × Value)} {ep : Nat} {t t' : SetTable} (ho : h.get? a = some o) (hx : o.ExactSet) (hd : o.data = .set es ep t) (T : Texts w es' t' ks) :
    TxtSet w (h.update a (Obj.putSet es' t')) a ks ∧ (h.update a (Obj.putSet es' t')).get? a = some { o with data := .set es' (ep + 1) t' } := by
  have e := putSet_of es' t' hd
  have g := Heap.get?_update_self (Obj.putSet es' t') ho (by rw [e] <;> rfl)
  rw [e] at g
  exact ⟨⟨_, es', ep + 1, t', g, hx, rfl, T⟩, g⟩
theorem txt_tail {g : Bool → Sem Unit} (hg : ∀ (b : Bool) (s₁ : Shared) (Q' : Unit → Shared → Prop), Q' () s₁ → wpAny (model P w) A (g b) Q' E s₁) {o : Obj} {es es1 : Array (Int × Value)} {ep : Nat} {t t1 : SetTable} {dummy : Bool} {R : Option Bool → Shared → Prop}
    (ho : s.heap.get? a = some o) (hx : o.ExactSet) (hd : o.data = .set es ep t) (T : Texts w es1 t1 ks) (hb : ks.length < scanBound) (hR : ∀ h', Heap.SameBut a s.heap h' → TxtSet w h' a ks → R (some true) { s with heap := h' }) :
    wpAny (model P w) A (do
      storeSet a es1 t1
      if (!dummy && t1.tooFull) = true then do
        g (relayAll t1 es1 (SetTable.grown es1.size)).2.2
        storeSet a (relayAll t1 es1 (SetTable.grown es1.size)).1 (relayAll t1 es1 (SetTable.grown es1.size)).2.1
        pure (some true)
      else pure (some true)) R E s := by
  obtain ⟨st, at1⟩ := TxtSet.stored ho hx hd T
  have u1 := Heap.SameBut.update s.heap a (Obj.putSet es1 t1)
  refine wpAny_bind (wpAny_storeSet_of ho hd ?_ (fits_of_scanBound (by rw [T.size]; exact hb)))
  split
  · have T2 := T.relay (SetTable.grown es1.size)
    obtain ⟨st2, _⟩ := TxtSet.stored at1 hx rfl T2
    refine wpAny_bind (hg _ _ _ (wpAny_bind (wpAny_storeSet_of at1 rfl ?_ (fits_of_scanBound (by rw [T2.size]; exact hb)))))
    exact wpAny_pure (hR _ (u1.trans (Heap.SameBut.update _ a _)) st2)
  · exact wpAny_pure (hR _ u1 st)
theorem txt_add {z : Str} {tok : Tok} {Q : Bool → Shared → Prop} (R : TxtSet w s.heap a ks) (room : ks.length + 1 < scanBound) (hQ : ∀ b h', Heap.SameBut a s.heap h' → TxtSet w h' a (putT ks z) → Q b { s with heap := h' }) :
    wpAny (model P w) A (setAddHashed a (.str z tok) (hashStr w z)) Q E s := by
  obtain ⟨o, es, ep, t, ho, hx, hd, T⟩ := R
  have is0 : (txtK P w).is z (.str z tok) = true := beq_self_eq_true z
  have sc : (Value.str z tok).scannable = true := rfl
  have quiet : ∀ (b : Bool) {s₁ : Shared} {Q' : Unit → Shared → Prop}, Q' () s₁ → wpAny (model P w) A (match b with | true => rule "set.scan.the-table-gave-way" | false => pure ()) Q' E s₁ := fun b s₁ Q' q => by
    cases b
    · exact wpAny_pure q
    · exact wpAny_rule q
  have els : ElemsOf (txtK P w) es.toList := T.els
  unfold setAddHashed setAddHashedIn
  refine wpAny_holding (wpAny_bind (wpAny_setState_of ho hd T.fits ?_))
  dsimp only
  rw [byScan_of sc (by rw [T.size]; omega) els]
  simp only [↓reduceIte]
  unfold setAddByScan
  refine wpAny_bind (wpAny_bind (wpAny_rule (wpAny_bind (wpAny_setScan_of (knd := txtK P w) is0 ho hd T.fits els ?_))))
  cases hfi : List.findIdx? (fun e => (txtK P w).is z e.2) es.toList with
  | some j =>
    obtain ⟨hj, pj, _⟩ := List.findIdx?_eq_some_iff_getElem.mp hfi
    have hz : z ∈ ks := (T.has z).mpr ⟨_, List.getElem_mem hj, pj⟩
    refine wpAny_pure (wpAny_pure (hQ _ s.heap (Heap.SameBut.refl a s.heap) ?_))
    unfold putT
    rw [if_pos hz]
    exact ⟨o, es, ep, t, ho, hx, hd, T⟩
  | none =>
    have hz : z ∉ ks := fun q => by
      obtain ⟨e, he, q⟩ := (T.has z).mp q
      have := List.findIdx?_eq_none_iff.mp hfi e he
      rw [show (txtK P w).is z e.2 = true from q] at this
      cases this
    have T1 := T.lay z tok
    have e2 : putT ks z = ks ++ [z] := if_neg hz
    rw [← e2] at T1
    have room2 : (putT ks z).length < scanBound := by rw [e2, List.length_append]; exact room
    dsimp only
    generalize hL : layNew t es (hashStr w z) (.str z tok) = L at T1
    obtain ⟨es1, t1, dummy, gave⟩ := L
    dsimp only at T1 ⊢
    refine wpAny_bind (quiet _ ?_)
    split
    · refine wpAny_bind ?_
      rw [hashByValue_scannable 8 sc]
      refine wpAny_pure (txt_tail (ks := putT ks z) ?_ ho hx hd ?_ room2 fun h' sb r => wpAny_pure (hQ _ h' sb r))
      · intro b s₁ Q' q
        cases b
        · exact wpAny_pure q
        · exact wpAny_rule q
      · split
        · exact T1
        · exact T1.off
    · refine wpAny_bind (wpAny_pure ?_)
      simp only [↓reduceIte]
      refine txt_tail (ks := putT ks z) ?_ ho hx hd T1 room2 fun h' sb r => wpAny_pure (hQ _ h' sb r)
      intro b s₁ Q' q
      cases b
      · exact wpAny_pure q
      · exact wpAny_rule q
/-- a.add(z) -/
theorem txt_call_add {z : Str} {tok : Tok} {Q : Value → Shared → Prop} (R : TxtSet w s.heap a ks) (room : ks.length + 1 < scanBound) (hQ : ∀ h' tk, Heap.SameBut a s.heap h' → TxtSet w h' a (putT ks z) → Q .none { s with heap := h', toks := tk }) :
    wpAny (model P w) A (call (.builtin "set.add") [.ref a, .str z tok]) Q E s := by
  have hT : s.TypeIs (.ref a) "set" := let ⟨o, _, _, _, ho, hx, _⟩ := R; ⟨o, ho, hx.1⟩
  refine wpAny_call_entry F.slot_set_add hT F.entry_set_add ?_ (F.args_set_add_2 _ _)
  unfold Builtin.«set.add» Builtin.Frozenset.oneOther
  simp only [List.isEmpty_nil, bind_assoc]
  unfold Builtin.Frozenset.addrOf setAdd
  refine wpAny_bind (wpAny_pure ?_)
  try dsimp only
  refine wpAny_bind (wpAny_pure ?_)
  try dsimp only
  refine wpAny_bind (wpAny_holding (wpAny_bind ((txtK P w).pyHash (beq_self_eq_true z) ?_)))
  refine txt_add (s := { s with toks := s.toks + 1 }) R room fun b h' sb r => ?_
  show wpAny _ _ (ret Value.none) _ _ _
  exact wpAny_pure ⟨_, rfl, hQ h' _ sb r⟩
end
section
variable {X : Cx} {pins : List (Addr × Obj)} {σ : L2.St} {H : Hp} {s : Shared}
theorem tso_get {a : Addr} {ks : List Str} (I : Inv X pins σ H s) (e : H a = some (TSO X.w a ks)) : TxtSet X.w s.heap a ks := (I.hok a _ e).1
theorem tso_add {E : Value → Shared → Prop} {D : Addr} {ks : List Str} {z : Str} {tok : Tok} {Q : Value → Shared → Prop} (I : Inv X pins σ H s) (hD : H D = some (TSO X.w D ks)) (room : ks.length + 1 < scanBound)
    (h : ∀ s', Inv X pins σ (upd H D (TSO X.w D (putT ks z))) s' → Q .none s') : wpAny (model X.prog X.w) X.A (call (.builtin "set.add") [.ref D, .str z tok]) Q E s := by
  refine txt_call_add (tso_get I hD) room fun h' tk sb new => h _ (I.write (e := D) (t' := tk) ?_ (.inl rfl) (fun b u hb hu => (sb.2 b hb).trans hu) ?_ new.ok)
  · rw [hD]; trivial
  · obtain ⟨o, _, _, _, ho, _⟩ := new
    exact ⟨o, ho⟩
end

/-! ### sorted, of what is gathered with any state behind -/
section
variable {prog : Program} {w : World} {A : Around} {E : Value → Shared → Prop} {s : Shared}
open PySem.W in
theorem sorted_got {v : Value} {R : Value → PyData → Prop} {Q : Value → Shared → Prop} (hu : A.units + 62 < cLine)
    (gather : ∀ (Q' : List Value → Shared → Prop), (∀ (s1 : Shared) (vs : List Value) (ds : List PyData), (∀ b o, s.heap.get? b = some o → s1.heap.get? b = some o) → s1.gens = s.gens → s1.os = s.os → SortOk ds → EachIs R vs ds →
      (∀ (h' : Heap) u d, (∀ b o, s1.heap.get? b = some o → h'.get? b = some o) → R u d → ∃ as, Reads h' u d as) →
      (∀ (h' : Heap) (tk c : Nat) (out : List Value), (∀ b o, s1.heap.get? b = some o → h'.get? b = some o) → EachIs R out (ds.mergeSort (dataLe false id)) →
        h'.get? s1.heap.objs.size = some (seqObj "list" out.toArray c) → Q (.ref s1.heap.objs.size) { s1 with heap := h', toks := tk }) → Q' vs s1) → wpAny (model prog w) A.in1 (collect v) Q' E s) :
    wpAny (model prog w) A (call (.builtin "sorted") [v]) Q E s := by
  refine Calls.call_function_entry kind_sorted plain_sorted entry_sorted (args_sorted1 _) ?_
  unfold Builtin.«sorted»
  refine wpAny_bind (m := checkCount "sorted" 1 1 _) (wpAny_pure ?_)
  refine wpAny_bind (gather _ fun s1 vs ds k1 _ _ k e1 reads h => ?_)
  have hv : vs.length ≤ sizeLine := by rw [e1.length]; exact k.2.2.1
  refine wpAny_bind (wpAny_newList ?_ hv)
  have at1 : (s1.heap.push (seqObj "list" vs.toArray 0)).get? s1.heap.objs.size = some (seqObj "list" vs.toArray 0) := Heap.get?_push_size _ rfl
  have k2 : ∀ b o, s1.heap.get? b = some o → (sortingHeap (s1.heap.push (seqObj "list" vs.toArray 0)) s1.heap.objs.size vs).get? b = some o := fun b o q =>
    sortingHeap_old (Nat.ne_of_lt (Heap.lt_size q)) (Heap.get?_push_of_some _ q)
  have e2 : EachIs (fun u d => ∃ as, Reads (sortingHeap (s1.heap.push (seqObj "list" vs.toArray 0)) s1.heap.objs.size vs) u d as) vs ds := e1.mono fun u d r => reads _ u d k2 r
  refine wpAny_bind (wpAny_holding (wpAny_call_entry PyProof.Rows.slot_list_sort ⟨_, at1, rfl⟩ PyProof.Rows.entry_list_sort
    (list_sort_vals (κ := dataKind (sortingHeap (s1.heap.push (seqObj "list" vs.toArray 0)) s1.heap.objs.size vs) ds) at1 (k.at (s := { s1 with heap := sortingHeap (s1.heap.push (seqObj "list" vs.toArray 0)) s1.heap.objs.size vs }) e2 (by show A.units + 1 + 1 + 60 < cLine; omega)) hv ⟨_, rfl, ?_⟩) (args_list_sort _)))
  have out := sortVals_data (h' := sortingHeap (s1.heap.push (seqObj "list" vs.toArray 0)) s1.heap.objs.size vs) (enc := id) false e1 e2 (by rw [List.map_id]; exact k.1)
  rw [List.map_id] at out
  obtain ⟨c, at3⟩ := sortedHeap_at (vs := vs) (out := (sortVals (dataKind (sortingHeap (s1.heap.push (seqObj "list" vs.toArray 0)) s1.heap.objs.size vs) ds) false vs vs).toArray) at1
  refine wpAny_pure ⟨_, rfl, h _ _ c _ (fun b o q => ?_) out at3⟩
  have lt := Heap.lt_size q
  exact (sortedHeap_old (Nat.ne_of_lt lt) (by rw [size_push']; exact Nat.lt_succ_of_lt lt)).trans (Heap.get?_push_of_some _ q)
end
section
variable {X : Cx}
theorem each_txt {w : World} {vs : List Value} {es : List (Int × Value)} (p : vs.Perm (es.map (·.2))) (h : ∀ e ∈ es, ∃ z tok, e = (hashStr w z, Value.str z tok)) :
    ∃ zs : List Str, PySem.W.EachIs (fun u d => ∃ z tok, u = Value.str z tok ∧ d = PyData.str z) vs (zs.map PyData.str) ∧ zs.length = es.length := by
  have hv : ∀ v ∈ vs, ∃ z tok, v = Value.str z tok := fun v hv => by
    obtain ⟨e, he, rfl⟩ := List.mem_map.mp (p.mem_iff.mp hv)
    obtain ⟨z, tok, rfl⟩ := h e he
    exact ⟨z, tok, rfl⟩
  have hl : vs.length = es.length := by rw [p.length_eq, List.length_map]
  rw [← hl]
  clear p hl
  induction vs with
  | nil => exact ⟨[], .nil, rfl⟩
  | cons v r ih =>
    obtain ⟨zs, e, l⟩ := ih fun x hx => hv x (List.mem_cons_of_mem _ hx)
    obtain ⟨z, tok, rfl⟩ := hv v List.mem_cons_self
    exact ⟨z :: zs, .cons ⟨z, tok, rfl, rfl⟩ e, by rw [List.length_cons, List.length_cons, l]⟩
def rSortT (w : World) : List V → Hp → VK → Prop := fun xs H Q => ∃ a ks, xs = [.ref a] ∧ H a = some (TSO w a ks) ∧ ks.length < scanBound ∧ ∀ p zs, H p = none → zs.length = ks.length → Q (.ref p) (upd H p (.lst zs))
/-- sorted(s) of a set of texts: a list of as many -/
theorem cr_sortT (hc : X.calm = true) (hu : X.A.units + 64 < cLine) : CallR X (.builtin "sorted") (rSortT X.w) := by
  intro pins s σ H xs us Q I r ⟨a, ks, ex, hS, hb, q⟩
  subst ex
  obtain ⟨u, eu, rx⟩ := vals1 r
  subst eu
  cases rx
  obtain ⟨o, es, ep, t, ho, hx, hd, T⟩ := tso_get I hS
  have hsb : es.size < scanBound := by rw [T.size]; exact hb
  refine sorted_got (R := fun u d => ∃ z tok, u = Value.str z tok ∧ d = PyData.str z) (by omega) fun Q' hQ => ?_
  refine collect_set (A := X.A.in1) (I.ok.hd hc) ⟨o, ho, hx.1, hd⟩ T.fits hsb T.ris T.led fun s1 vs k1 _ g1 o1 pm => ?_
  obtain ⟨zs, ez, lz⟩ := each_txt pm T.each
  have lz2 : zs.length = ks.length := by rw [lz, Array.length_toList, T.size]
  have hz : zs.length ≤ sizeLine := by rw [lz2]; exact fits_of_scanBound hb
  refine hQ s1 vs (zs.map PyData.str) k1 g1 o1 (sortOk_strs zs hz) ez (fun h' u d k x => ?_) fun h' tk c out k2 e at3 => ?_
  · obtain ⟨z, tok, rfl, rfl⟩ := x
    exact ⟨_, .str z tok⟩
  · have I0 : Inv X pins σ H s1 := I.call' (ch := []) o1 (Un.kept k1) (I.hok.kept k1) (by rw [g1]; exact I.bare) (fun _ z => nomatch z)
    have ⟨ws, rw', lw⟩ : ∃ ws : List V, Vals ws out ∧ ws.length = zs.length := by
      have le : ((zs.map PyData.str).mergeSort (PySem.W.dataLe false id)).length = zs.length := by rw [List.length_mergeSort, List.length_map]
      rw [← le]
      clear le at3
      generalize (zs.map PyData.str).mergeSort (PySem.W.dataLe false id) = ds at e
      induction e with
      | nil => exact ⟨[], .nil, rfl⟩
      | cons x _ ih =>
        obtain ⟨z, tok, rfl, rfl⟩ := x
        obtain ⟨ws, a, b⟩ := ih
        exact ⟨.str z :: ws, .cons ⟨tok, rfl⟩ a, by rw [List.length_cons, List.length_cons, b]⟩
    exact ⟨.ref s1.heap.objs.size, _, I0.laid (t' := tk) k2 (Nat.le_refl _) (show ObjOk X.prog X.w _ _ _ (.lst ws) from ⟨by rw [lw]; exact hz, out, c, rw', at3⟩), rfl, q _ ws (I0.hok.fresh (Nat.le_refl _)) (lw.trans lz2)⟩
end
end Ro

/-! RoSet2: {e for t in i for t1 in i1}, e a text. -/
namespace Ro
open PySem PySem.Spec PyProof.Rows L2

/-- what a clause's loop runs when its iterator has given v -/
def clause (tg : Expr) (p : Pos) (env : Env) (it : Value) (body : Sem PySem.Fin) : Sem PySem.Fin := do
  standAt p
  match ← pyNext it with
  | none => pure (.done .next)
  | some v => do
    letOwnedTupleGo tg it v
    assign tg env v
    body
/-- a clause's loop: W by the turn, a measure and the heap -/
theorem clause_loop {Y : Cx} (hc : Y.calm = true) (hx : Y.xe = fun _ _ => False) {c : Code} {tg : Expr} {p : Pos} {body : Sem PySem.Fin} {it : Addr} {R : Result → Shared → Prop} {J : It} {fp : List Addr} {tn : Nat → Heap → Prop} (T : Turn Y.prog Y.w Y.K tg J fp it tn)
    {g : TG} (pg : PG Y tg g) (hq : c.quiet = true) (hA : Y.A.under c = Y.A) (hden : (model Y.prog Y.w).den c = (clause tg p Y.env (.ref it) body).onRaise (fun x => do noteFrame x Y.env; theTreesLotGoes x))
    {pins : List (Addr × Obj)} {σ : L2.St} (stat : ∀ {σ' : L2.St} {H' : Hp} {s' : Shared}, Inv Y pins σ' H' s' → (∀ b ∈ fp, H' b = none) → ∀ b ∈ fp, FpOk Y pins H' b) (W : Nat → Nat → Hp → Prop)
    (turn : ∀ i n H, W i n H → (J.stop i H ∧ ∀ s', Inv Y pins σ H s' → R (.ok .next) s') ∨ (J.go i H ∧ ∀ x H', J.yld i H x H' → ∃ Post : L2.St → Hp → Prop, g x σ H' Post ∧ ∀ σ2 H2, Post σ2 H2 → ∀ ps s2, Inv Y (pins ++ ps) σ2 H2 s2 →
      wpAny (model Y.prog Y.w) Y.A body (fun fin s3 => fin = .again c ∧ ∃ σ3 H3 m, m < n ∧ W (i + 1) m H3 ∧ Inv Y (pins ++ ps) σ3 H3 s3 ∧ σ.length = σ3.length ∧ ∀ (j : Nat) (v : V), σ[j]? = some (some v) → σ3[j]? = some (some v)) (fun _ _ => False) s2))
    {s : Shared} {H : Hp} {m0 : Nat} (I : Inv Y pins σ H s) (st : tn 0 s.heap) (nf : ∀ b ∈ fp, H b = none) (w0 : W 0 m0 H) : codeAny (model Y.prog Y.w) Y.A c R s := by
  refine codeAny_loop hq (fun n s' => ∃ i H', Inv Y pins σ H' s' ∧ tn i s'.heap ∧ (∀ b ∈ fp, H' b = none) ∧ W i n H') (fun n s1 h1 => ?_) m0 ⟨0, H, I, st, nf, w0⟩
  obtain ⟨i, H1, I1, st1, n1, w1⟩ := h1
  rw [hA, hden]
  refine wpAny_noted ?_
  unfold clause
  refine wpAny_bind (wpAny_standAt (wpAny_bind ?_))
  rcases turn i n H1 w1 with ⟨stop, q⟩ | ⟨go, q⟩
  · refine thnF (T.done Y rfl rfl rfl hc i pins s1 σ H1 (fun _ _ => False) I1 (stat I1 n1) st1 stop) fun r s2 z => ?_
    obtain ⟨rfl, I2⟩ := z
    exact wpAny_pure (q s2 I2)
  · refine thnF (T.item Y rfl rfl rfl hc i pins s1 σ H1 (fun _ _ => False) I1 (stat I1 n1) st1 go) fun r s2 z => ?_
    obtain ⟨u, rfl, h2⟩ := z
    refine wpAny_bind (thnF h2 fun _ s3 z => ?_)
    obtain ⟨x, H3, I3, r3, y3, st3, n3⟩ := z
    obtain ⟨Post, qg, qb⟩ := q x H3 y3
    have pgr := pg.run _ s3 σ H3 x u _ (I3.pinned (stat I3 n3) (T.obj _ _ st3)) r3 qg
    rw [hx] at pgr
    refine wpAny_bind (thnF pgr fun _ s4 z => ?_)
    obtain ⟨σ4, H4, I4, q4⟩ := z
    refine thnF (qb σ4 H4 q4 _ s4 I4) fun fin s5 z => ?_
    obtain ⟨rfl, σ5, H5, m, hm, w5, I5, hl, hk⟩ := z
    have pin : ∀ b ∈ fp, ∀ o, s3.heap.get? b = some o → s5.heap.get? b = some o ∧ H5 b = none := fun b hb o e => by
      have z := I5.pin (b, o) (List.mem_append_right _ (List.mem_append_right _ (mem_pinsAt hb e)))
      exact ⟨z.1, z.2.1⟩
    refine ⟨rfl, m, hm, i + 1, H5, (I5.unpinned (pins := pins)).weak hl hk, T.keep _ _ _ st3 fun b hb o e => (pin b hb o e).1, fun b hb => ?_, w5⟩
    obtain ⟨o, e, _⟩ := T.obj _ _ st3 b hb
    exact (pin b hb o e).2

/-- the comprehension -/
abbrev sc2 (e t0 i0 t1 i1 : Expr) (sc : Scope) (p : Pos) : Expr := .SetComp e [⟨t0, i0, [], 0⟩, ⟨t1, i1, [], 0⟩] sc p
section
variable {prog : Program} {w : World} {A : Around} {R : Result → Shared → Prop} {s : Shared} {e t0 i0 t1 i1 : Expr} {sc : Scope} {p : Pos} {it acc : Value} {env : Env}
def body0 (e t0 i0 t1 i1 : Expr) (sc : Scope) (p : Pos) (it acc : Value) (env : Env) : Sem PySem.Fin := do
  let x ← eval i1 env
  standAt i1.pos
  let x ← foldedSetIterable i1 env x
  let _ ← runOwn (.compStart (sc2 e t0 i0 t1 i1 sc p) 1 (← holding [x] (pyIter x)) acc env) env
  again (.compLoop (sc2 e t0 i0 t1 i1 sc p) 0 it acc env)
def body1 (e t0 i0 t1 i1 : Expr) (sc : Scope) (p : Pos) (it acc : Value) (env : Env) : Sem PySem.Fin := do
  (do
    let v ← eval e env
    standAt e.pos
    let _ ← call (.builtin "set.add") [acc, v])
  again (.compLoop (sc2 e t0 i0 t1 i1 sc p) 1 it acc env)
theorem den0 : (model prog w).den (.compLoop (sc2 e t0 i0 t1 i1 sc p) 0 it acc env) = (clause t0 i0.pos env it (body0 e t0 i0 t1 i1 sc p it acc env)).onRaise (fun x => do noteFrame x env; theTreesLotGoes x) := by rfl
theorem den1 : (model prog w).den (.compLoop (sc2 e t0 i0 t1 i1 sc p) 1 it acc env) = (clause t1 i1.pos env it (body1 e t0 i0 t1 i1 sc p it acc env)).onRaise (fun x => do noteFrame x env; theTreesLotGoes x) := by rfl
/-- the start of a clause whose iterator has come -/
theorem sc2_start (k : Nat) (hk : k = 0 ∨ k = 1) (h0 : codeAny (model prog w) A (.compLoop (sc2 e t0 i0 t1 i1 sc p) k it acc env) R s)
    (h : wpAny (model prog w) A (pyIter it) (fun it' s' => codeAny (model prog w) A (.compLoop (sc2 e t0 i0 t1 i1 sc p) k it' acc env) R s') (fun _ _ => False) s) :
    codeAny (model prog w) A (.compStart (sc2 e t0 i0 t1 i1 sc p) k it acc env) R s := by
  refine codeAny_of_tree ?_
  show wpAny _ _ ((compStart (sc2 e t0 i0 t1 i1 sc p) k it acc env).onRaise _) _ _ s
  refine wpAny_notedAt ?_
  unfold compStart
  rcases hk with rfl | rfl <;>
  · show wpAny _ _ (ask >>= _) _ _ s
    refine wpAny_bind (wpAny_askSetting (wpAny_ite ?_))
    split
    · first
        | exact wpAny_bind (wpAny_pure (wpAny_pure ⟨rfl, h0⟩))
        | exact wpAny_pure ⟨rfl, h0⟩
    · refine wpAny_bind (wpAny_rule ?_)
      first
        | exact wpAny_bind (wpAny_standAt (wpAny_bind (thnF h fun it' s' h' => wpAny_pure ⟨rfl, h'⟩)))
        | (show wpAny _ _ (standAt _ >>= _) _ _ s; exact wpAny_bind (wpAny_standAt (wpAny_bind (thnF h fun it' s' h' => wpAny_pure ⟨rfl, h'⟩))))
end
section
variable {X : Cx}
def tSc2 (w : World) (wi : TI) (g : TG) (wi1 : TI) (g1 : TG) (te : TE) (vs vs1 : List Nat) : TE := fun σ H Q => wi σ H fun J H1 => ∀ D, H1 D = none → ∃ W : Nat → Nat → Hp → Prop, (∃ m, W 0 m (upd H1 D (TSO w D []))) ∧ ∀ i m H, W i m H →
  (J.stop i H ∧ Q (.ref D) H) ∨ (J.go i H ∧ ∃ N : Hp → Prop, (∀ H', N H' → ∃ m', m' < m ∧ W (i + 1) m' H') ∧ ∀ x H', J.yld i H x H' → g x (wipe σ vs) H' fun σ2 H2 => wipe σ2 vs = wipe σ vs ∧
    wi1 σ2 H2 fun J1 H3 => ∃ W1 : Nat → Nat → Hp → Prop, (∃ m, W1 0 m H3) ∧ ∀ j k H, W1 j k H → (J1.stop j H ∧ N H) ∨ (J1.go j H ∧ ∃ N1 : Hp → Prop, (∀ H', N1 H' → ∃ k', k' < k ∧ W1 (j + 1) k' H') ∧
      ∀ x H', J1.yld j H x H' → g1 x (wipe σ2 vs1) H' fun σ3 H4 => wipe σ3 vs1 = wipe σ2 vs1 ∧ te σ3 H4 fun y H5 => ∃ z ks, y = .str z ∧ H5 D = some (TSO w D ks) ∧ ks.length + 1 < scanBound ∧ N1 (upd H5 D (TSO w D (putT ks z)))))
/-- the block's context, whatever the state at its start -/
abbrev InBlk (X : Cx) (scope : Scope) (J : Cx → Prop) : Prop := ∀ (s : Shared) (H : Hp) (C : Addr) (cl : List (PySem.Str × Addr)) (fp : List Addr), J (X.blk s H scope (compEnvC scope cl C X.env) fp)
theorem pe_sc2 {e t0 i0 t1 i1 : Expr} {sc : Scope} {own : List (PySem.Str × Nat)} {vs1 : List Nat} {p : Pos} {wi wi1 : TI} {g g1 : TG} {te : TE} (hc : X.calm = true) (hN : X.N.Nodup) (hi : PI X t0 i0 wi) (ok : BlkOk X.N X.env.scope sc own) (hv : ∀ i ∈ vs1, i ∈ own.map (·.2))
    (hg : InBlk X sc fun Y => PG Y t0 g) (hi1 : InBlk X sc fun Y => PI Y t1 i1 wi1) (hg1 : InBlk X sc fun Y => PG Y t1 g1) (he : InBlk X sc fun Y => PE Y e te)
    (hs : ∀ x, foldedSetIterable i0 X.env x = pure x := by intro _; rfl) (hs1 : ∀ env x, foldedSetIterable i1 env x = pure x := by intro _ _; rfl) : PE X (sc2 e t0 i0 t1 i1 sc p) (tSc2 X.w wi g wi1 g1 te (own.map (·.2)) vs1) := by
  refine ⟨fun pins s σ H Q I h => ?_⟩
  show wpAny _ _ (comprehension (sc2 e t0 i0 t1 i1 sc p) sc X.env _ (newSet (.type "set")) false (eval i0 X.env)) _ _ s
  have hfree : ∀ y ∈ sc.names, y.2 = .free → ∃ c, X.env.cells.lookup y.1 = some c := fun y hy q => (ok.free y hy q).elim (fun k => I.ok.has _ (.inl k)) fun k => I.ok.has _ (.inr k)
  refine wpAny_comprehension_free (use := none) rfl hs (closure_ok hfree) ok.kind (fun y hy q => by rw [ok.uniq y hy, q]) (thn (hi.run pins s σ H _ I h) fun xv s1 hx => thn hx fun itv s2 h2 => ?_)
  obtain ⟨it, fp, tn, J, H2, rfl, I2, T, st2, f2, q⟩ := h2
  refine PpSet.newSet_ok (newEnv_comp ?_)
  have hDn : H2 s2.heap.objs.size = none := I2.hok.fresh (Nat.le_refl _)
  have new := TxtSet.start X.w s2.heap
  obtain ⟨W, ⟨m0, w0⟩, turn⟩ := q _ hDn
  generalize hs3 : ({ s2 with heap := s2.heap.push { cls := .type "set", dict := none, data := .set #[] 0 (.fresh 0 0 (!X.w.params.followText "set-order")) } } : Shared) = s3
  have h3 : s3.heap = s2.heap.push { cls := .type "set", dict := none, data := .set #[] 0 (.fresh 0 0 (!X.w.params.followText "set-order")) } := by rw [← hs3]
  have I3 : Inv X pins σ (upd H2 s2.heap.objs.size (TSO X.w s2.heap.objs.size [])) s3 := by
    rw [← hs3]
    exact I2.laid (t' := s2.toks) (fun b o q => Heap.get?_push_of_some _ q) (Nat.le_refl _) new.ok
  have lts : ∀ b ∈ fp, b < s2.heap.objs.size := fun b hb => let ⟨_, q, _⟩ := T.obj _ _ st2 b hb; Heap.lt_size q
  generalize hD : s2.heap.objs.size = D at *
  have st3 : tn 0 s3.heap := T.keep _ _ _ st2 fun b _ o q => by rw [h3]; exact Heap.get?_push_of_some _ q
  have f3 : ∀ b ∈ fp, FpOk X pins (upd H2 D (TSO X.w D [])) b ∧ b < s3.heap.objs.size := fun b hb => by
    refine ⟨⟨?_, (f2 b hb).2⟩, ?_⟩
    · rw [upd_ne (Nat.ne_of_lt (lts b hb))]
      exact (f2 b hb).1
    · rw [h3, Heap.size_push, hD]
      exact Nat.lt_succ_of_lt (lts b hb)
  generalize hH3 : upd H2 D (TSO X.w D []) = H3 at I3 f3 w0
  have I4 := block_start I3 ok hN f3
  generalize hcl : cellsFrom (s3.heap.objs.size + 1) sc.names (cloFrom X.env.cells sc.names []) = cl at I4
  have pg := hg s3 H3 s3.heap.objs.size cl fp
  have pi1 := hi1 s3 H3 s3.heap.objs.size cl fp
  have pg1 := hg1 s3 H3 s3.heap.objs.size cl fp
  have pe := he s3 H3 s3.heap.objs.size cl fp
  show codeAny _ _ (.compStart (sc2 e t0 i0 t1 i1 sc p) 0 (.ref it) (.ref D) (compEnvC sc cl s3.heap.objs.size X.env)) _ { s3 with heap := pushCells (s3.heap.push { cls := .type "dict", data := .dict #[] }) sc.names }
  have cL : (compEnvC sc cl s3.heap.objs.size X.env).locals = s3.heap.objs.size := rfl
  show codeAny _ _ _ (compPost (model X.prog X.w) X.A X.xe none _ (.ref D) s3.heap.objs.size) _
  generalize hce : compEnvC sc cl s3.heap.objs.size X.env = ce at I4 pg pi1 pg1 pe cL ⊢
  generalize hs4 : ({ s3 with heap := pushCells (s3.heap.push { cls := .type "dict", data := .dict #[] }) sc.names } : Shared) = s4 at I4 ⊢
  have st4 : tn 0 s4.heap := T.keep _ _ _ st3 fun b _ o q => by rw [← hs4]; exact pushCells_keeps _ _ _ _ (Heap.get?_push_of_some _ q)
  have stat : ∀ {σ' : L2.St} {H' : Hp} {s' : Shared}, Inv (X.blk s3 H3 sc ce fp) [] σ' H' s' → (∀ b ∈ fp, H' b = none) → ∀ b ∈ fp, FpOk (X.blk s3 H3 sc ce fp) [] H' b := fun {σ' H' s'} I' hn b hb =>
    have z := I'.ok.exf b hb
    ⟨hn b hb, z.1, I'.ok.exfs b hb, .inl hb, fun x c q => z.2 x c q, fun x hx => by
      have hx : x ∈ ([] : List (Addr × Obj)) ++ [] := hx
      simp at hx⟩
  have loop : codeAny (model X.prog X.w) X.A (.compLoop (sc2 e t0 i0 t1 i1 sc p) 0 (.ref it) (.ref D) ce) (compPost (model X.prog X.w) X.A X.xe none (fun v s1 => EP X pins σ Q v s1) (.ref D) s3.heap.objs.size) s4 := by
    refine clause_loop (Y := X.blk s3 H3 sc ce fp) hc rfl T pg rfl rfl den0 stat W (fun i n H5 w5 => ?_) I4 st4 (fun b hb => (f3 b hb).1.1) w0
    rcases turn i n H5 w5 with ⟨stop, qq⟩ | ⟨go, N, hN, step⟩
    · refine .inl ⟨stop, fun s6 I6 => ?_⟩
      have I7 : Inv X pins σ H5 s6 := I3.call' (ch := fp) I6.os I6.base I6.hok I6.bare fun b hb => by
        obtain ⟨⟨_, g1, g2, g3, g4, g5⟩, _⟩ := f3 b hb
        exact ⟨g3, g1, g4, g5⟩
      obtain ⟨m, hn, _⟩ := I6.loc
      have hn : s6.heap.Ns ce.locals m := hn
      have nC : H5 ce.locals = none := I6.free
      rw [cL] at hn nC
      obtain ⟨f0, f1, f2, f3, f4, f5⟩ := I3.fpOk (Nat.le_refl _) nC
      exact ⟨m, hn, fun h'' sb => ⟨.ref D, H5, I7.turned (t' := s6.toks) (fun b o hb q => (sb.2 b hb).trans q) f0 f1 f3 f4 f5, rfl, qq⟩⟩
    · refine .inr ⟨go, fun x H6 y6 => ⟨_, step x H6 y6, fun σ8 H8 q8 ps s8 I8 => ?_⟩⟩
      obtain ⟨hw8, q8⟩ := q8
      have hl8 : (wipe σ (own.map (·.2))).length = σ8.length := by rw [← hw8, wipe_length]
      have hk9 : ∀ (j : Nat) (v : V), (wipe σ (own.map (·.2)))[j]? = some (some v) → (wipe σ8 vs1)[j]? = some (some v) := fun j v q => by
        rw [← hw8] at q
        obtain ⟨e1, e2⟩ := wipe_some q
        rw [wipe_out fun z => e2 (hv j z)]
        exact e1
      unfold body0
      refine wpAny_bind (thnF (pi1.run _ s8 σ8 H8 _ I8 q8) fun xv1 s10 hx1 => wpAny_bind (wpAny_standAt (wpAny_bind (wpAny_of_eq (hs1 ce xv1) (wpAny_bind (wpAny_holding (thnF hx1 fun itv1 s11 h11 => ?_)))))))
      obtain ⟨it1, fp1, tn1, J1, H11, rfl, I11, T1, st11, f11, W1, ⟨m1, w1⟩, turn1⟩ := h11
      refine wpAny_bind (wpAny_runOwn ?_)
      rw [Around.mark_none]
      refine codeAny_mono (R := fun r s' => match r with
        | .ok _ => ∃ m, m < n ∧ ∃ H', W (i + 1) m H' ∧ Inv (X.blk s3 H3 sc ce fp) ([] ++ ps) (wipe σ8 vs1) H' s'
        | .error _ => False) ?_ fun r s' hr => ?_
      · have loop1 : codeAny (model X.prog X.w) X.A (.compLoop (sc2 e t0 i0 t1 i1 sc p) 1 (.ref it1) (.ref D) ce) (fun r s' => match r with
            | .ok _ => ∃ m, m < n ∧ ∃ H', W (i + 1) m H' ∧ Inv (X.blk s3 H3 sc ce fp) ([] ++ ps) (wipe σ8 vs1) H' s'
            | .error _ => False) s11 := by
          refine clause_loop (Y := X.blk s3 H3 sc ce fp) hc rfl T1 pg1 rfl rfl den1 (pins := [] ++ ps) (σ := wipe σ8 vs1) (fun {σ' H' s'} _ hn b hb => ⟨hn b hb, (f11 b hb).2⟩) W1 (fun j k H12 w12 => ?_) (I11.weak (wipe_length _ _) fun j v q => (wipe_some q).1) st11 (fun b hb => (f11 b hb).1) w1
          rcases turn1 j k H12 w12 with ⟨stop1, nx1⟩ | ⟨go1, N1, hN1, step1⟩
          · obtain ⟨m', hm, w'⟩ := hN _ nx1
            exact .inl ⟨stop1, fun s13 I13 => ⟨m', hm, H12, w', I13⟩⟩
          · refine .inr ⟨go1, fun x1 H14 y14 => ⟨_, step1 x1 H14 y14, fun σ15 H15 q15 ps1 s15 I15 => ?_⟩⟩
            obtain ⟨hw15, q15⟩ := q15
            unfold body1
            refine wpAny_bind (wpAny_bind (thnF (pe.run _ s15 σ15 H15 _ I15 q15) fun z s16 h16 => wpAny_bind (wpAny_standAt (wpAny_bind ?_))))
            obtain ⟨y, H16, I16, r16, zt, ks, rfl, hD16, room, nx⟩ := h16
            obtain ⟨tok, rfl⟩ := r16
            refine tso_add (X := X.blk s3 H3 sc ce fp) I16 hD16 room fun s17 I17 => wpAny_pure (wpAny_pure ⟨rfl, ?_⟩)
            obtain ⟨k', hk', wk⟩ := hN1 _ nx
            refine ⟨σ15, _, k', hk', wk, I17, by rw [← wipe_length σ15 vs1, hw15], fun j v q => ?_⟩
            rw [← hw15] at q
            exact (wipe_some q).1
        exact sc2_start 1 (.inr rfl) loop1 (T1.self X.A 0 _ _ _ st11 loop1)
      · cases r with
        | ok f =>
          obtain ⟨m', hm, H', w', I'⟩ := hr
          have fin : ∃ σ3 H3' m, m < n ∧ W (i + 1) m H3' ∧ Inv (X.blk s3 H3 sc ce fp) ([] ++ ps) σ3 H3' s' ∧ (wipe σ (own.map (·.2))).length = σ3.length ∧ ∀ (j : Nat) (v : V), (wipe σ (own.map (·.2)))[j]? = some (some v) → σ3[j]? = some (some v) :=
            ⟨wipe σ8 vs1, H', m', hm, w', I', by rw [wipe_length σ8 vs1]; exact hl8, hk9⟩
          first
            | exact wpAny_pure ⟨rfl, fin⟩
            | exact wpAny_bind (wpAny_pure (wpAny_pure ⟨rfl, fin⟩))
        | error q => exact hr.elim
  exact sc2_start 0 (.inl rfl) loop (T.self X.A 0 _ _ _ st4 loop)
end
end Ro

/-! RoCells: cells_in. -/
namespace Ro
open PySem PySem.Spec PyProof.Rows L2

theorem putT_nodup {ks : List Str} {z : Str} (h : ks.Nodup) : (putT ks z).Nodup := by
  unfold putT
  split
  · exact h
  · rename_i n
    exact nd_snoc h n
theorem putT_sub {ks U : List Str} {z : Str} (h : ∀ c ∈ ks, c ∈ U) (hz : z ∈ U) : ∀ c ∈ putT ks z, c ∈ U := by
  unfold putT
  split
  · exact h
  · intro c hc
    rcases List.mem_append.mp hc with hc | hc
    · exact h c hc
    · rw [List.mem_singleton.mp hc]; exact hz
section
variable {P : Program} {w : World} {K : PySem.W.Frag} {mg : Str → Option Value} {base : Heap}
def spCellsIn : Sp := fun vs H Q _ => ∃ (v : V) (F : Fm) (U : List Str), vs = [v] ∧ Tv H v (encF F) ∧ FmOk F ∧ (∀ l ∈ F, ∀ c ∈ cells l, c ∈ U) ∧ U.length ≤ 1000 ∧ ∀ (p : Addr) (H' : Hp) (xs : List V), Kp Nil H H' → Pt H' p xs → xs.length ≤ U.length → Q (.ref p) H'
theorem ok_cells_in (D : Df K mg "cells_in" s_cells_in p_cells_in) (T : Bu mg) : Ok P w K mg base 1 "cells_in" p_cells_in spCellsIn := by
  refine D.ok sc_cells_in (fun vs H Q E h => ?_) fun f cdv A outer s H vs Q E hr h => ?_
  · obtain ⟨v, F, U, rfl, _⟩ := h
    rfl
  · obtain ⟨v, F, U, rfl, hv, hF, hU, hUl, q⟩ := h
    have hu := hr.units
    obtain ⟨a, xs, rfl, hp, hT⟩ := hv.tuple
    refine ⟨_, pss_one (ps_ret (pe_callTy (tupQ K) (by rfl) T.tuple bt_tuple (pa_cons (pe_callB (cr_sortT rfl hu) (by rfl) T.sorted bt_sorted (pa_cons
      (pe_sc2 (own := [("log", 1), ("cell", 2), ("value", 3)]) (vs1 := [2, 3]) (g := gName 1) (wi1 := iTup K (tVar 1)) (g1 := gTup K 2 (gCons (gName 2) (gCons (gName 3) gNil))) rfl sc_cells_in.nd (pi_tup (pv 0)) (blkOk_by (N := n_cells_in) (sc := defScope s_cells_in) (by decide +kernel)) (by decide)
        (fun _ _ _ _ _ => pg_name (i := 1) sc_cells_in.nd rfl (.inl rfl)) (fun _ _ _ _ _ => pi_tup (pv 1))
        (fun _ _ _ _ _ => pg_tup rfl (pgs_cons (pg_name (i := 2) sc_cells_in.nd rfl (.inl rfl)) (pgs_cons (pg_name (i := 3) sc_cells_in.nd rfl (.inl rfl)) pgs_nil)))
        (fun _ _ _ _ _ => pv 2)) pa_nil)) pa_nil))), ?_⟩
    refine ⟨_, rfl, a, rfl, ⟨xs, hp.sqt⟩, fun D nD => ?_⟩
    have len_ok : ∀ {ks : List Str}, ks.Nodup → (∀ c ∈ ks, c ∈ U) → ks.length ≤ U.length := fun h1 h2 => len_le_of_sub h1 h2
    refine ⟨fun i m H1 => m = xs.length - i ∧ i ≤ xs.length ∧ Kp Nil H H1 ∧ ∃ ks, H1 D = some (TSO w D ks) ∧ ks.Nodup ∧ ∀ c ∈ ks, c ∈ U, ⟨_, rfl, Nat.zero_le _, Kp.new Kp.refl nD, [], upd_same, List.nodup_nil, fun c hc => by cases hc⟩, ?_⟩
    rintro i m H1 ⟨rfl, hi, k1, ks, e1, hn, hs⟩
    have wk := walk_tup (K := K) (a := a) (xs := xs)
    by_cases hlt : i < xs.length
    · refine .inr ⟨wk.goes i H1 hlt (hp.keep k1).sqt, _, fun H' z => ⟨xs.length - (i + 1), by omega, rfl, hlt, z⟩, fun x H2 y2 => ?_⟩
      obtain ⟨rfl, hx⟩ := wk.yields i H1 x H2 hlt (hp.keep k1).sqt y2
      obtain ⟨l, hl, tv⟩ := hT.at hx
      obtain ⟨b, ps, rfl, hpl, hTl⟩ := (tv.keep k1).tuple
      have wk2 := walk_tup (K := K) (a := b) (xs := ps)
      refine ⟨rfl, _, rfl, b, rfl, ⟨ps, hpl.sqt⟩, ?_⟩
      refine ⟨fun j k H3 => k = ps.length - j ∧ j ≤ ps.length ∧ Kp Nil H H3 ∧ Pt H3 b ps ∧ TvAll H3 ps (l.map encP) ∧ ∃ ks, H3 D = some (TSO w D ks) ∧ ks.Nodup ∧ ∀ c ∈ ks, c ∈ U, ⟨_, rfl, Nat.zero_le _, k1, hpl, hTl, ks, e1, hn, hs⟩, ?_⟩
      rintro j k H3 ⟨rfl, hj, k3, hp3, hT3, ks3, e3, hn3, hs3⟩
      by_cases hlt2 : j < ps.length
      · refine .inr ⟨wk2.goes j H3 hlt2 hp3.sqt, _, fun H' z => ⟨ps.length - (j + 1), by omega, rfl, hlt2, z⟩, fun x H4 y4 => ?_⟩
        obtain ⟨rfl, hx2⟩ := wk2.yields j H3 x H4 hlt2 hp3.sqt y4
        obtain ⟨⟨c, v⟩, hpr, tvp⟩ := hT3.at hx2
        obtain ⟨bp, rfl, hbp⟩ := TvAll.inv_pairs tvp
        have hc : c ∈ U := hU l (List.mem_of_getElem? hl) c (List.mem_map.mpr ⟨_, List.mem_of_getElem? hpr, rfl⟩)
        refine ⟨bp, _, rfl, hbp.sqt, rfl, _, _, rfl, _, _, rfl, rfl, rfl, _, rfl, c, ks3, rfl, e3, ?_, ?_⟩
        · have := len_ok hn3 hs3
          unfold scanBound; omega
        · have ko : Kp (One D) H4 (upd H4 D (TSO w D (putT ks3 c))) := Kp.own Kp.refl rfl fun u v z => by rw [e3] at z; cases z
          exact ⟨Kp.mut k3 nD, hp3.keep ko, hT3.keep ko, _, upd_same, putT_nodup hn3, putT_sub hs3 hc⟩
      · have e : j = ps.length := by omega
        subst e
        exact .inl ⟨wk2.stops H3 hp3.sqt, k3, ks3, e3, hn3, hs3⟩
    · have e : i = xs.length := by omega
      subst e
      have hl := len_ok hn hs
      refine .inl ⟨wk.stops H1 (hp.keep k1).sqt, D, ks, rfl, e1, by unfold scanBound; omega, fun p zs np hz => ⟨p, zs, rfl, SqL.of upd_same, fun r o nr hc hd => ?_⟩⟩
      exact q r _ zs (k1.trans ((Kp.new Kp.refl np).new nr)) (Pt.new hc hd) (by omega)
end
end Ro

/-! RoKeyed: a dict whose keys are nested tuples, whose values are ints. -/
namespace Ro
open PySem PySem.Spec PyProof.Rows L2

abbrev NE := NestedKey × Addr × Int
/-- the entries as they stand -/
abbrev EntryIs (x : NE) (y : NestedKey × Addr × Value) : Prop := y.1 = x.1 ∧ y.2.1 = x.2.1 ∧ ∃ t, y.2.2 = Value.int x.2.2 t
def NOf (P : Program) (w : World) (h : Heap) (d : Addr) (xs : List NE) : Prop := (d == sysModules) = false ∧ ∃ ys : List (NestedKey × Addr × Value), Paired EntryIs xs ys ∧
  ∃ o es ep, h.get? d = some o ∧ o.ExactDict ∧ o.data = .dict es ep ∧ es.toList = ys.map (entryOfKey (nestedKind P w)) ∧ (ys.map (·.1)).Nodup
def ND (P : Program) (w : World) (d : Addr) (xs : List NE) : HO := .ext fun h => NOf P w h d xs
def nval (xs : List NE) (k : NestedKey) : Option Int := (xs.find? fun x => decide (x.1 = k)).map (·.2.2)
def nset (k : NestedKey) (i : Int) (x : NE) : NE := if x.1 = k then (x.1, x.2.1, i) else x
def nput (xs : List NE) (k : NestedKey) (a : Addr) (i : Int) : List NE := if (nval xs k).isSome then xs.map (nset k i) else xs ++ [(k, a, i)]
/-- at a stands the key k -/
def NKey (H : Hp) (k : NestedKey) (a : Addr) : Prop := Tv H (.ref a) k.data ∧ k.depth ≤ 8
def NKeys (H : Hp) (xs : List NE) : Prop := ∀ x ∈ xs, NKey H x.1 x.2.1
theorem NKey.keep {S : Addr → Prop} {H H' : Hp} {k : NestedKey} {a : Addr} (h : NKey H k a) (q : Kp S H H') : NKey H' k a := ⟨h.1.keep q, h.2⟩
theorem NKeys.keep {S : Addr → Prop} {H H' : Hp} {xs : List NE} (h : NKeys H xs) (q : Kp S H H') : NKeys H' xs := fun x hx => (h x hx).keep q
theorem NKeys.nil (H : Hp) : NKeys H [] := fun x hx => by cases hx
theorem NKeys.put {H : Hp} {xs : List NE} {k : NestedKey} {a : Addr} {i : Int} (h : NKeys H xs) (hk : NKey H k a) : NKeys H (nput xs k a i) := by
  unfold nput
  split
  · intro x hx
    obtain ⟨y, hy, rfl⟩ := List.mem_map.mp hx
    unfold nset
    split
    · exact h y hy
    · exact h y hy
  · intro x hx
    rcases List.mem_append.mp hx with hx | hx
    · exact h x hx
    · rw [List.mem_singleton.mp hx]; exact hk
theorem nput_length (xs : List NE) (k : NestedKey) (a : Addr) (i : Int) : (nput xs k a i).length ≤ xs.length + 1 := by
  unfold nput
  split
  · rw [List.length_map]; omega
  · rw [List.length_append]; simp
theorem find_pair {xs : List NE} {ys : List (NestedKey × Addr × Value)} (h : Paired EntryIs xs ys) (k : NestedKey) : (nval xs k = none ∧ atKey ys k = none) ∨ ∃ i a t, nval xs k = some i ∧ atKey ys k = some (a, Value.int i t) := by
  induction h with
  | nil => exact .inl ⟨rfl, rfl⟩
  | @cons x y _ _ h _ ih =>
    obtain ⟨k1, a, i⟩ := x
    obtain ⟨k2, b, v⟩ := y
    obtain ⟨e1, e2, t, e3⟩ := h
    have e1 : k2 = k1 := e1
    have e3 : v = .int i t := e3
    subst e1 e3
    unfold nval atKey at ih ⊢
    by_cases c : k2 = k
    · exact .inr ⟨i, b, t, by rw [List.find?_cons_of_pos (by simpa using c)]; rfl, by rw [List.find?_cons_of_pos (by simpa using c)]; rfl⟩
    · rw [List.find?_cons_of_neg (by simpa using c), List.find?_cons_of_neg (by simpa using c)]
      exact ih
theorem put_pair {xs : List NE} {ys : List (NestedKey × Addr × Value)} (h : Paired EntryIs xs ys) (k : NestedKey) (a : Addr) (i : Int) (t : Tok) : Paired EntryIs (nput xs k a i) (storedH ys k a (.int i t)) := by
  unfold nput storedH
  have app : ∀ {xs : List NE} {ys : List (NestedKey × Addr × Value)}, Paired EntryIs xs ys → Paired EntryIs (xs ++ [(k, a, i)]) (ys ++ [(k, a, .int i t)]) := fun h => by
    induction h with
    | nil => exact .cons ⟨rfl, rfl, t, rfl⟩ .nil
    | cons h _ ih => exact .cons h ih
  have mp : ∀ {xs : List NE} {ys : List (NestedKey × Addr × Value)}, Paired EntryIs xs ys → Paired EntryIs (xs.map (nset k i)) (ys.map (putAt k (.int i t))) := fun h => by
    induction h with
    | nil => exact .nil
    | @cons x y _ _ h _ ih =>
      refine .cons ?_ ih
      obtain ⟨e1, e2, t', e3⟩ := h
      unfold nset putAt
      by_cases c : x.1 = k
      · rw [if_pos c, if_pos (e1.trans c)]
        exact ⟨e1, e2, t, rfl⟩
      · rw [if_neg c, if_neg fun z => c (e1.symm.trans z)]
        exact ⟨e1, e2, t', e3⟩
  rcases find_pair h k with ⟨e1, e2⟩ | ⟨j, b, u, e1, e2⟩
  · rw [e1, e2]
    exact app h
  · rw [e1, e2]
    exact mp h
section
variable {X : Cx} {pins : List (Addr × Obj)} {σ : L2.St} {H : Hp} {s : Shared}
mutual
theorem nested_is (I : Inv X pins σ H s) : ∀ (k : NestedKey) (v : V) (u : Value), Tv H v k.data → L2.RelV v u → NestedIs s.heap k u
  | .none, _, _, h, _ => by
    rw [NestedKey.data] at h
    cases h
  | .num i, _, _, h, r => by
    rw [NestedKey.data] at h
    rw [h.inv_int] at r
    obtain ⟨t, rfl⟩ := r
    exact .int i t
  | .text z, _, _, h, r => by
    rw [NestedKey.data] at h
    rw [h.inv_str] at r
    obtain ⟨t, rfl⟩ := r
    exact .text z t
  | .tup ks, _, _, h, r => by
    rw [NestedKey.data] at h
    obtain ⟨a, xs, rfl, hp, ht⟩ := h.inv
    cases r
    obtain ⟨its, rv, ⟨o, e1, e2, n, e3⟩, _⟩ := I.tuple hp.sqt
    exact .tup e1 e2 e3 (by simpa using nested_all I ks xs its ht rv)
theorem nested_all (I : Inv X pins σ H s) : ∀ (ks : List NestedKey) (vs : List V) (us : List Value), TvAll H vs (NestedKey.datas ks) → L2.Vals vs us → NestedAll s.heap ks us
  | [], _, _, h, r => by
    rw [NestedKey.datas] at h
    cases h
    cases r
    exact .nil
  | k :: ks, _, _, h, r => by
    rw [NestedKey.datas] at h
    cases h with
    | cons h1 h2 =>
      cases r with
      | cons r1 r2 => exact .cons (nested_is I k _ _ h1 r1) (nested_all I ks _ _ h2 r2)
end
theorem NKey.is (I : Inv X pins σ H s) {k : NestedKey} {a : Addr} (h : NKey H k a) : (nestedKind X.prog X.w).is s.heap k a := ⟨nested_is I k _ _ h.1 rfl, h.2⟩
theorem NOf.got (I : Inv X pins σ H s) {d : Addr} {xs : List NE} (e : H d = some (ND X.prog X.w d xs)) (hk : NKeys H xs) : (d == sysModules) = false ∧ ∃ ys, Paired EntryIs xs ys ∧ s.heap.DictOfH (nestedKind X.prog X.w) d ys := by
  obtain ⟨⟨hd, ys, hp, o, es, ep, e1, e2, e3, e4, e5⟩, rest⟩ := I.hok d _ e
  refine ⟨hd, ys, hp, o, es, ep, e1, e2, e3, e4, ?_, e5⟩
  clear e4 e5 e e3 rest
  induction hp with
  | nil => intro y hy; cases hy
  | @cons x y _ _ h _ ih =>
    intro z hz
    rcases List.mem_cons.mp hz with rfl | hz
    · have := (hk x List.mem_cons_self).is I
      rw [h.1, h.2.1]; exact this
    · exact ih (fun x hx => hk x (List.mem_cons_of_mem _ hx)) z hz
theorem NOf.ok {P : Program} {w : World} {H : Hp} {h : Heap} {d : Addr} {xs : List NE} (x : NOf P w h d xs) : ObjOk P w H h d (ND P w d xs) := by
  obtain ⟨_, _, _, o, _, _, e, _⟩ := id x
  exact ⟨x, ⟨o, e⟩, fun h1 h2 ⟨hd, ys, hp, o, es, ep, e1, r⟩ k => ⟨hd, ys, hp, o, es, ep, k _ e1, r⟩⟩
theorem NOf.of {P : Program} {w : World} {h : Heap} {d : Addr} {xs : List NE} {ys : List (NestedKey × Addr × Value)} (hd : (d == sysModules) = false) (hp : Paired EntryIs xs ys) (x : h.DictOfH (nestedKind P w) d ys) : NOf P w h d xs :=
  let ⟨o, es, ep, e1, e2, e3, e4, _, e5⟩ := x; ⟨hd, ys, hp, o, es, ep, e1, e2, e3, e4, e5⟩
end
section
variable {X : Cx}
/-- {}, whose keys will be such -/
def tNewN (P : Program) (w : World) : TE := fun _ H Q => ∀ p, H p = none → Q (.ref p) (upd H p (ND P w p []))
theorem pe_newN {pos : Pos} : PE X (.Dict [] [] pos) (tNewN X.prog X.w) := ⟨fun pins s σ H Q I h => by
  have hd : (s.heap.objs.size == sysModules) = false := beq_eq_false_iff_ne.mpr (Nat.ne_of_gt I.big)
  refine wpAny_Dict_empty ⟨.ref s.heap.objs.size, _, I.laid (t' := s.toks) (fun _ _ q => Heap.get?_push_of_some _ q) (Nat.le_refl _) (NOf.ok (NOf.of hd .nil (Heap.DictOfH.new s.heap))), rfl, h _ (I.hok.fresh (Nat.le_refl _))⟩⟩
/-- k not in d -/
def rNotInN (P : Program) (w : World) : R2 := fun x y H Q => ∃ a d xs k, x = .ref a ∧ y = .ref d ∧ H d = some (ND P w d xs) ∧ NKeys H xs ∧ NKey H k a ∧ Q (.bl (!(nval xs k).isSome)) H
theorem op_notInN (hu : X.A.units + 64 < cLine) : OpR X (compareOp .NotIn) (rNotInN X.prog X.w) := by
  intro pins s σ H x y v u Q I rx ry ⟨a, d, xs, k, ex, ey, e, hks, hk, q⟩
  subst ex ey
  cases rx
  cases ry
  obtain ⟨hd, ys, hp, D⟩ := NOf.got I e hks
  refine wpAny_notIn_heap (knd := nestedKind X.prog X.w) (by show X.A.units + 1 + 8 < cLine; omega) (hk.is I) hd D ?_
  rcases find_pair hp k with ⟨e1, e2⟩ | ⟨i, b, t, e1, e2⟩
  · rw [e2]; rw [e1] at q
    exact ⟨.bl _, H, I.tok _, rfl, q⟩
  · rw [e2]; rw [e1] at q
    exact ⟨.bl _, H, I.tok _, rfl, q⟩
/-- d[k] -/
def rIxN (P : Program) (w : World) : R2 := fun x y H Q => ∃ d a xs k i, x = .ref d ∧ y = .ref a ∧ H d = some (ND P w d xs) ∧ NKeys H xs ∧ NKey H k a ∧ nval xs k = some i ∧ Q (.int i) H
theorem ix_N (hu : X.A.units + 64 < cLine) : IxR X (rIxN X.prog X.w) := by
  intro value slice pins s σ H x y v u Q I rx ry h hs
  obtain ⟨d, a, xs, k, i, ex, ey, e, hks, hk, hv, q⟩ := h
  subst ex ey
  cases rx
  cases ry
  obtain ⟨hd, ys, hp, D⟩ := NOf.got I e hks
  rcases find_pair hp k with ⟨e1, e2⟩ | ⟨j, b, t, e1, e2⟩
  · rw [e1] at hv; cases hv
  · rw [e1] at hv; cases hv
    have fin : EP X pins σ Q (.int i t) { s with toks := s.toks + (nestedKind X.prog X.w).draws k } := ⟨.int i, H, I.tok _, ⟨t, rfl⟩, q⟩
    exact subscriptTail_builtinR (x := .int i t) D.typeIs F.slot_dict_getitem.lookup
      (wpAny_getItem_heap (knd := nestedKind X.prog X.w) (Q := fun r s' => r = Value.int i t ∧ EP X pins σ Q r s') (by show X.A.units + 1 + 8 < cLine; omega) (hk.is I) D e2 ⟨rfl, fin⟩) hs
/-- d[k] = i -/
def sPutN (P : Program) (w : World) : TSet := fun o k v H Q => ∃ d a xs i n, o = .ref d ∧ k = .ref a ∧ v = .int i ∧ H d = some (ND P w d xs) ∧ NKeys H xs ∧ NKey H n a ∧ xs.length < sizeLine ∧ Q (upd H d (ND P w d (nput xs n a i)))
theorem ps_putN (hu : X.A.units + 64 < cLine) : PSet X (sPutN X.prog X.w) := by
  intro pins s σ H o k v ov iv u Q I ro rk rv h
  obtain ⟨d, a, xs, i, n, eo, ek, ev, e, hks, hk, hl, q⟩ := h
  subst eo ek ev
  cases ro
  cases rk
  obtain ⟨t, rfl⟩ := rv
  obtain ⟨hd, ys, hp, D⟩ := NOf.got I e hks
  refine wpAny_setItem_heap (knd := nestedKind X.prog X.w) (by show X.A.units + 1 + 8 < cLine; omega) (hk.is I) D (fun h' D' hs => ?_) (by rw [← Paired.length hp]; omega)
  have he : ∃ q, h'.get? d = some q := let ⟨q, _, _, hq, _⟩ := D'; ⟨q, hq⟩
  exact ⟨_, d_write I (by rw [e]; exact True.intro) hs he (NOf.ok (NOf.of hd (put_pair hp n a i t) D')), q⟩
end
end Ro

/-! RoCount1: the keys of ReaderCount's dict; what it holds. -/
namespace Ro
open PySem PySem.Spec PyProof.Rows L2

/-! ### sorted names -/
abbrev leS : Str → Str → Bool := PySem.W.dataLe false PyData.str
theorem leS_eq : leS = fun a b => decide (a.cps.toList ≤ b.cps.toList) := PySem.W.dataLe_str fun b : Str => b
theorem leS_anti {a b : Str} (h : leS a b = true) (h' : leS b a = true) : a = b := by
  rw [leS_eq] at h h'
  have e := List.le_antisymm (of_decide_eq_true h) (of_decide_eq_true h')
  have e : a.cps = b.cps := Array.toList_inj.mp e
  cases a
  cases b
  exact congrArg Str.mk e
def sd (ds : List Str) : List Str := ds.mergeSort leS
theorem sd_perm (ds : List Str) : (sd ds).Perm ds := List.mergeSort_perm _ _
theorem sd_sorted (ds : List Str) : (sd ds).Pairwise fun a b => leS a b = true := by
  refine List.pairwise_mergeSort ?_ ?_ ds
  · intro a b c h1 h2
    rw [leS_eq] at *
    exact decide_eq_true (List.le_trans (of_decide_eq_true h1) (of_decide_eq_true h2))
  · intro a b
    rw [leS_eq, Bool.or_eq_true, decide_eq_true_eq, decide_eq_true_eq]
    exact List.le_total _ _
theorem sorted_eq : ∀ {a b : List Str}, a.Pairwise (fun a b => leS a b = true) → b.Pairwise (fun a b => leS a b = true) → a.Perm b → a = b
  | [], b, _, _, p => (List.nil_perm.mp p).symm
  | x :: a, [], _, _, p => absurd (List.perm_nil.mp p) (by simp)
  | x :: a, y :: b, ha, hb, p => by
    have ha' := List.pairwise_cons.mp ha
    have hb' := List.pairwise_cons.mp hb
    have e : x = y := by
      by_cases e : x = y
      · exact e
      · have h1 : x ∈ b := (List.mem_cons.mp (p.mem_iff.mp List.mem_cons_self)).resolve_left e
        have h2 : y ∈ a := (List.mem_cons.mp (p.mem_iff.mpr List.mem_cons_self)).resolve_left (Ne.symm e)
        exact leS_anti (ha'.1 y h2) (hb'.1 x h1)
    subst e
    rw [sorted_eq ha'.2 hb'.2 (List.Perm.cons_inv p)]

/-! ### the keys -/
def kL (l : Lg) : NestedKey := .tup (l.map fun p => .tup [.text p.1, .num p.2])
def kS (ds : List Str) : NestedKey := .tup (ds.map .text)
def kk (l : Lg) (ds : List Str) : NestedKey := .tup [kL l, kS ds]
theorem kL_datas : ∀ l : Lg, NestedKey.datas (l.map fun p => NestedKey.tup [.text p.1, .num p.2]) = l.map encP
  | [] => by simp [NestedKey.datas]
  | p :: r => by rw [List.map_cons, NestedKey.datas, kL_datas r]; simp [NestedKey.data, NestedKey.datas, encP]
theorem kL_data (l : Lg) : (kL l).data = encL l := by
  unfold kL
  rw [NestedKey.data, kL_datas]; rfl
theorem kS_datas : ∀ ds : List Str, NestedKey.datas (ds.map NestedKey.text) = ds.map PyData.str
  | [] => by simp [NestedKey.datas]
  | p :: r => by rw [List.map_cons, NestedKey.datas, kS_datas r]; simp [NestedKey.data]
theorem kS_data (ds : List Str) : (kS ds).data = .tuple (ds.map .str) := by
  unfold kS
  rw [NestedKey.data, kS_datas]
theorem kk_data (l : Lg) (ds : List Str) : (kk l ds).data = .tuple [encL l, .tuple (ds.map .str)] := by
  unfold kk
  rw [NestedKey.data, NestedKey.datas, NestedKey.datas, NestedKey.datas, kL_data, kS_data]
theorem kd_all {β : Type} {f : β → NestedKey} {n : Nat} : ∀ {l : List β}, (∀ x ∈ l, (f x).depth ≤ n) → NestedKey.depthAll (l.map f) ≤ n
  | [], _ => by simp [NestedKey.depthAll]
  | x :: r, h => by
    rw [List.map_cons, NestedKey.depthAll]
    exact Nat.max_le.mpr ⟨h x List.mem_cons_self, kd_all fun y hy => h y (List.mem_cons_of_mem _ hy)⟩
theorem kk_depth (l : Lg) (ds : List Str) : (kk l ds).depth ≤ 8 := by
  have h1 : (kL l).depth ≤ 2 := by
    unfold kL
    rw [NestedKey.depth]
    have := kd_all (f := fun p : Pr => NestedKey.tup [.text p.1, .num p.2]) (n := 1) (l := l) fun p _ => by simp [NestedKey.depth, NestedKey.depthAll]
    omega
  have h2 : (kS ds).depth ≤ 1 := by
    unfold kS
    rw [NestedKey.depth]
    have := kd_all (f := NestedKey.text) (n := 0) (l := ds) fun p _ => by simp [NestedKey.depth]
    omega
  unfold kk
  rw [NestedKey.depth, NestedKey.depthAll, NestedKey.depthAll, NestedKey.depthAll]
  omega
theorem kk_inj {l l' : Lg} {ds ds' : List Str} (h : kk l ds = kk l' ds') : l = l' ∧ ds = ds' := by
  unfold kk kL kS at h
  injection h with h
  injection h with h1 h
  injection h with h2 _
  injection h1 with h1
  injection h2 with h2
  have inj : ∀ {β : Type} {f : β → NestedKey}, (∀ x y, f x = f y → x = y) → ∀ {a b : List β}, a.map f = b.map f → a = b := fun {β f} hf {a b} => by
    induction a generalizing b with
    | nil => cases b <;> simp
    | cons x a ih =>
      cases b with
      | nil => simp
      | cons y b =>
        intro h
        rw [List.map_cons, List.map_cons] at h
        injection h with e1 e2
        rw [hf _ _ e1, ih e2]
  refine ⟨inj (fun x y e => ?_) h1, inj (fun x y e => by injection e) h2⟩
  obtain ⟨a, b⟩ := x
  obtain ⟨c, d⟩ := y
  injection e with e
  injection e with e1 e
  injection e with e2 _
  injection e1 with e1
  injection e2 with e2
  rw [show a = c from e1, show b = d from e2]

/-! ### how many keys there can be -/
def subs {β : Type} : List β → List (List β)
  | [] => [[]]
  | x :: r => subs r ++ (subs r).map (x :: ·)
theorem subs_length {β : Type} : ∀ l : List β, (subs l).length = 2 ^ l.length
  | [] => rfl
  | x :: r => by rw [subs, List.length_append, List.length_map, subs_length r, List.length_cons, Nat.pow_succ]; omega
theorem filter_subs {β : Type} (p : β → Bool) : ∀ l : List β, l.filter p ∈ subs l
  | [] => by simp [subs]
  | x :: r => by
    rw [subs, List.mem_append]
    have ih := filter_subs p r
    by_cases h : p x = true
    · rw [List.filter_cons_of_pos h]
      exact .inr (List.mem_map.mpr ⟨_, ih, rfl⟩)
    · rw [List.filter_cons_of_neg h]
      exact .inl ih
theorem flat_len {β γ : Type} {f : β → List γ} {n : Nat} : ∀ {l : List β}, (∀ x ∈ l, (f x).length ≤ n) → (l.flatMap f).length ≤ l.length * n
  | [], _ => by simp
  | x :: r, h => by
    have ih := flat_len (f := f) (l := r) fun y hy => h y (List.mem_cons_of_mem _ hy)
    have := h x List.mem_cons_self
    rw [List.flatMap_cons, List.length_append, List.length_cons, Nat.succ_mul]; omega
theorem map_nodup {β γ : Type} {f : β → γ} : ∀ {l : List β}, l.Nodup → (∀ x ∈ l, ∀ y ∈ l, f x = f y → x = y) → (l.map f).Nodup
  | [], _, _ => List.nodup_nil
  | x :: r, hn, h => by
    have hn' := List.nodup_cons.mp hn
    refine List.nodup_cons.mpr ⟨fun z => ?_, map_nodup hn'.2 fun a ha b hb => h a (List.mem_cons_of_mem _ ha) b (List.mem_cons_of_mem _ hb)⟩
    obtain ⟨y, hy, e⟩ := List.mem_map.mp z
    exact hn'.1 (h x List.mem_cons_self y (List.mem_cons_of_mem _ hy) e.symm ▸ hy)
/-- a key's log and names -/
structure GOf (R : Fm) (g : Lg × List Str) : Prop where
  mem : g.1 ∈ R
  sub : ∀ c ∈ g.2, c ∈ cells g.1
  nd : g.2.Nodup
  so : g.2.Pairwise fun a b => leS a b = true
theorem few_keys {R : Fm} {gs : List (Lg × List Str)} (hn : gs.Nodup) (h : ∀ g ∈ gs, GOf R g) (hR : R.length ≤ 60) (hc : ∀ l ∈ R, l.length ≤ 12) : gs.length ≤ 60 * 4096 := by
  have e : (gs.map fun g => (g.1, (cells g.1).filter fun c => decide (c ∈ g.2))).length ≤ (R.flatMap fun l => (subs (cells l)).map fun x => (l, x)).length := by
    refine len_le_of_sub (map_nodup hn fun x hx y hy e => ?_) fun z hz => ?_
    · obtain ⟨l, ds⟩ := x
      obtain ⟨m, es⟩ := y
      injection e with e1 e2
      have e1 : l = m := e1
      subst e1
      have a := h _ hx
      have b := h _ hy
      have : ds.Perm es := perm_of_mem a.nd b.nd fun c => by
        constructor
        · intro hc
          have : c ∈ (cells l).filter fun c => decide (c ∈ ds) := List.mem_filter.mpr ⟨a.sub c hc, decide_eq_true hc⟩
          rw [show (cells l).filter (fun c => decide (c ∈ ds)) = (cells l).filter (fun c => decide (c ∈ es)) from e2] at this
          exact of_decide_eq_true (List.mem_filter.mp this).2
        · intro hc
          have : c ∈ (cells l).filter fun c => decide (c ∈ es) := List.mem_filter.mpr ⟨b.sub c hc, decide_eq_true hc⟩
          rw [← show (cells l).filter (fun c => decide (c ∈ ds)) = (cells l).filter (fun c => decide (c ∈ es)) from e2] at this
          exact of_decide_eq_true (List.mem_filter.mp this).2
      exact congrArg (fun z => (l, z)) (sorted_eq a.so b.so this)
    · obtain ⟨g, hg, rfl⟩ := List.mem_map.mp hz
      exact List.mem_flatMap.mpr ⟨g.1, (h g hg).mem, List.mem_map.mpr ⟨_, filter_subs _ _, rfl⟩⟩
  rw [List.length_map] at e
  refine Nat.le_trans e (Nat.le_trans (flat_len (n := 4096) fun l hl => ?_) (Nat.mul_le_mul_right _ hR))
  rw [List.length_map, subs_length, List.length_map]
  exact Nat.pow_le_pow_right (by decide) (hc l hl)

/-! ### entries -/
theorem nval_none {xs : List NE} {k : NestedKey} (h : nval xs k = none) : k ∉ xs.map (·.1) := fun z => by
  obtain ⟨e, he, rfl⟩ := List.mem_map.mp z
  unfold nval at h
  have := List.find?_eq_none.mp (Option.map_eq_none_iff.mp h) e he
  simp at this
theorem nval_some {xs : List NE} {k : NestedKey} {i : Int} (h : nval xs k = some i) : ∃ e ∈ xs, e.1 = k ∧ e.2.2 = i := by
  unfold nval at h
  obtain ⟨e, he, q⟩ := Option.map_eq_some_iff.mp h
  have e1 : decide (e.1 = k) = true := List.find?_some (p := fun x : NE => decide (x.1 = k)) he
  exact ⟨e, List.mem_of_find?_eq_some he, of_decide_eq_true e1, q⟩
theorem nput_new {xs : List NE} {k : NestedKey} (h : nval xs k = none) (a : Addr) (i : Int) : nput xs k a i = xs ++ [(k, a, i)] := by
  unfold nput
  rw [h]; rfl
theorem nval_new {xs : List NE} {k : NestedKey} (h : nval xs k = none) (a : Addr) (i : Int) : nval (xs ++ [(k, a, i)]) k = some i := by
  unfold nval at h ⊢
  rw [List.find?_append, Option.map_eq_none_iff.mp h]
  simp
end Ro

/-! RoCount2: what the count is, node by node; ReaderCount's dict kept. -/
namespace Ro
open PySem PySem.Spec PyProof.Rows L2

/-! ### plain -/
theorem filter_split (p : Str → Bool) : ∀ l : List Str, (l.filter p).length + (l.filter fun x => !p x).length = l.length
  | [] => rfl
  | x :: r => by
    have ih := filter_split p r
    cases h : p x
    · rw [List.filter_cons_of_neg (by simp [h]), List.filter_cons_of_pos (by simp [h]), List.length_cons, List.length_cons]; omega
    · rw [List.filter_cons_of_pos (by simp [h]), List.filter_cons_of_neg (by simp [h]), List.length_cons, List.length_cons]; omega
theorem rem_len {l : Lg} {ds : List Str} (hl : (cells l).Nodup) (hn : ds.Nodup) (hs : ∀ c ∈ ds, c ∈ cells l) : rem l ds + ds.length = l.length := by
  have h := filter_split (fun c => decide (c ∉ ds)) (cells l)
  have p : ((cells l).filter fun x => !decide (x ∉ ds)).Perm ds := perm_of_mem (hl.filter _) hn fun c => by
    rw [List.mem_filter]
    constructor
    · rintro ⟨_, h⟩
      simpa using h
    · intro h
      exact ⟨hs c h, by simpa using h⟩
  rw [p.length_eq, List.length_map] at h
  exact h
theorem rem_set {l : Lg} {d1 d2 : List Str} (h : ∀ c, c ∈ d1 ↔ c ∈ d2) : rem l d1 = rem l d2 := by
  unfold rem
  congr 1
  refine List.filter_congr fun c _ => ?_
  rw [Bool.eq_iff_iff, decide_eq_true_eq, decide_eq_true_eq, h c]
theorem mem_snoc {ds : List Str} {c x : Str} : x ∈ ds ++ [c] ↔ x ∈ c :: ds := by simp [or_comm]
structure Root (R : Fm) : Prop where
  fm : FmOk R
  l12 : ∀ l ∈ R, l.length ≤ 12
structure Node (R F : Fm) (ds : List Str) (n : Nat) : Prop where
  fm : FmOk F
  aft : ∀ l ∈ F, F = after R l ds
  nd : ds.Nodup
  sub : ∀ c ∈ ds, ∀ l ∈ F, c ∈ cells l
  rem : ∀ l ∈ F, rem l ds ≤ n
  n12 : n ≤ 12
theorem Root.node {R : Fm} (h : Root R) : Node R R [] 12 :=
  ⟨h.fm, fun l _ => (after_nil R l).symm, List.nodup_nil, fun c hc => (by cases hc), fun l hl => by rw [rem_nil]; exact h.l12 l hl, Nat.le_refl _⟩
theorem Node.sub' {R F : Fm} {ds : List Str} {n : Nat} (h : Node R F ds n) {l : Lg} (hl : l ∈ F) : l ∈ R := by
  have e := h.aft l hl
  rw [e] at hl
  exact (List.mem_filter.mp hl).1
theorem Node.part {R F : Fm} {ds : List Str} {n : Nat} {c : Str} {v : Int} {vs : List Int} (h : Node R F ds (n + 1)) (hc : c ∈ unread F ds) (iv : IsVals F c vs) (hv : v ∈ vs) : Node R (part F c v) (ds ++ [c]) n := by
  obtain ⟨h1, h2⟩ := mem_unread.mp hc
  have hcc := mem_shared' h1
  obtain ⟨l0, hl0, e0⟩ := (iv.2 v).mp hv
  refine ⟨h.fm.filter _ (List.ne_nil_of_mem (mem_part.mpr ⟨hl0, e0⟩)), fun l hl => ?_, nd_snoc h.nd h2, fun x hx l hl => ?_, fun l hl => ?_, Nat.le_of_succ_le h.n12⟩
  · obtain ⟨hl1, e1⟩ := mem_part.mp hl
    have e := h.aft l hl1
    show F.filter _ = _
    rw [e]
    unfold after
    rw [List.filter_filter]
    refine List.filter_congr fun m _ => ?_
    rw [List.all_append, Bool.and_comm, List.all_cons, List.all_nil, Bool.and_true, e1]
  · have hl1 := (mem_part.mp hl).1
    rcases List.mem_append.mp hx with hx | hx
    · exact h.sub x hx l hl1
    · rw [List.mem_singleton.mp hx]; exact hcc l hl1
  · have hl1 := (mem_part.mp hl).1
    have := rem_lt (hcc l hl1) h2
    have := h.rem l hl1
    rw [rem_set (d2 := c :: ds) fun x => mem_snoc]
    omega
def nodeC (F : Fm) (ds : List Str) (c : Str) : Nat := prod ((vals F c).map fun v => C 16 (part F c v) (ds ++ [c]))
theorem Node.small {R F : Fm} {ds : List Str} {n : Nat} (h : Node R F ds n) : C 16 F ds ≤ fact 12 ^ F.length := by
  have r : ∀ l ∈ F, Ro.rem l ds ≤ 12 := fun l hl => Nat.le_trans (h.rem l hl) h.n12
  rw [C_any (m := 12) (fun l hl => Nat.le_trans (r l hl) (by decide)) r]
  exact C_le_pow h.fm.ne h.fm.nd r
theorem pow_small {k : Nat} (h : k ≤ 60) : fact 12 ^ k < 2 ^ 1800 := by
  have h1 : fact 12 ≤ 2 ^ 29 := by decide
  refine Nat.lt_of_le_of_lt (Nat.pow_le_pow_left h1 k) ?_
  rw [← Nat.pow_mul]
  exact Nat.pow_lt_pow_right (by decide) (by omega)
theorem Node.one {R : Fm} {l : Lg} {ds : List Str} {n : Nat} (h : Node R [l] ds n) : C 16 [l] ds = fact (l.length - ds.length) := by
  have hl : l ∈ [l] := by simp
  rw [C_one 16 l ds (h.fm.nd l hl) (Nat.le_trans (h.rem l hl) (Nat.le_trans h.n12 (by decide)))]
  have := rem_len (h.fm.nd l hl) h.nd fun c hc => h.sub c hc l hl
  congr 1
  omega
theorem Node.sum {R F : Fm} {ds : List Str} {n : Nat} (h : Node R F ds n) (h1 : F.length ≠ 1) : C 16 F ds = ((unread F ds).map (nodeC F ds)).sum := by
  have e : C 16 F ds = if F.length = 1 ∧ unread F ds = [] then 1 else ((unread F ds).map fun c => prod ((vals F c).map fun v => C 15 (Ro.part F c v) (c :: ds))).sum := rfl
  rw [e, if_neg fun z => h1 z.1]
  congr 1
  refine map_congr_mem fun c hc => ?_
  unfold nodeC
  congr 1
  refine map_congr_mem fun v hv => ?_
  have r : ∀ l ∈ Ro.part F c v, Ro.rem l (c :: ds) ≤ 12 := fun l hl => by
    have hl1 := (mem_part.mp hl).1
    obtain ⟨a, b⟩ := mem_unread.mp hc
    have := rem_lt (mem_shared' a l hl1) b
    have := h.rem l hl1
    have := h.n12
    omega
  rw [C_any (m := 16) (fun l hl => Nat.le_trans (r l hl) (by decide)) fun l hl => Nat.le_trans (r l hl) (by decide)]
  exact C_done 16 _ _ _ fun x => mem_snoc.symm
theorem Node.less {R F : Fm} {ds : List Str} {n : Nat} (h : Node R F ds n) (h1 : F.length ≠ 1) : ∀ c ∈ unread F ds, nodeC F ds c ≤ C 16 F ds := fun c hc => by
  rw [h.sum h1]
  exact le_sum hc
theorem node_vals {F : Fm} {ds : List Str} {c : Str} {vs : List Int} (iv : IsVals F c vs) : nodeC F ds c = prod (vs.map fun v => C 16 (part F c v) (ds ++ [c])) := (prod_vals iv _).symm
/-- the first factors of a product of counts stay small -/
theorem node_small {R F : Fm} {ds : List Str} {n : Nat} {c : Str} {vs : List Int} (h : Node R F ds (n + 1)) (hc : c ∈ unread F ds) (iv : IsVals F c vs) (i : Nat) : prod ((vs.take i).map fun v => C 16 (part F c v) (ds ++ [c])) < 2 ^ 1800 := by
  have hcc := mem_shared' (mem_unread.mp hc).1
  have h1 : prod ((vs.take i).map fun v => C 16 (part F c v) (ds ++ [c])) ≤ prod ((vs.take i).map fun v => fact 12 ^ (part F c v).length) := by
    have : ∀ l : List Int, (∀ v ∈ l, v ∈ vs) → prod (l.map fun v => C 16 (part F c v) (ds ++ [c])) ≤ prod (l.map fun v => fact 12 ^ (part F c v).length) := fun l => by
      induction l with
      | nil => intro _; exact Nat.le_refl _
      | cons v r ih =>
        intro hm
        rw [List.map_cons, List.map_cons, prod_cons, prod_cons]
        exact Nat.mul_le_mul (h.part hc iv (hm v List.mem_cons_self)).small (ih fun x hx => hm x (List.mem_cons_of_mem _ hx))
    exact this _ fun v hv => List.mem_of_mem_take hv
  have h2 : ∀ l : List Int, prod (l.map fun v => fact 12 ^ (part F c v).length) = fact 12 ^ ((l.map fun v => (part F c v).length).sum) := fun l => by
    induction l with
    | nil => rfl
    | cons v r ih => rw [List.map_cons, List.map_cons, prod_cons, List.sum_cons, ih, Nat.pow_add]
  rw [h2] at h1
  have h3 : ((vs.take i).map fun v => (part F c v).length).sum ≤ F.length := by
    have e := iv.sum hcc
    rw [List.map_map] at e
    have e : (vs.map fun v => (part F c v).length).sum = F.length := e
    rw [← e, ← List.take_append_drop i vs, List.map_append, List.sum_append, List.take_append_drop]
    omega
  exact Nat.lt_of_le_of_lt (Nat.le_trans h1 (Nat.pow_le_pow_right (by decide) h3)) (pow_small h.fm.le)

/-! ### the dict of known counts -/
structure Known (P : Program) (w : World) (H : Hp) (d : Addr) (R : Fm) (xs : List NE) (gs : List (Lg × List Str)) : Prop where
  at_ : H d = some (ND P w d xs)
  keys : NKeys H xs
  ks : xs.map (·.1) = gs.map fun g => kk g.1 g.2
  nd : gs.Nodup
  of : ∀ g ∈ gs, GOf R g
  ok : ∀ e ∈ xs, ∃ l ds, e.1 = kk l ds ∧ e.2.2 = ((C 16 (after R l ds) ds : Nat) : Int)
abbrev kcF (d : Addr) : List (Str × V) := [("known_counts", .ref d)]
def Cache (P : Program) (w : World) (Cc : Addr) (H : Hp) (x d : Addr) (R : Fm) : Prop := (∃ dx, H x = some (.ins Cc dx (kcF d))) ∧ ∃ xs gs, Known P w H d R xs gs
section
variable {P : Program} {w : World} {Cc x d : Addr} {H H' : Hp} {R : Fm} {S : Addr → Prop}
theorem Known.keep {xs : List NE} {gs : List (Lg × List Str)} (h : Known P w H d R xs gs) (k : Kp S H H') (sd : ¬ S d) : Known P w H' d R xs gs := ⟨k.keep _ _ h.at_ sd, h.keys.keep k, h.ks, h.nd, h.of, h.ok⟩
theorem Cache.keep (h : Cache P w Cc H x d R) (k : Kp S H H') (sx : ¬ S x) (sd : ¬ S d) : Cache P w Cc H' x d R :=
  let ⟨⟨dx, e⟩, xs, gs, q⟩ := h; ⟨⟨dx, k.keep _ _ e sx⟩, xs, gs, q.keep k sd⟩
theorem Cache.keep0 (h : Cache P w Cc H x d R) (k : Kp Nil H H') : Cache P w Cc H' x d R := h.keep k (fun z => z) fun z => z
theorem Cache.there (h : Cache P w Cc H x d R) : ∃ o, H d = some o := let ⟨_, _, _, q⟩ := h; ⟨_, q.at_⟩
theorem Cache.inst (h : Cache P w Cc H x d R) : ∃ dx, H x = some (.ins Cc dx (kcF d)) := h.1
theorem Cache.xd (h : Cache P w Cc H x d R) : x ≠ d := by
  obtain ⟨⟨dx, e⟩, xs, gs, q⟩ := h
  exact ne_of e q.at_ (by intro z; cases z)
theorem Cache.atD {D : Addr} {ys zs : List V} (e : H D = Option.some (.lst ys)) (h : Cache P w Cc H x d R) : Cache P w Cc (upd H D (.lst zs)) x d R := by
  obtain ⟨⟨dx, e1⟩, xs, gs, q⟩ := id h
  exact h.keep (Kp.atD e) (ne_of e1 e (by intro z; cases z)) (ne_of q.at_ e (by intro z; cases z))
end
theorem Known.put {P : Program} {w : World} {d a : Addr} {H : Hp} {R F : Fm} {xs : List NE} {gs : List (Lg × List Str)} {l0 : Lg} {ds : List Str} {n : Nat} (h : Known P w H d R xs gs) (N : Node R F ds n) (hl : l0 ∈ F) (hk : NKey H (kk l0 (sd ds)) a) (hn : nval xs (kk l0 (sd ds)) = none) :
    Known P w (upd H d (ND P w d (nput xs (kk l0 (sd ds)) a ((C 16 F ds : Nat) : Int)))) d R (nput xs (kk l0 (sd ds)) a ((C 16 F ds : Nat) : Int)) (gs ++ [(l0, sd ds)]) := by
  have ko : Kp (One d) H (upd H d (ND P w d (nput xs (kk l0 (sd ds)) a ((C 16 F ds : Nat) : Int)))) := Kp.own Kp.refl rfl fun u v z => by rw [h.at_] at z; cases z
  have mm : ∀ c, c ∈ sd ds ↔ c ∈ ds := fun c => (sd_perm ds).mem_iff
  refine ⟨upd_same, (h.keys.put hk).keep ko, ?_, nd_snoc h.nd fun z => ?_, fun g hg => ?_, fun e he => ?_⟩
  · rw [nput_new hn, List.map_append, List.map_append, h.ks]; rfl
  · refine nval_none hn ?_
    rw [h.ks]
    exact List.mem_map.mpr ⟨_, z, rfl⟩
  · rcases List.mem_append.mp hg with hg | hg
    · exact h.of g hg
    · rw [List.mem_singleton.mp hg]
      exact ⟨N.sub' hl, fun c hc => N.sub c ((mm c).mp hc) l0 hl, (sd_perm ds).nodup_iff.mpr N.nd, sd_sorted ds⟩
  · rw [nput_new hn] at he
    rcases List.mem_append.mp he with he | he
    · exact h.ok e he
    · rw [List.mem_singleton.mp he]
      refine ⟨l0, sd ds, rfl, ?_⟩
      show ((C 16 F ds : Nat) : Int) = _
      rw [after_done mm, ← N.aft l0 hl, C_done 16 F (sd ds) ds mm]
theorem Known.get {P : Program} {w : World} {d : Addr} {H : Hp} {R F : Fm} {xs : List NE} {gs : List (Lg × List Str)} {l0 : Lg} {ds : List Str} {n : Nat} {i : Int} (h : Known P w H d R xs gs) (N : Node R F ds n) (hl : l0 ∈ F) (e : nval xs (kk l0 (sd ds)) = some i) : i = ((C 16 F ds : Nat) : Int) := by
  obtain ⟨y, hy, e1, e2⟩ := nval_some e
  obtain ⟨l, es, e3, e4⟩ := h.ok y hy
  rw [e1] at e3
  obtain ⟨rfl, rfl⟩ := kk_inj e3
  have mm : ∀ c, c ∈ sd ds ↔ c ∈ ds := fun c => (sd_perm ds).mem_iff
  rw [← e2, e4, after_done mm, ← N.aft l0 hl, C_done 16 F (sd ds) ds mm]
theorem nput_same {xs : List NE} {k : NestedKey} {a : Addr} {i : Int} (h : ∀ e ∈ xs, e.1 = k → e.2.2 = i) (hs : (nval xs k).isSome = true) : nput xs k a i = xs := by
  unfold nput
  rw [if_pos hs]
  have : ∀ e ∈ xs, nset k i e = e := fun e he => by
    unfold nset
    split
    · rename_i q
      obtain ⟨e1, e2, e3⟩ := e
      have := h _ he q
      rw [← this]
    · rfl
  rw [List.map_congr_left this, List.map_id']
/-- a count stored, whether it was there or not -/
theorem Known.put' {P : Program} {w : World} {d a : Addr} {H : Hp} {R F : Fm} {xs : List NE} {gs : List (Lg × List Str)} {l0 : Lg} {ds : List Str} {n : Nat} (h : Known P w H d R xs gs) (N : Node R F ds n) (hl : l0 ∈ F) (hk : NKey H (kk l0 (sd ds)) a) :
    ∃ gs', Known P w (upd H d (ND P w d (nput xs (kk l0 (sd ds)) a ((C 16 F ds : Nat) : Int)))) d R (nput xs (kk l0 (sd ds)) a ((C 16 F ds : Nat) : Int)) gs' ∧ nval (nput xs (kk l0 (sd ds)) a ((C 16 F ds : Nat) : Int)) (kk l0 (sd ds)) = some ((C 16 F ds : Nat) : Int) := by
  cases hn : nval xs (kk l0 (sd ds)) with
  | none => exact ⟨_, h.put N hl hk hn, by rw [nput_new hn, nval_new hn]⟩
  | some i =>
    have hi := h.get N hl hn
    have e : nput xs (kk l0 (sd ds)) a ((C 16 F ds : Nat) : Int) = xs := by
      refine nput_same (fun e he q => ?_) (by rw [hn]; rfl)
      obtain ⟨l, es, e3, e4⟩ := h.ok e he
      rw [q] at e3
      obtain ⟨rfl, rfl⟩ := kk_inj e3
      have mm : ∀ c, c ∈ sd ds ↔ c ∈ ds := fun c => (sd_perm ds).mem_iff
      rw [e4, after_done mm, ← N.aft l0 hl, C_done 16 F (sd ds) ds mm]
    rw [e]
    have ko : Kp (One d) H (upd H d (ND P w d xs)) := Kp.own Kp.refl rfl fun u v z => by rw [h.at_] at z; cases z
    exact ⟨gs, ⟨upd_same, h.keys.keep ko, h.ks, h.nd, h.of, h.ok⟩, by rw [hn, hi]⟩
theorem Known.few {P : Program} {w : World} {d : Addr} {H : Hp} {R : Fm} {xs : List NE} {gs : List (Lg × List Str)} (h : Known P w H d R xs gs) (hR : Root R) : xs.length < sizeLine := by
  have := few_keys h.nd h.of hR.fm.le hR.l12
  have e : xs.length = gs.length := by rw [← List.length_map (f := fun x : NE => x.1), h.ks, List.length_map]
  rw [sizeLine_eq]; omega
end Ro

/-! RoCount3: ReaderCount, count_readers. -/
namespace Ro
open PySem PySem.Spec PyProof.Rows L2

/-! ### methods of the text -/
structure MOk (P : Program) (w : World) (K : PySem.W.Frag) (mg : Str → Option Value) (base : Heap) (k : Nat) (Cc : Addr) (m : Str) (ps : List Str) (sp : Sp) : Prop where
  ex : ∃ f fd, FnOk P w K mg base CX0 k f fd ps sp ∧ Meth K Cc m f ∧ Binds K fd ps []
theorem MOk.mono {P : Program} {w : World} {K : PySem.W.Frag} {mg : Str → Option Value} {base : Heap} {j k : Nat} {Cc : Addr} {m : Str} {ps : List Str} {sp : Sp} (o : MOk P w K mg base j Cc m ps sp) (h : j ≤ k) : MOk P w K mg base k Cc m ps sp :=
  let ⟨f, fd, a, r⟩ := o.ex; ⟨f, fd, a.mono h, r⟩
/-- a method as it stands behind the top -/
structure DfM (K : PySem.W.Frag) (Cc : Addr) (m : String) (qual : Str) (st : Stmt) (ps : List Str) : Prop where
  ex : ∃ f fd, Fun K (Str.ofString m) qual st f fd ∧ Meth K Cc (Str.ofString m) f ∧ Binds K fd ps []
section
variable {P : Program} {w : World} {K : PySem.W.Frag} {mg : Str → Option Value} {base : Heap}
theorem DfM.ok {Cc : Addr} {m : String} {qual : Str} {st : Stmt} {N ps : List Str} {k : Nat} {sp : Sp} (D : DfM K Cc m qual st ps) (S : FnScope N ps (defScope st)) (len : ∀ vs H Q E, sp vs H Q E → vs.length = ps.length)
    (hbody : ∀ (f : Addr) (cdv : Value) (A : Around) (outer : List Env) (s : Shared) (H : Hp) (vs : List V) (Q : VK) (E : XK), Room k (A.deeper (envOfC qual (defScope st) s.heap.objs.size f cdv)) → sp vs H Q E →
      ∃ t, PSs (cxOf CX0 P w K mg base N qual (defScope st) f cdv A outer s H E).nox (defBody st) t ∧ t { nx := fun _ H' => Q .non H', rt := Q } (start N vs) H) :
    MOk P w K mg base (k + 1) Cc (Str.ofString m) ps sp := by
  obtain ⟨f, fd, F, hm, hb⟩ := D.ex
  exact ⟨f, fd, F.ok S len fun cdv A outer s H vs Q E hr hsp => hbody f cdv A outer s H vs Q E hr hsp, hm, hb⟩
/-- what is never called -/
theorem DfM.never {Cc : Addr} {m : String} {qual : Str} {st : Stmt} {ps : List Str} (k : Nat) (D : DfM K Cc m qual st ps) : MOk P w K mg base k Cc (Str.ofString m) ps fun _ _ _ _ => False := by
  obtain ⟨f, fd, F, hm, hb⟩ := D.ex
  exact ⟨f, fd, ⟨fun _ _ _ _ h => h.elim, fun _ _ _ _ _ _ _ _ _ _ _ _ _ h => h.elim⟩, hm, hb⟩
end
section
variable {X : Cx} {k : Nat} {Cc : Addr} {m : Str} {ps : List Str} {sp : Sp} {apos pos : Pos} {o e : Expr} {es : List Expr} {ta : TE} {t : TA}
def tMt (Cc : Addr) (m : Str) (sp : Sp) (ta : TE) (t : TA) : TE := fun σ H Q => ta σ H fun x H1 => ∃ a dx fs, x = .ref a ∧ H1 a = some (.ins Cc dx fs) ∧ fs.lookup m = none ∧ t σ H1 fun vs H2 => sp (x :: vs) H2 Q E0
theorem pe_mt (M : MOk X.prog X.w X.K X.mg X.base k Cc m ps sp) (c : Cls X.K Cc) (hr : Room k X.A) (ho : PE X o ta) (ha : PA X (e :: es) t)
    (hst : starEach (e :: es) X.env = (false, eval e X.env) :: starEach es X.env := by rfl) (hpl : (backTo pos (starEach es X.env)).any (·.1) = false := by rfl)
    (ht : ∃ pl, eval (.Call (.Attribute o m apos) (e :: es) [] pos) X.env = (do
      let ov ← eval o X.env
      standAt apos.atName
      let (f, first) ← holding [ov] (getMethod ov m pl)
      callWith pos f first (backTo pos (starEach (e :: es) X.env)) (backToKw pos (keywordEach [] X.env))) := by exact ⟨_, rfl⟩) : PE X (.Call (.Attribute o m apos) (e :: es) [] pos) (tMt Cc m sp ta t) := by
  obtain ⟨pl, ht⟩ := ht
  obtain ⟨f, fd, F, hm, hb⟩ := M.ex
  have h := pe_meth ho c hm F hr hb (.nil : Vals [] []) (pass0 (X := X)) ha hst hpl ht
  refine ⟨fun pins s σ H Q I q => h.run pins s σ H Q I ?_⟩
  show ta σ H fun x H1 => ∃ a dx fs, x = .ref a ∧ H1 a = some (.ins Cc dx fs) ∧ fs.lookup m = none ∧ t σ H1 fun vs H2 => sp (x :: (vs ++ [])) H2 Q E0
  simp only [List.append_nil]
  exact q
end
/-- t + u into a plain tuple, whatever is empty -/
def rCatPt : R2 := fun x y H Q => ∃ a b xs ys, x = .ref a ∧ y = .ref b ∧ Pt H a xs ∧ Pt H b ys ∧ xs.length + ys.length ≤ sizeLine ∧ ∀ p H', Kp Nil H H' → Pt H' p (xs ++ ys) → Q (.ref p) H'
theorem op_catPt {X : Cx} : OpR X (binaryOp .Add) rCatPt := OpR_imp op_catP fun x y H Q ⟨a, b, xs, ys, ex, ey, ha, hb, hl, q⟩ => by
  refine ⟨a, b, xs, ys, ex, ey, ha.sqt, hb.sqt, hl, fun e => ?_, fun _ e => ?_, fun _ _ p o np hc hd => q p _ (Kp.new Kp.refl np) (Pt.new hc hd)⟩
  · subst e
    exact q b H Kp.refl hb
  · subst e
    have := q a H Kp.refl
    rw [List.append_nil] at this
    exact this ha

/-! ### ReaderCount -/
structure RcT (K : PySem.W.Frag) (mg : Str → Option Value) (Cc : Addr) : Prop where
  cl : Cls K Cc
  nK : NoAttr K Cc "known_counts"
section
variable {P : Program} {w : World} {K : PySem.W.Frag} {mg : Str → Option Value} {base : Heap} {Cc : Addr}
def spRcInit (P : Program) (w : World) (Cc : Addr) : Sp := fun vs H Q _ => ∃ x dx, vs = [.ref x] ∧ H x = some (.ins Cc dx []) ∧ ∀ d H', H d = none → H' x = some (.ins Cc dx (kcF d)) → H' d = some (ND P w d []) → Kp (One x) H H' → Q .non H'
theorem ok_init (D : DfM K Cc "__init__" "ReaderCount.__init__" s_init p_init) (T : RcT K mg Cc) : MOk P w K mg base 1 Cc "__init__" p_init (spRcInit P w Cc) := by
  refine D.ok sc_init (fun vs H Q E h => ?_) fun f cdv A outer s H vs Q E hr h => ?_
  · obtain ⟨x, dx, rfl, _⟩ := h
    rfl
  · obtain ⟨x, dx, rfl, hx, q⟩ := h
    refine ⟨_, pss_one (ps_fld (pv 0) pe_newN rfl), ?_⟩
    intro d hd
    have ne : x ≠ d := ne_of_none hx hd
    refine ⟨_, rfl, x, Cc, dx, [], rfl, by rw [upd_ne ne]; exact hx, T.cl, T.nK, by decide, ?_⟩
    refine q d _ hd upd_same (by rw [upd_ne (Ne.symm ne)]; exact upd_same) ?_
    exact (Kp.new Kp.refl hd).own rfl fun u v z => by rw [hx] at z; cases z

def spGroup (P : Program) (w : World) (Cc : Addr) (R : Fm) (n : Nat) : Sp := fun vs H Q _ => ∃ x d v dn F ds, vs = [.ref x, v, .ref dn] ∧ Tv H v (encF F) ∧ Pt H dn (ds.map V.str) ∧ Node R F ds n ∧ Cache P w Cc H x d R ∧
  ∀ H', Kp (One d) H H' → Cache P w Cc H' x d R → Q (.int ((C 16 F ds : Nat) : Int)) H'
def spNode (P : Program) (w : World) (Cc : Addr) (R : Fm) (n : Nat) : Sp := fun vs H Q _ => ∃ x d v dn F ds c, vs = [.ref x, v, .ref dn, .str c] ∧ Tv H v (encF F) ∧ Pt H dn (ds.map V.str) ∧ Node R F ds (n + 1) ∧ c ∈ unread F ds ∧ Cache P w Cc H x d R ∧
  ∀ H', Kp (One d) H H' → Cache P w Cc H' x d R → Q (.int ((nodeC F ds c : Nat) : Int)) H'
theorem kc_no {d : Addr} {m : Str} (h : ¬ m = "known_counts") : (kcF d).lookup m = none := by
  show List.lookup m [(("known_counts" : Str), V.ref d)] = none
  rw [List.lookup_cons, beq_false_of_ne h]; rfl
theorem ok_of_node (n : Nat) (R : Fm) (D : DfM K Cc "of_node" "ReaderCount.of_node" s_of_node p_of_node) (T : RcT K mg Cc) (op : Ok P w K mg base 1 "parts_by" p_parts_by spPartsBy)
    (og : MOk P w K mg base (2 * n + 3) Cc "of_group" p_of_group (spGroup P w Cc R n)) : MOk P w K mg base (2 * n + 4) Cc "of_node" p_of_node (spNode P w Cc R n) := by
  refine D.ok sc_of_node (fun vs H Q E h => ?_) fun f cdv A outer s H vs Q E hr h => ?_
  · obtain ⟨x, d, v, dn, F, ds, c, rfl, _⟩ := h
    rfl
  · obtain ⟨x, d, v, dn, F, ds, c, rfl, hv, hdn, N, hc, hC, q⟩ := h
    have hcc := mem_shared' (mem_unread.mp hc).1
    refine ⟨_, pss_cons (ps_set (i := 4) sc_of_node.nd rfl (.inl rfl) pe_int)
      (pss_cons (ps_for PassesOwn.never rfl (pi_list (pe_cl op (hr.mono (by omega)) (pa_cons (pv 1) (pa_cons (pv 3) pa_nil)))) (pg_tup rfl (pgs_cons (pg_name (i := 5) sc_of_node.nd rfl (.inl rfl)) (pgs_cons (pg_name (i := 6) sc_of_node.nd rfl (.inl rfl)) pgs_nil)))
        (pss_one (ps_aug (i := 4) sc_of_node.nd rfl (.inl rfl) (pe_mt og T.cl hr (pv 0) (pa_cons (pv 6) (pa_cons (pe_op op_catPt (pv 2) (pe_tupP (pa_cons (pv 3) pa_nil))) pa_nil))) ip_mulW)))
      (pss_one (ps_ret (pv 4)))), ?_⟩
    refine ⟨_, rfl, _, rfl, v, c, F, rfl, hv, N.fm, hcc, fun p xs H1 vs k1 np e1 t1 iv hvl => ?_⟩
    obtain ⟨od, hod⟩ := hC.there
    have pd : p ≠ d := fun z => by rw [z, hod] at np; cases np
    have hxl : xs.length = vs.length := t1.len
    have hC1 := hC.keep0 k1
    refine ⟨p, rfl, ⟨xs, SqL.of e1⟩, for_it (walk_list (xs := xs)) (fun i σ H2 => (∃ y5 y6, σ = [some (.ref x), some v, some (.ref dn), some (.str c), some (.int ((prod ((vs.take i).map fun v => C 16 (part F c v) (ds ++ [c])) : Nat) : Int)), y5, y6]) ∧ Kp (One d) H1 H2 ∧ Cache P w Cc H2 x d R)
      ⟨⟨none, none, rfl⟩, Kp.refl, hC1⟩ (fun _ _ _ _ h => h.2.1.sql (SqL.of e1) pd) (fun i y σ H2 H2' hi hP yy => ?_) fun σ H2 hP => ?_⟩
    · obtain ⟨rfl, hx⟩ := yy
      obtain ⟨⟨y5, y6, rfl⟩, k2, hC2⟩ := hP
      obtain ⟨vv, hvv, tv⟩ := t1.at hx
      have hvm := List.mem_of_getElem? hvv
      obtain ⟨ap, ps, rfl, hpp, hTp⟩ := (tv.keep k2).inv
      cases hTp with
      | cons hi1 hTp =>
        cases hTp with
        | cons hi2 hTp =>
          cases hTp
          rw [hi1.inv_int] at hpp
          obtain ⟨dx, hx2⟩ := hC2.inst
          refine ⟨ap, _, rfl, hpp.sqt, rfl, _, _, rfl, _, _, rfl, rfl, _, rfl, _, rfl, x, dx, _, rfl, hx2, kc_no (by decide), _, rfl, _, rfl, _, rfl, by show 1 ≤ sizeLine; rw [sizeLine_eq]; decide, fun tp to nt hct hdt => ?_⟩
          have kt : Kp Nil H2' (upd H2' tp (.frz to (.tup [.str c]))) := Kp.new Kp.refl nt
          have hdl : ds.length ≤ 16 := by
            obtain ⟨l0, r0, e0⟩ := List.exists_cons_of_ne_nil N.fm.ne
            have hl0 : l0 ∈ F := by rw [e0]; exact List.mem_cons_self
            have := len_le_of_sub N.nd fun c hc => N.sub c hc l0 hl0
            rw [List.length_map] at this
            exact Nat.le_trans this (N.fm.len l0 hl0)
          refine ⟨dn, tp, ds.map V.str, [.str c], rfl, rfl, (hdn.keep k1).keep k2 |>.keep kt, Pt.new hct hdt, by rw [List.length_map, sizeLine_eq]; show ds.length + 1 ≤ _; omega, fun dq H3 k3 hdq => ?_⟩
          have hdq' : Pt H3 dq ((ds ++ [c]).map V.str) := by rw [List.map_append]; exact hdq
          have kt3 := kt.trans k3
          have NP := N.part hc iv hvm
          refine ⟨x, d, _, dq, part F c vv, ds ++ [c], rfl, hi2.keep kt3, hdq', NP, hC2.keep0 kt3, fun H4 k4 hC4 => ?_⟩
          have sm := node_small N hc iv i
          have sm2 : C 16 (part F c vv) (ds ++ [c]) < 2 ^ 1800 := Nat.lt_of_le_of_lt NP.small (pow_small NP.fm.le)
          have up : (2 : Nat) ^ 1800 ≤ 2 ^ 3000 := Nat.pow_le_pow_right (by decide) (by decide)
          have ep : ((prod ((vs.take i).map fun v => C 16 (part F c v) (ds ++ [c])) : Nat) : Int) * ((C 16 (part F c vv) (ds ++ [c]) : Nat) : Int) = ((prod ((vs.take (i + 1)).map fun v => C 16 (part F c v) (ds ++ [c])) : Nat) : Int) := by
            rw [take_snoc hvv, List.map_append, prod_append, ← Int.natCast_mul]
            congr 1
            show _ = _ * (_ * 1)
            rw [Nat.mul_one]
          refine ⟨_, _, rfl, rfl, mulW_nat (Nat.lt_of_lt_of_le sm up) (Nat.lt_of_lt_of_le sm2 up), ?_, (k2.trans kt3.nil).trans k4, hC4⟩
          rw [← ep]
          exact ⟨_, _, rfl⟩
    · obtain ⟨⟨y5, y6, rfl⟩, k2, hC2⟩ := hP
      refine ⟨_, rfl, ?_⟩
      rw [hxl, List.take_length, ← node_vals iv]
      exact q _ (k1.nil.trans k2) hC2
/-- of_node's promise, whatever is left -/
def spNodeG (P : Program) (w : World) (Cc : Addr) (R : Fm) (n : Nat) : Sp := fun vs H Q _ => ∃ x d v dn F ds c, vs = [.ref x, v, .ref dn, .str c] ∧ Tv H v (encF F) ∧ Pt H dn (ds.map V.str) ∧ Node R F ds n ∧ c ∈ unread F ds ∧ Cache P w Cc H x d R ∧
  ∀ H', Kp (One d) H H' → Cache P w Cc H' x d R → Q (.int ((nodeC F ds c : Nat) : Int)) H'
theorem TvAll.strs' {H : Hp} (ds : List Str) : TvAll H (ds.map V.str) (ds.map PyData.str) := TvAll.strs ds
theorem ok_of_group (n k : Nat) (R : Fm) (hR : Root R) (D : DfM K Cc "of_group" "ReaderCount.of_group" s_of_group p_of_group) (T : RcT K mg Cc) (B : Bu mg) (of : Ok P w K mg base 1 "factorial" p_factorial spFactorial)
    (ou : Ok P w K mg base 2 "unread_shared" p_unread_shared (spUnread K)) {spX : Sp} (on : MOk P w K mg base k Cc "of_node" p_of_node spX) (hk : 2 ≤ k) (hX : ∀ vs H Q E, spNodeG P w Cc R n vs H Q E → spX vs H Q E) :
    MOk P w K mg base (k + 1) Cc "of_group" p_of_group (spGroup P w Cc R n) := by
  refine D.ok sc_of_group (fun vs H Q E h => ?_) fun f cdv A outer s H vs Q E hr h => ?_
  · obtain ⟨x, d, v, dn, F, ds, rfl, _⟩ := h
    rfl
  · obtain ⟨x, d, v, dn, F, ds, rfl, hv, hdn, N, hC, q⟩ := h
    have hu := hr.units
    obtain ⟨a, xs, rfl, hp, hT⟩ := hv.tuple
    have hl : xs.length = F.length := hT.len
    have hle := N.fm.le
    obtain ⟨l0, r0, e0⟩ := List.exists_cons_of_ne_nil N.fm.ne
    have hl0 : l0 ∈ F := by rw [e0]; exact List.mem_cons_self
    have hrem := rem_len (N.fm.nd l0 hl0) N.nd fun c hc => N.sub c hc l0 hl0
    have hll := N.fm.len l0 hl0
    obtain ⟨x0, hx0, tv0⟩ := hT.at' (i := 0) (x := l0) (by rw [e0]; rfl)
    refine ⟨_, pss_cons (ps_if (pt_cmpR op_eq (pe_callB (lenQ K) (by rfl) B.len bt_len (pa_cons (pv 1) pa_nil)) pe_int (nomark _))
        (pss_one (ps_ret (pe_cl of (hr.mono (by omega)) (pa_cons (pe_op op_sub (pe_callB (lenQ K) (by rfl) B.len bt_len (pa_cons (pe_ix (ixT K) (pv 1) pe_int (fun _ _ => rfl)) pa_nil)) (pe_callB (lenQ K) (by rfl) B.len bt_len (pa_cons (pv 2) pa_nil))) pa_nil)))) pss_nil)
      (pss_cons (ps_set (i := 3) sc_of_group.nd rfl (.inl rfl) (pe_tupP (pa_cons (pe_ix (ixT K) (pv 1) pe_int (fun _ _ => rfl)) (pa_cons (pe_callTy (tupQ K) (by rfl) B.tuple bt_tuple (pa_cons (pe_callB (sortQ K hu) (by rfl) B.sorted bt_sorted (pa_cons (pv 2) pa_nil)) pa_nil)) pa_nil))))
      (pss_cons (ps_if (pt_cmpR (op_notInN hu) (pv 3) (pe_fld (pv 0) rfl) rfl)
        (pss_one (ps_asg (pe_callB (cr_sum rfl) (by rfl) B.sum bt_sum (pa_cons
          (pe_lc (own := [("cell", 4)]) (g := gName 4) (tt := tYes) rfl sc_of_group.nd (pi_list (pe_cl ou (hr.mono (by omega)) (pa_cons (pv 1) (pa_cons (pv 2) pa_nil)))) (blkOk_by (N := n_of_group) (sc := defScope s_of_group) (by decide +kernel))
            (fun _ _ _ _ _ => pg_name (i := 4) sc_of_group.nd rfl (.inl rfl)) (fun _ _ _ _ _ => pts_nil)
            (fun _ _ _ _ _ => pe_mt on T.cl hr (pv 0) (pa_cons (pv 1) (pa_cons (pv 2) (pa_cons (pv 4) pa_nil))))) pa_nil))
          (pg_sub (pe_fld (pv 0) rfl) (pv 3) (ps_putN hu)))) pss_nil)
      (pss_one (ps_ret (pe_ix (ix_N hu) (pe_fld (pv 0) rfl) (pv 3) (fun _ _ => rfl)))))), ?_⟩
    refine ⟨_, rfl, a, xs, rfl, .inr hp.sqt, rfl, _, rfl, ?_⟩
    refine ite2 (fun h1 => ?_) (fun h1 => ?_)
    · have h1 : F.length = 1 := by
        have := of_decide_eq_true h1
        injection this with this
        omega
      have eF : F = [l0] := by
        rw [e0] at h1 ⊢
        have : r0 = [] := List.eq_nil_of_length_eq_zero (by simpa using h1)
        rw [this]
      obtain ⟨b0, ps, rfl, hp0, hT0⟩ := tv0.tuple
      have hpl : ps.length = l0.length := hT0.len
      refine ⟨_, rfl, a, xs, 0, _, rfl, rfl, hp.sqt, atI_nat (j := 0) hx0, b0, ps, rfl, .inr hp0.sqt, _, rfl, dn, _, rfl, .inr hdn.sqt, _, _, rfl, rfl, l0.length - ds.length, ?_, by omega, fun H1 k1 => ?_⟩
      · have e : ((l0.length : Nat) : Int) - ((ds.length : Nat) : Int) = ((l0.length - ds.length : Nat) : Int) := by omega
        rw [hpl, List.length_map]
        show [V.int (((l0.length : Nat) : Int) - ((ds.length : Nat) : Int))] = _
        rw [e]
      · have := q H1 k1.nil (hC.keep0 k1)
        rw [eF, (eF ▸ N : Node R [l0] ds n).one] at this
        exact this
    · have h1 : F.length ≠ 1 := fun e => h1 (decide_eq_true (by rw [hl, e]; rfl))
      have hdl : ds.length ≤ 16 := by omega
      refine ⟨_, rfl, a, xs, 0, _, rfl, rfl, hp.sqt, atI_nat (j := 0) hx0, _, rfl, dn, _, _, rfl, .inr hdn.sqt, TvAll.strs' ds, sortOk_strs ds (by rw [sizeLine_eq]; omega), fun p zs np tz => ⟨p, zs, rfl, SqL.of upd_same, fun lt o nl hc hd => ⟨by show 2 ≤ sizeLine; rw [sizeLine_eq]; decide, fun kp ko nk hck hdk => ?_⟩⟩⟩
      rw [sort_map] at tz
      have kz : Kp Nil H (upd (upd H p (.lst zs)) lt (.frz o (.tup zs))) := (Kp.new Kp.refl np).new nl
      have kkp : Kp Nil H (upd (upd (upd H p (.lst zs)) lt (.frz o (.tup zs))) kp (.frz ko (.tup [x0, .ref lt]))) := kz.new nk
      generalize hH1 : upd (upd (upd H p (.lst zs)) lt (.frz o (.tup zs))) kp (.frz ko (.tup [x0, .ref lt])) = H1 at kkp
      have hkey : NKey H1 (kk l0 (sd ds)) kp := by
        refine ⟨?_, kk_depth _ _⟩
        rw [kk_data, ← hH1]
        have k2 : Kp Nil (upd (upd H p (.lst zs)) lt (.frz o (.tup zs))) (upd (upd (upd H p (.lst zs)) lt (.frz o (.tup zs))) kp (.frz ko (.tup [x0, .ref lt]))) := Kp.new Kp.refl nk
        refine .tup (Pt.new hck hdk) (.cons ((tv0.keep kz).keep k2) (.cons (.tup ((Pt.new hc hd).keep k2) ((tz.keep kz).keep k2)) .nil))
      obtain ⟨⟨dx, hx1⟩, es, gs, KN⟩ := hC.keep0 kkp
      have hC1 : Cache P w Cc H1 x d R := hC.keep0 kkp
      refine ⟨_, rfl, _, rfl, x, Cc, dx, _, _, rfl, hx1, T.cl, T.nK, rfl, kp, d, es, _, rfl, rfl, KN.at_, KN.keys, hkey, _, rfl, ?_⟩
      cases hn : nval es (kk l0 (sd ds)) with
      | some i =>
        refine iteF ⟨_, rfl, x, Cc, dx, _, _, rfl, hx1, T.cl, T.nK, rfl, _, rfl, d, kp, es, _, i, rfl, rfl, KN.at_, KN.keys, hkey, hn, ?_⟩
        rw [KN.get N hl0 hn]
        exact q H1 kkp.nil hC1
      | none =>
        refine iteT ⟨_, rfl, _, rfl, _, dn, F, ds, rfl, hv.keep kkp, N.fm, (hdn.keep kkp).sqt, fun up H2 k2 n2 e2 => ?_⟩
        have kH2 := kkp.trans k2
        have hC2 := hC1.keep0 k2
        obtain ⟨od, hod⟩ := hC1.there
        have upd' : up ≠ d := fun z => by rw [z, hod] at n2; cases n2
        have hul : (unread F ds).length ≤ 16 := by
          refine Nat.le_trans (List.length_filter_le _ _) (shared_len N.fm)
        refine ⟨up, rfl, ⟨_, SqL.of e2⟩, fun D1 n1 => ?_⟩
        have D1d : ¬ One d D1 := fun z => by
          have z : D1 = d := z
          obtain ⟨o2, h2⟩ := hC2.there
          rw [z, h2] at n1; cases n1
        refine lc_acc (walk_list (xs := (unread F ds).map V.str)) n1 (S := One d) D1d (by rw [List.length_map]; omega) (fun i H ys => ys = (((unread F ds).take i).map fun c => ((nodeC F ds c : Nat) : Int)).map V.int ∧ Cache P w Cc H x d R) ⟨rfl, hC2.keep0 (Kp.new Kp.refl n1)⟩
          (fun _ _ _ _ e h => ⟨h.1, h.2.atD e⟩) (fun _ k => k.sql (SqL.of e2) upd') (fun i y H3 H3' ys hi k3 e3 a3 yy Kt Kf ht hf => ?_) fun H3 ys k3 e3 a3 => ?_
        · obtain ⟨rfl, hx⟩ := yy
          obtain ⟨c, hc, rfl⟩ := strs_at hx
          obtain ⟨a3, hC3⟩ := a3
          obtain ⟨dx3, hx3⟩ := hC3.inst
          refine ⟨rfl, yes_go ⟨_, rfl, x, dx3, _, rfl, hx3, kc_no (by decide), _, rfl, _, rfl, _, rfl, hX _ _ _ _ ⟨x, d, _, dn, F, ds, c, rfl, (hv.keep kH2).keep k3, (hdn.keep kH2).keep k3, N, List.mem_of_getElem? hc, hC3, fun H4 k4 hC4 => ?_⟩⟩⟩
          refine ht _ _ k4 ⟨?_, hC4⟩
          rw [a3, take_snoc hc]; simp
        · obtain ⟨a3, hC3⟩ := a3
          rw [List.length_map, List.take_length] at a3
          rw [a3] at e3
          obtain ⟨⟨dx3, hx3⟩, es3, gs3, KN3⟩ := id hC3
          have hkey3 := (hkey.keep k2).keep k3
          refine ⟨D1, _, rfl, SqL.of e3, ?_⟩
          have es' : ((unread F ds).map fun c => ((nodeC F ds c : Nat) : Int)).sum = ((C 16 F ds : Nat) : Int) := by
            rw [N.sum h1]
            have : ∀ l : List Str, (l.map fun c => ((nodeC F ds c : Nat) : Int)).sum = (((l.map (nodeC F ds)).sum : Nat) : Int) := fun l => by
              induction l with
              | nil => rfl
              | cons c r ih => rw [List.map_cons, List.map_cons, List.sum_cons, List.sum_cons, ih, Int.natCast_add]
            exact this _
          rw [es']
          obtain ⟨gs4, KN4, hv4⟩ := KN3.put' N hl0 hkey3
          have kall : Kp (One d) H (upd H3 d (ND P w d (nput es3 (kk l0 (sd ds)) kp ((C 16 F ds : Nat) : Int)))) := (kH2.nil.trans k3).own rfl fun u v z => by
            obtain ⟨_, ys0, gs0, K0⟩ := id hC
            rw [K0.at_] at z; cases z
          have ko : Kp (One d) H3 (upd H3 d (ND P w d (nput es3 (kk l0 (sd ds)) kp ((C 16 F ds : Nat) : Int)))) := Kp.own Kp.refl rfl fun u v z => by rw [KN3.at_] at z; cases z
          have hx4 := ko.keep _ _ hx3 hC3.xd
          refine ⟨_, rfl, x, Cc, dx3, _, _, rfl, hx3, T.cl, T.nK, rfl, _, rfl, d, kp, es3, _, _, rfl, rfl, rfl, KN3.at_, KN3.keys, hkey3, KN3.few hR, ?_⟩
          refine ⟨_, rfl, x, Cc, dx3, _, _, rfl, hx4, T.cl, T.nK, rfl, _, rfl, d, kp, _, _, _, rfl, rfl, KN4.at_, KN4.keys, hkey3.keep ko, hv4, ?_⟩
          exact q _ kall ⟨⟨dx3, hx4⟩, _, gs4, KN4⟩
/-- of_group, for whatever is left -/
theorem ok_groups (R : Fm) (hR : Root R) (Dg : DfM K Cc "of_group" "ReaderCount.of_group" s_of_group p_of_group) (Dn : DfM K Cc "of_node" "ReaderCount.of_node" s_of_node p_of_node) (T : RcT K mg Cc) (B : Bu mg) (of : Ok P w K mg base 1 "factorial" p_factorial spFactorial)
    (ou : Ok P w K mg base 2 "unread_shared" p_unread_shared (spUnread K)) (op : Ok P w K mg base 1 "parts_by" p_parts_by spPartsBy) : ∀ n, MOk P w K mg base (2 * n + 3) Cc "of_group" p_of_group (spGroup P w Cc R n)
  | 0 => ok_of_group 0 2 R hR Dg T B of ou (Dn.never 2) (Nat.le_refl _) fun vs H Q E h => by
    obtain ⟨x, d, v, dn, F, ds, c, _, _, _, N, hc, _⟩ := h
    obtain ⟨l0, r0, e0⟩ := List.exists_cons_of_ne_nil N.fm.ne
    have hl0 : l0 ∈ F := by rw [e0]; exact List.mem_cons_self
    rw [unread_nil_of_rem hl0 (Nat.le_zero.mp (N.rem l0 hl0))] at hc
    cases hc
  | n + 1 => ok_of_group (n + 1) (2 * n + 4) R hR Dg T B of ou (ok_of_node n R Dn T op (ok_groups R hR Dg Dn T B of ou op n)) (by omega) fun _ _ _ _ h => h

/-! ### count_readers -/
def spCount : Sp := fun vs H Q _ => ∃ (v : V) (F : Fm) (U : List Str), vs = [v] ∧ Tv H v (encF F) ∧ GOk F ∧ (∀ l ∈ F, ∀ c ∈ cells l, c ∈ U) ∧ U.length ≤ 12 ∧ RV H Q (.int ((C 16 F [] : Nat) : Int))
theorem root_of {F : Fm} {U : List Str} (h : GOk F) (hU : ∀ l ∈ F, ∀ c ∈ cells l, c ∈ U) (hl : U.length ≤ 12) : Root F :=
  ⟨h.fm, fun l hl' => by
    have := len_le_of_sub (h.fm.nd l hl') fun c hc => hU l hl' c hc
    rw [List.length_map] at this
    omega⟩
theorem ok_count_readers (D : Df K mg "count_readers" s_count_readers p_count_readers) (T : RcT K mg Cc) (B : Bu mg) (Cn : Cs mg) (hm : mg "ReaderCount" = some (.ref Cc))
    (Di : DfM K Cc "__init__" "ReaderCount.__init__" s_init p_init) (Dg : DfM K Cc "of_group" "ReaderCount.of_group" s_of_group p_of_group) (Dn : DfM K Cc "of_node" "ReaderCount.of_node" s_of_node p_of_node)
    (M : PySem.W.makesIn K Cc = true ∧ PySem.W.keepIn K (.ref Cc) = true) (oc : Ok P w K mg base 6 "check_reader" p_check_reader spNone) (oi : Ok P w K mg base 1 "cells_in" p_cells_in spCellsIn)
    (of : Ok P w K mg base 1 "factorial" p_factorial spFactorial) (ou : Ok P w K mg base 2 "unread_shared" p_unread_shared (spUnread K)) (op : Ok P w K mg base 1 "parts_by" p_parts_by spPartsBy) : Ok P w K mg base 28 "count_readers" p_count_readers spCount := by
  refine D.ok sc_count_readers (fun vs H Q E h => ?_) fun f cdv A outer s H vs Q E hr h => ?_
  · obtain ⟨v, F, U, rfl, _⟩ := h
    rfl
  · obtain ⟨v, F, U, rfl, hv, hF, hU, hUl, q⟩ := h
    obtain ⟨a, xs, rfl, hp, hT⟩ := hv.tuple
    have hl : xs.length = F.length := hT.len
    have hle := hF.fm.le
    have hpos : 1 ≤ F.length := List.length_pos_iff.mpr hF.fm.ne
    have hR := root_of hF hU hUl
    obtain ⟨fi, fdi, Fi, mi, bi⟩ := (ok_init (P := P) (w := w) (base := base) Di T).ex
    have og := ok_groups (P := P) (w := w) (base := base) F hR Dg Dn T B of ou op 12
    refine ⟨_, pss_cons (ps_expr (pe_cl oc (hr.mono (by decide)) (pa_cons (pv 0) pa_nil)))
      (pss_cons (ps_if (pt_cmpR op_eq (pe_callB (lenQ K) (by rfl) B.len bt_len (pa_cons (pv 0) pa_nil)) pe_int (nomark _)) pss_never pss_nil)
      (pss_cons (ps_if (pt_cmpR op_gt (pe_callB (lenQ K) (by rfl) B.len bt_len (pa_cons (pe_cl oi (hr.mono (by decide)) (pa_cons (pv 0) pa_nil)) pa_nil)) (pe_gc Cn.cells12) (nomark _)) pss_never pss_nil)
      (pss_cons (ps_if (pt_cmpR op_gt (pe_callB (lenQ K) (by rfl) B.len bt_len (pa_cons (pv 0) pa_nil)) (pe_gc Cn.logs60) (nomark _)) pss_never pss_nil)
      (pss_one (ps_ret (pe_mt og T.cl hr (pe_make0 ⟨M.1, mi.at_, mi.fn, M.2⟩ Fi (hr.mono (by decide)) rfl hm bi .nil pass0) (pa_cons (pv 0) (pa_cons (pe_tupP pa_nil) pa_nil))
        (ht := ⟨_, mcall_of (abase_call (by decide)) fun _ => rfl⟩))))))), ?_⟩
    refine ⟨_, rfl, _, F, rfl, hv, hF, fun H1 k1 => ?_⟩
    refine ⟨_, rfl, a, xs, rfl, .inr (hp.keep k1).sqt, rfl, _, rfl, ?_⟩
    rw [decide_eq_false (show ¬ V.int ((xs.length : Nat) : Int) = V.int 0 from fun e => by injection e with e; omega)]
    refine iteF ⟨_, rfl, _, F, U, rfl, hv.keep k1, hF.fm, hU, by omega, fun p H2 zs k2 hz hzl => ⟨p, zs, rfl, .inr hz.sqt, _, _, rfl, rfl, _, rfl, ?_⟩⟩
    rw [decide_eq_false (show ¬ ((zs.length : Nat) : Int) > 12 by omega)]
    have k12 := k1.trans k2
    refine iteF ⟨_, rfl, a, xs, rfl, .inr (hp.keep k12).sqt, _, _, rfl, rfl, _, rfl, ?_⟩
    rw [decide_eq_false (show ¬ ((xs.length : Nat) : Int) > 60 by omega)]
    refine iteF ?_
    intro x dx nx ndx nex
    have kx : Kp Nil H2 (upd (upd H2 dx (.own x)) x (.ins Cc dx [])) := (Kp.new Kp.refl ndx).new (by rw [upd_ne (Ne.symm nex)]; exact nx)
    refine ⟨x, dx, rfl, upd_same, fun d H3 nd e1 e2 k3 => ⟨rfl, x, dx, _, rfl, e1, kc_no (by decide), _, rfl, Nat.zero_le _, fun tp to nt hct hdt => ?_⟩⟩
    have kx3 : Kp Nil H2 H3 := (kx.wide (S' := One x) fun _ z => z.elim).trans k3 |> fun k => Kp.less1 k nx
    have kt : Kp Nil H3 (upd H3 tp (.frz to (.tup []))) := Kp.new Kp.refl nt
    have nd2 : H2 d = none := kx.fresh nd
    have hkn : Known P w H3 d F [] [] := ⟨e2, NKeys.nil _, rfl, List.nodup_nil, fun g hg => (by cases hg), fun e he => (by cases he)⟩
    have hca : Cache P w Cc H3 x d F := ⟨⟨dx, e1⟩, [], [], hkn⟩
    have kall := (k12.trans kx3).trans kt
    refine ⟨x, d, _, tp, F, [], rfl, hv.keep kall, Pt.new hct hdt, hR.node, hca.keep0 kt, fun H4 k4 _ => q H4 ?_⟩
    exact Kp.less1 (kall.nil.trans k4) (k12.fresh nd2)
end
end Ro

/-! RoKeyed2: {k: i}, d.get(k, x), d.items(), sum(d.values()) of such dicts. -/
namespace Ro
open PySem PySem.Spec PyProof.Rows L2

theorem paired_at {α β : Type} {R : α → β → Prop} : ∀ {xs : List α} {ys : List β} {i : Nat} {y : β}, Paired R xs ys → ys[i]? = some y → ∃ x, xs[i]? = some x ∧ R x y
  | _, _, _, _, .nil, e => by simp at e
  | _, _, 0, _, .cons h _, e => by simp at e; subst e; exact ⟨_, rfl, h⟩
  | _, _, i + 1, y, .cons _ t, e => by
    obtain ⟨x, h1, h2⟩ := paired_at (i := i) t (by simpa using e)
    exact ⟨x, by simpa using h1, h2⟩
/-- the entries as the dict's object has them -/
theorem NOf.raw {P : Program} {w : World} {h : Heap} {d : Addr} {xs : List NE} (x : NOf P w h d xs) : (d == sysModules) = false ∧ ∃ es ep, h.DictRaw d es ep ∧ es.size = xs.length ∧
    ∀ i (hi : i < es.size), ∃ y, xs[i]? = some y ∧ es[i].key = .ref y.2.1 ∧ ∃ t, es[i].val = Value.int y.2.2 t := by
  obtain ⟨hd, ys, hp, o, es, ep, e1, e2, e3, e4, e5⟩ := x
  have hl := Paired.length hp
  have hs : es.size = ys.length := size_of_entries e4
  refine ⟨hd, es, ep, ⟨o, e1, e2, e3⟩, by omega, fun i hi => ?_⟩
  have hy : ys[i]? = some ys[i] := List.getElem?_eq_getElem (by omega)
  obtain ⟨y, h1, h2, h3, t, h4⟩ := paired_at hp hy
  have he := entry_at e4 i
  rw [hy, Array.getElem?_eq_getElem hi] at he
  have he : es[i] = entryOfKey (nestedKind P w) ys[i] := Option.some.inj he
  exact ⟨y, h1, by rw [he]; show Value.ref ys[i].2.1 = _; rw [h3], t, by rw [he]; exact h4⟩
theorem NOf.isDict {P : Program} {w : World} {s : Shared} {d : Addr} {xs : List NE} (x : NOf P w s.heap d xs) : s.TypeIs (.ref d) "dict" ∧ ∀ b, Value.ref d = .ref b → ∃ ob, s.heap.get? b = some ob ∧ ob.dict = none := by
  obtain ⟨_, es, ep, ⟨o, ho, hx, hd⟩, _⟩ := x.raw
  refine ⟨⟨o, ho, hx.1⟩, fun b q => ?_⟩
  cases q
  exact ⟨o, ho, hx.2.1⟩
section
variable {X : Cx}
/-- {k: i}, k such a key -/
def tDispN (P : Program) (w : World) (tk tv : TE) : TE := fun σ H Q => ∀ p, H p = none → tk σ (upd H p (ND P w p [])) fun x H1 => tv σ H1 fun y H2 => ∃ a k i, x = .ref a ∧ y = .int i ∧ NKey H2 k a ∧ H2 p = some (ND P w p []) ∧ Q (.ref p) (upd H2 p (ND P w p [(k, a, i)]))
theorem pe_dispN {k v : Expr} {tk tv : TE} {pos : Pos} (hu : X.A.units + 64 < cLine) (hk : PE X k tk) (hv : PE X v tv) : PE X (.Dict [some k] [v] pos) (tDispN X.prog X.w tk tv) := by
  refine ⟨fun pins s σ H Q I q => ?_⟩
  have hd : (s.heap.objs.size == sysModules) = false := beq_eq_false_iff_ne.mpr (Nat.ne_of_gt I.big)
  have I1 := I.laid (a := s.heap.objs.size) (o := ND X.prog X.w s.heap.objs.size []) (h' := s.heap.push { cls := .type "dict", data := .dict #[] }) (t' := s.toks) (fun _ _ q => Heap.get?_push_of_some _ q) (Nat.le_refl _) (NOf.ok (NOf.of hd .nil (Heap.DictOfH.new s.heap)))
  have pp : PPs X pos [some k] [v] [(tk, tv)] := pps_cons hk hv pps_nil
  have run := pp.run pins _ σ _ (fun ps H' => match ps with
    | [(x, y)] => ∃ a k i, x = .ref a ∧ y = .int i ∧ NKey H' k a ∧ H' s.heap.objs.size = some (ND X.prog X.w s.heap.objs.size []) ∧ Q (.ref s.heap.objs.size) (upd H' s.heap.objs.size (ND X.prog X.w s.heap.objs.size [(k, a, i)]))
    | _ => False) I1 (q _ (I.hok.fresh (Nat.le_refl _)))
  rw [arm_eval_Dict, zip_pairTrees [some k] [v] X.env pos rfl rfl, dictDisplay_pairs _ (by simp [pairTrees]) (by simp [pairTrees])]
  refine wpAny_bind (wpAny_standAt (wpAny_bind (wpAny_subDictH (knd := nestedKind X.prog X.w) (by show X.A.units + 8 < cLine; omega) (by simp [pairTrees]) (thn run fun ws s2 h2 => ?_))))
  obtain ⟨ps, H2, I2, rel, h2⟩ := h2
  match ps, h2, rel with
  | [(x, y)], h2, rel =>
    obtain ⟨a, n, i, rfl, rfl, hn, e, q⟩ := h2
    cases rel with
    | cons r rr =>
      cases rr
      rename_i wv
      obtain ⟨w1, w2⟩ := wv
      obtain ⟨r1, t, r2⟩ := r
      have r1 : w1 = Value.ref a := r1
      have r2 : w2 = Value.int i t := r2
      subst r1 r2
      obtain ⟨_, ys, hp, D⟩ := NOf.got I2 e (NKeys.nil _)
      cases hp
      refine ⟨[(n, a, .int i t)], ⟨rfl, rfl, hn.is I2, trivial⟩, D, fun h' tk' D' hs => wpAny_pure ?_⟩
      have he : ∃ q, h'.get? s.heap.objs.size = some q := let ⟨q, _, _, hq, _⟩ := D'; ⟨q, hq⟩
      exact ⟨.ref s.heap.objs.size, _, d_write I2 (by rw [e]; exact True.intro) hs he (NOf.ok (NOf.of hd (.cons ⟨rfl, rfl, t, rfl⟩ .nil) D')), rfl, q⟩

/-- d.get(k, x) -/
def tGetN (P : Program) (w : World) (td ty tx : TE) : TE := fun σ H Q => td σ H fun x H1 => ∃ d xs, x = .ref d ∧ H1 d = some (ND P w d xs) ∧ ty σ H1 fun y H2 => tx σ H2 fun z H3 => ∃ a xs k j, y = .ref a ∧ z = .int j ∧ H3 d = some (ND P w d xs) ∧ NKeys H3 xs ∧ NKey H3 k a ∧ Q (.int ((nval xs k).getD j)) H3
theorem pe_getN {o e f : Expr} {td ty tx : TE} {apos cpos : Pos} (hu : X.A.units + 64 < cLine) (ho : PE X o td) (he : PE X e ty) (hf : PE X f tx) (m : M2 X o "get" apos e f cpos) : PE X (.Call (.Attribute o "get" apos) [e, f] [] cpos) (tGetN X.prog X.w td ty tx) := by
  refine ⟨fun pins s σ H Q I h => ?_⟩
  refine wpAny_Call_method m.base m.few m.line PySem.F.plainAttrs_dict PySem.F.slot_dict_get PySem.F.type_dict_get (thn (ho.run pins s σ H _ I h) fun u s1 h1 => ?_)
  obtain ⟨x, H1, I1, rx, d, xs1, rfl, e1, q1⟩ := h1
  cases rx
  obtain ⟨t1, t2⟩ := NOf.isDict (I1.hok d _ e1).1
  refine ⟨t1, t2, ?_⟩
  rw [m.trees]
  refine Calls.callWith_builtin rfl (Calls.evalArgs_plain (Calls.spliced_cons (thn (he.run pins s1 σ H1 _ I1 q1) fun iv s2 h2 => Calls.spliced_cons (thn (hf.run pins s2 σ h2.choose_spec.choose _ h2.choose_spec.choose_spec.1 h2.choose_spec.choose_spec.2.2) fun fv s3 h3 => Calls.spliced_nil ?_))))
  obtain ⟨z, H3, I3, rz, a, xs, k, j, ey, rfl, e3, hks, hk, q3⟩ := h3
  have ry := h2.choose_spec.choose_spec.2.1
  rw [ey] at ry
  cases ry
  obtain ⟨t, rfl⟩ := rz
  obtain ⟨hd, ys, hp, D⟩ := NOf.got I3 e3 hks
  refine getOr_keyed (knd := nestedKind X.prog X.w) (by show X.A.units + 1 + 8 < cLine; omega) (hk.is I3) hd ⟨ys, D, rfl⟩ ?_
  rw [valueAt_pairsH]
  rcases find_pair hp k with ⟨f1, f2⟩ | ⟨i, b, t', f1, f2⟩
  · rw [f2]; rw [f1] at q3
    exact ⟨.int j, H3, I3.tok _, ⟨t, rfl⟩, q3⟩
  · rw [f2]; rw [f1] at q3
    exact ⟨.int i, H3, I3.tok _, ⟨t', rfl⟩, q3⟩
end

/-! ### for k, v in d.items() -/
/-- an entry in a new pair at each turn, the dict locked -/
def ItN (P : Program) (w : World) (d : Addr) (o : Obj) (xs : List NE) : It :=
  ⟨fun i H => H d = some (.frz o (ND P w d xs)) ∧ i < xs.length, fun i H x H' => ∃ T y, xs[i]? = some y ∧ x = .ref T ∧ H T = none ∧ H' = upd H T (.tup [.ref y.2.1, .int y.2.2]), fun i H => H d = some (.frz o (ND P w d xs)) ∧ xs.length ≤ i⟩
theorem walk_itemsN {P : Program} {w : World} {d : Addr} {o : Obj} {xs : List NE} : Walk (ItN P w d o xs) xs.length (fun H => H d = some (.frz o (ND P w d xs))) (fun i H x H' => ∃ T y, xs[i]? = some y ∧ x = .ref T ∧ H T = none ∧ H' = upd H T (.tup [.ref y.2.1, .int y.2.2])) :=
  ⟨fun _ _ hi q => ⟨q, hi⟩, fun _ q => ⟨q, Nat.le_refl _⟩, fun _ _ _ _ _ _ y => y⟩
theorem frzN {X : Cx} {pins : List (Addr × Obj)} {σ : L2.St} {H : Hp} {s : Shared} {d : Addr} {o : Obj} {xs : List NE} (I : Inv X pins σ H s) (e : H d = some (.frz o (ND X.prog X.w d xs))) : (d == sysModules) = false ∧ s.heap.get? d = some o ∧ NOf X.prog X.w s.heap d xs := by
  obtain ⟨h1, h2, _⟩ := I.hok d _ e
  exact ⟨h2.raw.1, h1, h2⟩
theorem turn_itemsN {P : Program} {w : World} {K : PySem.W.Frag} {d : Addr} {o : Obj} {xs : List NE} {es : Array DictEntry} {ep : Nat} {elts : List Expr} {kk : Nat} {tpos : Pos} (it : Addr) (hod : o.data = .dict es ep) :
    Turn P w K (.Tuple elts kk tpos) (ItN P w d o xs) [it] it (fun i h => ∃ ok ov, IsItemIter h it d i xs.length ep ok ov) where
  mem := by simp
  obj := fun i h st b hb => by
    obtain ⟨ok, ov, e⟩ := st
    rw [List.mem_singleton.mp hb]
    exact ⟨_, e, fun v z => nomatch z⟩
  keep := fun i h h' st k => let ⟨ok, ov, e⟩ := st; ⟨ok, ov, k it (by simp) _ e⟩
  item := by
    intro X hP hw hK hc i pins s σ H E I hf st hg
    subst hP hw hK
    obtain ⟨hd, hi⟩ := hg
    obtain ⟨_, hgd, N⟩ := frzN I hd
    obtain ⟨_, es', ep', ⟨o', g1, g2, g3⟩, hsz, hat⟩ := N.raw
    rw [hgd] at g1
    cases g1
    obtain ⟨rfl, rfl⟩ := dict_ep hod g3
    obtain ⟨y, hy, hk, t, hv⟩ := hat i (by omega)
    obtain ⟨ok, ov, he⟩ := st
    rw [← hsz] at he
    have hlt : it < s.heap.objs.size := Heap.lt_size he
    refine wpAny_pyNext_items_item_raw he ⟨o, hgd, g2, g3⟩ (by omega) fun h' ho hT hz hkp => ?_
    refine ⟨_, rfl, wpAny_letOwnedTupleGo_items (s := { s with heap := h' }) ho fun h'' he' sb => ?_⟩
    have hT2 := (sb.2 _ (Nat.ne_of_gt hlt)).trans hT
    have new : ObjOk X.prog X.w (upd H s.heap.objs.size (.tup [.ref y.2.1, .int y.2.2])) h'' s.heap.objs.size (.tup [.ref y.2.1, .int y.2.2]) :=
      ⟨by show 2 ≤ sizeLine; decide, [es'[i].key, es'[i].val], .cons hk (.cons ⟨t, hv⟩ .nil), ⟨_, hT2, rfl, _, rfl⟩⟩
    have I1 := I.turnedNew (t' := s.toks) (ch := [it]) (fun b ob hb e => (sb.2 b (by simpa using hb)).trans (hkp b ob (by simpa using hb) e)) hf (Nat.le_refl _) new
    refine ⟨.ref s.heap.objs.size, _, I1, rfl, ⟨_, y, hy, rfl, I.hok.fresh (Nat.le_refl _), rfl⟩, ⟨es'[i].key, es'[i].val, ?_⟩, fun b hb => ?_⟩
    · rw [← hsz]; exact he'
    · rw [List.mem_singleton.mp hb, upd_ne (Nat.ne_of_lt hlt)]
      exact (hf it (by simp)).1
  done := by
    intro X hP hw hK hc i pins s σ H E I hf st hg
    subst hP hw hK
    obtain ⟨hd, hi⟩ := hg
    obtain ⟨f0, f1, f2, f3, f4, f5⟩ := hf it (by simp)
    obtain ⟨_, hgd, N⟩ := frzN I hd
    obtain ⟨_, es', ep', ⟨o', g1, g2, g3⟩, hsz, hat⟩ := N.raw
    rw [hgd] at g1
    cases g1
    obtain ⟨rfl, rfl⟩ := dict_ep hod g3
    obtain ⟨ok, ov, he⟩ := st
    rw [← hsz] at he
    exact wpAny_pyNext_items_end_raw (I.ok.hd hc) he ⟨o, hgd, g2, g3⟩ (by omega) fun h' eb => ⟨rfl, I.turned (t' := s.toks) (fun b ob hb q => eb b ob hb q) f0 f1 f3 f4 f5⟩
  self := fun A i s Q E st h => let ⟨_, _, e⟩ := st; PySem.W.kcp_self e h
def iItemsN (P : Program) (w : World) (td : TE) : TI := fun σ H R => td σ H fun x H1 => ∃ d o xs, x = .ref d ∧ H1 d = some (.frz o (ND P w d xs)) ∧ R (ItN P w d o xs) H1
section
variable {X : Cx}
theorem pi_itemsN {e : Expr} {td : TE} {apos cpos : Pos} {elts : List Expr} {kk : Nat} {tpos : Pos} (he : PE X e td) (hbase : attributeBase e "items" X.env (eval e X.env) = eval e X.env := by rfl) (hline : (apos.endLine == cpos.line) = true := by rfl) :
    PI X (.Tuple elts kk tpos) (.Call (.Attribute e "items" apos) [] [] cpos) (iItemsN X.prog X.w td) := by
  refine ⟨fun pins s σ H R I h => ?_⟩
  refine wpAny_Call_method (T := "dict") (id := "dict.items") hbase rfl hline F.plainAttrs_dict F.slot_dict_items F.type_dict_items (thn (he.run pins s σ H _ I h) fun u s1 h1 => ?_)
  obtain ⟨x, H1, I1, rx, d, o, xs, rfl, hd, q⟩ := h1
  cases rx
  obtain ⟨hs, hgd, N⟩ := frzN I1 hd
  obtain ⟨t1, t2⟩ := NOf.isDict N
  obtain ⟨_, es, ep, ⟨o', g1, g2, g3⟩, hsz, _⟩ := N.raw
  rw [hgd] at g1
  cases g1
  refine ⟨t1, t2, ?_⟩
  have I2 : Inv X pins σ H1 { s1 with heap := s1.heap.push { cls := .type "dict_items", data := .fields #[.ref d] } } := I1.kept (t' := s1.toks) fun b ob q => Heap.get?_push_of_some _ q
  have raw : s1.heap.DictRaw d es ep := ⟨o, hgd, g2, g3⟩
  have fin : wpAny (model X.prog X.w) X.A (pyIter (.ref s1.heap.objs.size)) (PIE X pins σ (.Tuple elts kk tpos) R) X.xe { s1 with heap := s1.heap.push { cls := .type "dict_items", data := .fields #[.ref d] } } := by
    refine wpAny_pyIter_items_raw (d := d) ⟨_, Heap.get?_push_size _ rfl, rfl, rfl⟩ (raw.at fun ob q => Heap.get?_push_of_some _ q) (pi_one (tk := s1.toks) I2 _ (turn_itemsN _ g3) ⟨.none, .none, ?_⟩ q)
    rw [← hsz]
    exact Heap.get?_push_size _ rfl
  show wpAny _ _ (callWith cpos (.builtin "dict.items") [.ref d] [] []) _ X.xe s1
  exact method_meetsIn F.slot_dict_items F.entry_dict_items rfl (PySem.evalArgs_none ⟨rfl, t1, F.args_dict_items_1 _, _, meets_dict_items_raw d hs, ⟨⟨es, ep, raw⟩, fin⟩⟩)
end
end Ro

/-! RoOrders1: sum(d.values()); log not in logs; check_log, group_after, available; the table of ways. -/
namespace Ro
open PySem PySem.Spec PyProof.Rows L2

theorem preSum_list : ∀ l : List Int, preSum (fun i => (l[i]?).getD 0) l.length = l.sum
  | [] => rfl
  | x :: r => by
    have ih := preSum_list r
    have h := PySem.W.kdu_shift (fun i => ((x :: r)[i]?).getD 0) r.length
    rw [List.length_cons, h, List.sum_cons, ← ih]
    simp
section
variable {X : Cx}
def tSumN (P : Program) (w : World) (td : TE) : TE := fun σ H Q => td σ H fun x H1 => ∃ d xs, x = .ref d ∧ H1 d = some (ND P w d xs) ∧ Q (.int (xs.map (·.2.2)).sum) H1
/-- sum(d.values()) -/
theorem pe_sumN {d : Expr} {td : TE} {p ap cp pos : Pos} (hc : X.calm = true) (hg : Gl X "sum") (hm : X.mg "sum" = none) (hd : PE X d td) (hbase : attributeBase d "values" X.env (eval d X.env) = eval d X.env := by rfl) (hline : (ap.endLine == cp.line) = true := by rfl)
    (na : starEach [.Call (.Attribute d "values" ap) [] [] cp] X.env = [(false, eval (.Call (.Attribute d "values" ap) [] [] cp) X.env)] := by rfl) : PE X (.Call (.Name "sum" p) [.Call (.Attribute d "values" ap) [] [] cp] [] pos) (tSumN X.prog X.w td) := by
  refine ⟨fun pins s σ H Q I h => ?_⟩
  refine Call_ (ld_blt I hg hm bt_sum ?_)
  refine PyProof.Rows.callWith_builtin1 (PyProof.Rows.args_cons ?_ na) na rfl
  refine wpAny_Call_method (T := "dict") (id := "dict.values") hbase rfl hline F.plainAttrs_dict F.slot_dict_values F.type_dict_values (thn (hd.run pins s σ H _ I h) fun u s1 h1 => ?_)
  obtain ⟨x, H1, I1, rx, a, xs, rfl, e, q⟩ := h1
  cases rx
  have N := (I1.hok a _ e).1
  obtain ⟨t1, t2⟩ := NOf.isDict N
  obtain ⟨hs, es, ep, raw, hsz, hat⟩ := NOf.raw N
  refine ⟨t1, t2, ?_⟩
  have I2 : Inv X pins σ H1 { s1 with heap := s1.heap.push { cls := .type "dict_values", data := .fields #[.ref a] } } := I1.kept (t' := s1.toks) fun b ob q => Heap.get?_push_of_some _ q
  show wpAny _ _ (callWith cp (.builtin "dict.values") [.ref a] [] []) _ X.xe s1
  refine method_meetsIn F.slot_dict_values F.entry_dict_values rfl (PySem.evalArgs_none ⟨rfl, t1, F.args_dict_values_1 _, _, meets_dict_values_raw a hs, ⟨⟨es, ep, raw⟩, ?_⟩⟩)
  refine PyProof.Rows.args_nil ?_
  have Ks : PySem.W.KdlSrc X.prog X.w "dict_values" s1.heap.objs.size a es.size (fun i v => ∃ hi : i < es.size, v = es[i].val) (fun h => h.IsValuesView s1.heap.objs.size a ∧ h.DictRaw a es ep) := KdlSrc.rawValues
  have ok : (s1.heap.push { cls := .type "dict_values", data := .fields #[.ref a] }).IsValuesView s1.heap.objs.size a ∧ (s1.heap.push { cls := .type "dict_values", data := .fields #[.ref a] }).DictRaw a es ep :=
    ⟨⟨_, Heap.get?_push_size _ rfl, rfl, rfl⟩, raw.at fun o q => Heap.get?_push_of_some _ q⟩
  refine call_sum_walkAnyS ?_
  generalize hs2 : ({ s1 with heap := s1.heap.push { cls := .type "dict_values", data := .fields #[.ref a] } } : Shared) = s2 at I2 ⊢
  have ok2 : s2.heap.IsValuesView s1.heap.objs.size a ∧ s2.heap.DictRaw a es ep := by rw [← hs2]; exact ok
  obtain ⟨oI, St, hit, W, st⟩ := Ks.iter X.A.in1 s2 (I.ok.hd hc) ok2
  refine hit _ _ ⟨s2.heap.objs.size, _, _, _, es.size, _, _, fun i => ((xs.map (·.2.2))[i]?).getD 0, rfl, W.toS, st, fun b hb => ?_, fun i v hv => ?_, fun s' t' hm => ?_⟩
  · show b < (s2.heap.push oI).objs.size
    rw [size_push']
    rcases List.mem_cons.mp hb with e | hb
    · rw [e]; exact Nat.lt_succ_self _
    · rw [List.mem_singleton.mp hb]; exact Nat.lt_succ_of_lt (Ks.there _ ok2).2
  · obtain ⟨hi, rfl⟩ := hv
    obtain ⟨y, hy, _, t, hv⟩ := hat i hi
    refine ⟨t, hv.trans ?_⟩
    show _ = Value.int (((xs.map (·.2.2))[i]?).getD 0) t
    rw [List.getElem?_map, hy]; rfl
  · have hk : ∀ b o, s2.heap.get? b = some o → s'.heap.get? b = some o := fun b o e =>
      hm.heap b o (fun hI => absurd (Heap.lt_size e) (by rw [List.mem_singleton.mp hI]; exact Nat.lt_irrefl _)) (Heap.get?_push_of_some _ e)
    rw [Moved.eq_with hm]
    have es2 : es.size = (xs.map (·.2.2)).length := by rw [List.length_map]; exact hsz
    rw [es2, preSum_list]
    exact ⟨.int _, H1, I2.kept (h' := s'.heap) (t' := s'.toks) hk, ⟨t', rfl⟩, q⟩
/-- x not in t, t a tuple, by == of data -/
def rNotInT (K : PySem.W.Frag) : R2 := fun x y H Q => ∃ d ds, Dp K H x d ∧ Dp K H y (.tuple ds) ∧ SeqAt.shaped d = true ∧ SeqAt.shaped (.tuple ds) = true ∧ Q (.bl (!ds.any fun z => PyData.eqv z d)) H
theorem op_notInT (hu : X.A.units + 65 < cLine) : OpR X (compareOp .NotIn) (rNotInT X.K) := by
  intro pins s σ H x y v u Q I rx ry ⟨d, ds, hd, he, sd, se, q⟩
  obtain ⟨as, r1⟩ := Dp.reads I d x v hd rx
  obtain ⟨bs, r2⟩ := Dp.reads I (.tuple ds) y u he ry
  have cl : PyData.canLayAll0 ds = true := by
    have := SeqAt.canLay_of_shaped se
    rw [PyData.canLay0] at this
    exact this
  exact SeqAt.notIn_tuple_reads r2 r1 cl (SeqAt.canLay_of_shaped sd) (room_in_shaped sd hu) ⟨.bl _, H, I, rfl, q⟩
end

section
variable {P : Program} {w : World} {K : PySem.W.Frag} {mg : Str → Option Value} {base : Heap}
/-! ### check_log, group_after, available -/
theorem eqv_self {l : Lg} (h : ∀ p ∈ l, PrOk p) : PyData.eqv (encL l) (encL l) = true := SeqAt.eqv_refl _ (lay_L h)
def spCheckLog : Sp := fun vs H Q _ => ∃ v u F l, vs = [v, u] ∧ Tv H v (encF F) ∧ Tv H u (encL l) ∧ GOk F ∧ l ∈ F ∧ LgOk l ∧ RV H Q .non
theorem ok_check_log (D : Df K mg "check_log" s_check_log p_check_log) (B : Bu mg) (oc : Ok P w K mg base 7 "check_logs" p_check_logs spNone) (oh : Ok P w K mg base 3 "has_log_form" p_has_log_form spLogForm) : Ok P w K mg base 8 "check_log" p_check_log spCheckLog := by
  refine D.ok sc_check_log (fun vs H Q E h => ?_) fun f cdv A outer s H vs Q E hr h => ?_
  · obtain ⟨v, u, F, l, rfl, _⟩ := h
    rfl
  · obtain ⟨v, u, F, l, rfl, hv, hu', hF, hl, hlo, q⟩ := h
    have hu : (A.deeper (envOfC (Str.ofString "check_log") (defScope s_check_log) s.heap.objs.size f cdv)).units + 65 < cLine := by have := hr.un; omega
    refine ⟨_, pss_cons (ps_expr (pe_cl oc hr (pa_cons (pv 0) pa_nil)))
      (pss_one (ps_if (PW.pt (pw_or (pt_not (pt_val (pe_cl oh (hr.mono (by decide)) (pa_cons (pv 1) pa_nil)))) (pw_or1 (pt_cmpR (op_notInT hu) (pv 1) (pv 0) rfl)))) pss_never pss_nil)), ?_⟩
    refine ⟨_, rfl, v, F, rfl, hv, hF, fun H1 k1 => ?_⟩
    refine ⟨_, rfl, u, l, rfl, hu'.keep k1, hlo, fun H2 k2 => ⟨true, rfl, iteF ?_⟩⟩
    have k12 := k1.trans k2
    refine ⟨_, rfl, _, rfl, encL l, F.map encL, (hu'.keep k12).dp, (hv.keep k12).dp, shaped_of (lay_L fun p hp => (hF.fm.wf l hl).2.2 p hp) (Nat.le_trans (depth_L l) (by decide)), hF.fm.shaped, _, rfl, ?_⟩
    have : (F.map encL).any (fun z => PyData.eqv z (encL l)) = true := List.any_eq_true.mpr ⟨encL l, List.mem_map.mpr ⟨l, hl, rfl⟩, eqv_self fun p hp => (hF.fm.wf l hl).2.2 p hp⟩
    rw [this]
    exact iteF (q _ k12)
/-- the pairs of a log whose cells are in ds -/
theorem agr_after {F : Fm} {l : Lg} {ds : List Str} (hn : (cells l).Nodup) (hs : ∀ c ∈ ds, c ∈ cells l) : F.filter (agr (l.filter fun p => decide (p.1 ∈ ds))) = after F l ds := by
  unfold after agr
  refine List.filter_congr fun m _ => ?_
  rw [Bool.eq_iff_iff, List.all_eq_true, List.all_eq_true]
  constructor
  · intro h c hc
    obtain ⟨⟨c', v⟩, hp, rfl⟩ := List.mem_map.mp (hs c hc)
    have := h (c', v) (List.mem_filter.mpr ⟨hp, decide_eq_true hc⟩)
    rw [get_of_mem hn hp]
    exact this
  · rintro h ⟨c, v⟩ hp
    obtain ⟨hp1, hp2⟩ := List.mem_filter.mp hp
    have := h c (of_decide_eq_true hp2)
    rw [get_of_mem hn hp1] at this
    exact this
theorem after_ok {F : Fm} {l : Lg} {ds : List Str} (hF : FmOk F) (hl : l ∈ F) : FmOk (after F l ds) := hF.filter _ (List.ne_nil_of_mem (List.mem_filter.mpr ⟨hl, List.all_eq_true.mpr fun c _ => decide_eq_true rfl⟩))
def spAfter : Sp := fun vs H Q _ => ∃ v u dn F l ds, vs = [v, u, .ref dn] ∧ Tv H v (encF F) ∧ Tv H u (encL l) ∧ Pt H dn (ds.map V.str) ∧ FmOk F ∧ l ∈ F ∧ (∀ c ∈ ds, c ∈ cells l) ∧ RD H Q (encF (after F l ds))
theorem ok_group_after (D : Df K mg "group_after" s_group_after p_group_after) (B : Bu mg) (oa : Ok P w K mg base 1 "agreeing" p_agreeing spAgreeing) : Ok P w K mg base 2 "group_after" p_group_after spAfter := by
  refine D.ok sc_group_after (fun vs H Q E h => ?_) fun f cdv A outer s H vs Q E hr h => ?_
  · obtain ⟨v, u, dn, F, l, ds, rfl, _⟩ := h
    rfl
  · obtain ⟨v, u, dn, F, l, ds, rfl, hv, hu, hdn, hF, hl, hs, q⟩ := h
    obtain ⟨a, xs, rfl, hp, hT⟩ := hu.tuple
    have hxl : xs.length = l.length := hT.len
    have hll := hF.len l hl
    refine ⟨_, pss_one (ps_ret (pe_cl oa hr (pa_cons (pv 0) (pa_cons (pe_callTy (tupQ K) (by rfl) B.tuple bt_tuple (pa_cons
      (pe_lc (own := [("pair", 3)]) (g := gName 3) rfl sc_group_after.nd (pi_tup (pv 1)) (blkOk_by (N := n_group_after) (sc := defScope s_group_after) (by decide +kernel))
        (fun _ _ _ _ _ => pg_name (i := 3) sc_group_after.nd rfl (.inl rfl))
        (fun _ _ _ _ _ => pts_one (pt_cmpR (inQ K) (pe_ix (ixT K) (pv 3) pe_int (fun _ _ => rfl)) (pv 2) rfl))
        (fun _ _ _ _ _ => pv 3)) pa_nil)) pa_nil)))), ?_⟩
    refine ⟨_, rfl, _, rfl, a, rfl, ⟨xs, hp.sqt⟩, fun D1 n1 => ?_⟩
    refine lc_acc (walk_tup (xs := xs)) n1 (S := Nil) (fun z => z) (by omega) (fun i H ys => TvAll H ys (((l.take i).filter fun p : Pr => decide (p.1 ∈ ds)).map encP)) .nil (fun _ _ _ _ e t => TvAll.atD e t) (fun _ k => (hp.keep k).sqt) (fun i x H2 H2' ys hi k2 e2 a2 y Kt Kf ht hf => ?_) fun H2 ys k2 e2 a2 => ?_
    · obtain ⟨rfl, hx⟩ := y
      obtain ⟨⟨c, v'⟩, hpr, tv⟩ := hT.at hx
      have tv2 := tv.keep k2
      obtain ⟨bp, rfl, hbp⟩ := TvAll.inv_pairs tv2
      have st := filter_snoc (p := fun p : Pr => decide (p.1 ∈ ds)) hpr
      refine ⟨rfl, _, rfl, bp, _, 0, _, rfl, rfl, hbp.sqt, atI_0, _, rfl, dn, _, rfl, .inr (hdn.keep k2).sqt, rfl, flat_strs' ds, ?_⟩
      rw [inV_strs]
      refine ⟨_, rfl, ite2 (fun hb => ?_) (fun hb => ?_)⟩
      · have hb : decide (c ∈ ds) = true := by simpa using hb
        refine ⟨_, rfl, ht _ _ Kp.refl ?_⟩
        rw [st, if_pos hb, List.map_append]
        exact a2.snoc tv2
      · have hb : ¬ decide (c ∈ ds) = true := by simpa using hb
        refine hf _ Kp.refl ?_
        rw [st, if_neg hb, List.append_nil]
        exact a2
    · rw [hxl, List.take_length] at a2
      refine ⟨D1, _, rfl, SqL.of e2, fun r o nr hc hd => ?_⟩
      have kr : Kp Nil H2 (upd H2 r (.frz o (.tup ys))) := Kp.new Kp.refl nr
      have k2r := k2.trans kr
      refine ⟨_, _, F, l.filter fun p => decide (p.1 ∈ ds), rfl, hv.keep k2r, .tup (Pt.new hc hd) (a2.keep kr), Nat.le_trans hF.le (by decide), hF.wf, Nat.le_trans (List.length_filter_le _ _) hll, fun v3 H3 k3 t3 => q v3 H3 (k2r.trans k3) ?_⟩
      rw [← agr_after (hF.nd l hl) hs]
      exact t3
def spAvail : Sp := fun vs H Q _ => ∃ v u dn F l ds, vs = [v, u, .ref dn] ∧ Tv H v (encF F) ∧ Tv H u (encL l) ∧ Pt H dn (ds.map V.str) ∧ FmOk F ∧ l ∈ F ∧ (∀ c ∈ ds, c ∈ cells l) ∧ RD H Q (.tuple ((avail F l ds).map .str))
theorem ok_available (D : Df K mg "available" s_available p_available) (B : Bu mg) (og : Ok P w K mg base 2 "group_after" p_group_after spAfter) (ou : Ok P w K mg base 2 "unread_shared" p_unread_shared (spUnread K)) : Ok P w K mg base 3 "available" p_available spAvail := by
  refine D.ok sc_available (fun vs H Q E h => ?_) fun f cdv A outer s H vs Q E hr h => ?_
  · obtain ⟨v, u, dn, F, l, ds, rfl, _⟩ := h
    rfl
  · obtain ⟨v, u, dn, F, l, ds, rfl, hv, hu, hdn, hF, hl, hs, q⟩ := h
    refine ⟨_, pss_one (ps_ret (pe_callTy (tupQ K) (by rfl) B.tuple bt_tuple (pa_cons (pe_cl ou hr (pa_cons (pe_cl og hr (pa_cons (pv 0) (pa_cons (pv 1) (pa_cons (pv 2) pa_nil)))) (pa_cons (pv 2) pa_nil))) pa_nil))), ?_⟩
    refine ⟨_, rfl, _, rfl, _, rfl, v, u, dn, F, l, ds, rfl, hv, hu, hdn, hF, hl, hs, fun v1 H1 k1 t1 => ?_⟩
    refine ⟨_, rfl, v1, dn, after F l ds, ds, rfl, t1, after_ok hF hl, (hdn.keep k1).sqt, fun p H2 k2 n2 e2 => ?_⟩
    refine ⟨p, _, rfl, SqL.of e2, fun r o nr hc hd => q _ _ ((k1.trans k2).trans (Kp.new Kp.refl nr)) (.tup (Pt.new hc hd) (TvAll.strs _))⟩
end
end Ro

/-! RoOrders2: count_orders. -/
namespace Ro
open PySem PySem.Spec PyProof.Rows L2

abbrev WL := List (List Str × Nat)
theorem kS_inj {a b : List Str} (h : kS a = kS b) : a = b := by
  have : kk [] a = kk [] b := by unfold kk; rw [h]
  exact (kk_inj this).2
theorem kS_depth (ds : List Str) : (kS ds).depth ≤ 8 := by
  unfold kS
  rw [NestedKey.depth]
  have := kd_all (f := NestedKey.text) (n := 0) (l := ds) fun p _ => by simp [NestedKey.depth]
  omega
/-- the entries' keys and values -/
abbrev WRel (xs : List NE) (ws : WL) : Prop := xs.map (fun e => (e.1, e.2.2)) = ws.map fun p => (kS p.1, ((p.2 : Nat) : Int))
theorem WRel.cons {e : NE} {xs : List NE} {p : List Str × Nat} {ws : WL} (h : WRel (e :: xs) (p :: ws)) : e.1 = kS p.1 ∧ e.2.2 = ((p.2 : Nat) : Int) ∧ WRel xs ws := by
  have h : (e.1, e.2.2) :: xs.map (fun e => (e.1, e.2.2)) = (kS p.1, ((p.2 : Nat) : Int)) :: ws.map fun p => (kS p.1, ((p.2 : Nat) : Int)) := h
  injection h with h1 h2
  injection h1 with h3 h4
  exact ⟨h3, h4, h2⟩
theorem WRel.at {xs : List NE} {ws : WL} {i : Nat} {e : NE} (h : WRel xs ws) (he : xs[i]? = some e) : ∃ p, ws[i]? = some p ∧ e.1 = kS p.1 ∧ e.2.2 = ((p.2 : Nat) : Int) := by
  have q : (xs.map fun e => (e.1, e.2.2))[i]? = (ws.map fun p => (kS p.1, ((p.2 : Nat) : Int)))[i]? := by rw [h]
  rw [List.getElem?_map, List.getElem?_map, he] at q
  cases hw : ws[i]? with
  | none => rw [hw] at q; cases q
  | some p =>
    rw [hw] at q
    have q := Option.some.inj q
    injection q with q1 q2
    exact ⟨p, rfl, q1, q2⟩
theorem WRel.len {xs : List NE} {ws : WL} (h : WRel xs ws) : xs.length = ws.length := by
  have := congrArg List.length h
  rw [List.length_map, List.length_map] at this
  exact this
theorem nval_cons (e : NE) (xs : List NE) (k : NestedKey) : nval (e :: xs) k = if e.1 = k then some e.2.2 else nval xs k := by
  unfold nval
  by_cases h : e.1 = k
  · rw [List.find?_cons_of_pos (by simpa using h), if_pos h]; rfl
  · rw [List.find?_cons_of_neg (by simpa using h), if_neg h]
theorem bump_key (k : List Str) (m : Nat) : ∀ ws : WL, ∀ p ∈ bump k m ws, p.1 = k ∨ ∃ q ∈ ws, p.1 = q.1
  | [], p, h => .inl (by rw [List.mem_singleton.mp h])
  | (d, x) :: r, p, h => by
    unfold bump at h
    split at h
    · rcases List.mem_cons.mp h with h | h
      · exact .inr ⟨(d, x), List.mem_cons_self, by rw [h]⟩
      · exact .inr ⟨p, List.mem_cons_of_mem _ h, rfl⟩
    · rcases List.mem_cons.mp h with h | h
      · exact .inr ⟨(d, x), List.mem_cons_self, by rw [h]⟩
      · rcases bump_key k m r p h with e | ⟨q, hq, e⟩
        · exact .inl e
        · exact .inr ⟨q, List.mem_cons_of_mem _ hq, e⟩
theorem bump_nodup (k : List Str) (m : Nat) : ∀ ws : WL, (ws.map (·.1)).Nodup → ((bump k m ws).map (·.1)).Nodup
  | [], _ => by simp [bump]
  | (d, x) :: r, h => by
    have h' := List.nodup_cons.mp h
    unfold bump
    split
    · exact h
    · rename_i ne
      refine List.nodup_cons.mpr ⟨fun z => ?_, bump_nodup k m r h'.2⟩
      obtain ⟨p, hp, e⟩ := List.mem_map.mp z
      have e : p.1 = d := e
      rcases bump_key k m r p hp with q | ⟨q, hq, e2⟩
      · exact ne (by rw [← e, q])
      · exact h'.1 (List.mem_map.mpr ⟨q, hq, by rw [← e2, e]⟩)
/-- what a store of the sum makes of the table -/
theorem nput_bump {a : Addr} (k : List Str) (m : Nat) : ∀ {xs : List NE} {ws : WL}, WRel xs ws → (ws.map (·.1)).Nodup → WRel (nput xs (kS k) a ((nval xs (kS k)).getD 0 + (m : Int))) (bump k m ws)
  | [], [], _, _ => by
    show [(kS k, (0 : Int) + (m : Int))] = [(kS k, ((m : Nat) : Int))]
    rw [Int.zero_add]
  | [], _ :: _, h, _ => by cases h
  | _ :: _, [], h, _ => by cases h
  | e :: xs, (d, x) :: ws, h, hn => by
    obtain ⟨h1, h2, h3⟩ := h.cons
    have hn' := List.nodup_cons.mp hn
    have ih := nput_bump (a := a) k m h3 hn'.2
    have h1 : e.1 = kS d := h1
    have h2 : e.2.2 = ((x : Nat) : Int) := h2
    unfold bump
    by_cases c : d = k
    · rw [if_pos c]
      have ek : e.1 = kS k := by rw [h1, c]
      have none' : ∀ y ∈ xs, y.1 ≠ kS k := fun y hy z => by
        obtain ⟨i, hi⟩ := List.mem_iff_getElem?.mp hy
        obtain ⟨p, hp, e1, _⟩ := h3.at hi
        have : p.1 = k := kS_inj (e1.symm.trans z)
        exact hn'.1 (List.mem_map.mpr ⟨p, List.mem_of_getElem? hp, by rw [this, c]⟩)
      have nv : nval (e :: xs) (kS k) = some e.2.2 := by rw [nval_cons, if_pos ek]
      unfold nput
      rw [nv]
      show ((e :: xs).map (nset (kS k) (e.2.2 + (m : Int)))).map _ = _
      rw [List.map_cons, List.map_cons, List.map_cons]
      have he : nset (kS k) (e.2.2 + (m : Int)) e = (e.1, e.2.1, e.2.2 + (m : Int)) := by unfold nset; rw [if_pos ek]
      have hx : xs.map (nset (kS k) (e.2.2 + (m : Int))) = xs := by
        conv => rhs; rw [← List.map_id xs]
        refine List.map_congr_left fun y hy => ?_
        unfold nset
        rw [if_neg (none' y hy)]; rfl
      rw [he, hx, h3]
      show (e.1, e.2.2 + (m : Int)) :: _ = (kS d, (((x + m : Nat)) : Int)) :: _
      rw [h1, h2, Int.natCast_add]
    · rw [if_neg c]
      have ek : e.1 ≠ kS k := fun z => c (kS_inj (h1.symm.trans z))
      have nv : nval (e :: xs) (kS k) = nval xs (kS k) := by rw [nval_cons, if_neg ek]
      have es : ∀ i : Int, nset (kS k) i e = e := fun i => by unfold nset; rw [if_neg ek]
      have en : ∀ i : Int, nput (e :: xs) (kS k) a i = e :: nput xs (kS k) a i := fun i => by
        unfold nput
        rw [nv]
        split
        · rw [List.map_cons, es]
        · rfl
      rw [nv, en]
      show (e.1, e.2.2) :: _ = (kS d, ((x : Nat) : Int)) :: _
      rw [h1, h2]
      exact congrArg _ ih
/-- a table of ways at d -/
structure Ways (P : Program) (w : World) (H : Hp) (d : Addr) (l : Lg) (n : Nat) (xs : List NE) (ws : WL) : Prop where
  at_ : H d = some (ND P w d xs)
  keys : NKeys H xs
  rel : WRel xs ws
  nd : (ws.map (·.1)).Nodup
  of : ∀ p ∈ ws, GOf [l] (l, p.1)
theorem Ways.few {P : Program} {w : World} {H : Hp} {d : Addr} {l : Lg} {n : Nat} {xs : List NE} {ws : WL} (h : Ways P w H d l n xs ws) (hl : l.length ≤ 12) : xs.length < sizeLine := by
  have := few_keys (R := [l]) (gs := ws.map fun p => (l, p.1)) (by
    have := map_nodup (f := fun x : List Str => (l, x)) h.nd fun x _ y _ e => by injection e
    rw [List.map_map] at this
    exact this) (fun g hg => by
      obtain ⟨p, hp, rfl⟩ := List.mem_map.mp hg
      exact h.of p hp) (by show 1 ≤ 60; decide) fun m hm => by rw [List.mem_singleton.mp hm]; exact hl
  rw [List.length_map] at this
  rw [h.rel.len, sizeLine_eq]; omega
theorem Ways.sum {P : Program} {w : World} {H : Hp} {d : Addr} {l : Lg} {n : Nat} {xs : List NE} {ws : WL} (h : Ways P w H d l n xs ws) : (xs.map (·.2.2)).sum = (((ws.map (·.2)).sum : Nat) : Int) := by
  have e : xs.map (·.2.2) = (xs.map fun e => (e.1, e.2.2)).map (·.2) := by rw [List.map_map]; rfl
  rw [e, h.rel, List.map_map]
  clear h e
  induction ws with
  | nil => rfl
  | cons p r ih => rw [List.map_cons, List.map_cons, List.sum_cons, List.sum_cons, ih, Int.natCast_add]; rfl
theorem Ways.keep {P : Program} {w : World} {H H' : Hp} {d : Addr} {l : Lg} {n : Nat} {xs : List NE} {ws : WL} {S : Addr → Prop} (h : Ways P w H d l n xs ws) (k : Kp S H H') (sd : ¬ S d) : Ways P w H' d l n xs ws :=
  ⟨k.keep _ _ h.at_ sd, h.keys.keep k, h.rel, h.nd, h.of⟩
theorem Ways.bump {P : Program} {w : World} {H : Hp} {d a : Addr} {l : Lg} {n : Nat} {xs : List NE} {ws : WL} (h : Ways P w H d l n xs ws) (k : List Str) (m : Nat) (hk : NKey H (kS k) a) (hg : GOf [l] (l, k)) :
    Ways P w (upd H d (ND P w d (nput xs (kS k) a ((nval xs (kS k)).getD 0 + (m : Int))))) d l n (nput xs (kS k) a ((nval xs (kS k)).getD 0 + (m : Int))) (Ro.bump k m ws) := by
  have ko : Kp (One d) H (upd H d (ND P w d (nput xs (kS k) a ((nval xs (kS k)).getD 0 + (m : Int))))) := Kp.own Kp.refl rfl fun u v z => by rw [h.at_] at z; cases z
  refine ⟨upd_same, (h.keys.put hk).keep ko, nput_bump k m h.rel h.nd, bump_nodup k m ws h.nd, fun p hp => ?_⟩
  rcases bump_key k m ws p hp with e | ⟨q, hq, e⟩
  · rw [e]; exact hg
  · rw [e]; exact h.of q hq
/-- a thing locked, then let go -/
theorem Kp.lock {S : Addr → Prop} {H : Hp} {d : Addr} {u : HO} {o : Obj} (hd : H d = some u) (hn : ∀ o v, u ≠ .frz o v) : Kp (One d) H (upd H d (.frz o u)) := Kp.own Kp.refl rfl fun o v z => by rw [hd] at z; exact hn o v (Option.some.inj z)
theorem Kp.unlock {S : Addr → Prop} {H H' : Hp} {d : Addr} {u : HO} {o : Obj} (hd : H d = some u) (hn : ∀ o v, u ≠ .frz o v) (k : Kp S (upd H d (.frz o u)) H') : Kp S H (upd H' d u) :=
  ⟨fun a x h s => by
    by_cases e : a = d
    · rw [e] at h ⊢
      rw [upd_same, ← h, hd]
    · rw [upd_ne e]
      exact k.keep a x (by rw [upd_ne e]; exact h) s,
   fun a x v h => by
    have e : a ≠ d := fun e => by rw [e, hd] at h; exact hn x v (Option.some.inj h)
    rw [upd_ne e]
    exact k.frz a x v (by rw [upd_ne e]; exact h)⟩
/-- the plain tuples stand -/
def Kt (H H' : Hp) : Prop := ∀ a o xs, H a = some (.frz o (.tup xs)) → H' a = some (.frz o (.tup xs))
mutual
theorem Tv.keepT {H H' : Hp} (k : Kt H H') : ∀ {v : V} {d : PyData}, Tv H v d → Tv H' v d
  | _, _, .int i => .int i
  | _, _, .str x => .str x
  | _, _, .tup ⟨o, e, r⟩ t => .tup ⟨o, k _ _ _ e, r⟩ (TvAll.keepT k t)
theorem TvAll.keepT {H H' : Hp} (k : Kt H H') : ∀ {vs : List V} {ds : List PyData}, TvAll H vs ds → TvAll H' vs ds
  | _, _, .nil => .nil
  | _, _, .cons h t => .cons (Tv.keepT k h) (TvAll.keepT k t)
end
theorem ND_frz {P : Program} {w : World} {d : Addr} {xs : List NE} : ∀ o v, ND P w d xs ≠ .frz o v := fun o v e => by cases e
/-! ### the rules told by the program and the world -/
section
variable {X : Cx} (P : Program) (w : World)
theorem newN {pos : Pos} (hP : X.prog = P := by rfl) (hw : X.w = w := by rfl) : PE X (.Dict [] [] pos) (tNewN P w) := by subst hP hw; exact pe_newN
theorem dispN {k v : Expr} {tk tv : TE} {pos : Pos} (hu : X.A.units + 64 < cLine) (hk : PE X k tk) (hv : PE X v tv) (hP : X.prog = P := by rfl) (hw : X.w = w := by rfl) : PE X (.Dict [some k] [v] pos) (tDispN P w tk tv) := by subst hP hw; exact pe_dispN hu hk hv
theorem getN {o e f : Expr} {td ty tx : TE} {apos cpos : Pos} (hu : X.A.units + 64 < cLine) (ho : PE X o td) (he : PE X e ty) (hf : PE X f tx) (m : M2 X o "get" apos e f cpos) (hP : X.prog = P := by rfl) (hw : X.w = w := by rfl) :
    PE X (.Call (.Attribute o "get" apos) [e, f] [] cpos) (tGetN P w td ty tx) := by subst hP hw; exact pe_getN hu ho he hf m
theorem putN (hu : X.A.units + 64 < cLine) (hP : X.prog = P := by rfl) (hw : X.w = w := by rfl) : PSet X (sPutN P w) := by subst hP hw; exact ps_putN hu
theorem itemsN {e : Expr} {td : TE} {apos cpos : Pos} {elts : List Expr} {kk : Nat} {tpos : Pos} (he : PE X e td) (hbase : attributeBase e "items" X.env (eval e X.env) = eval e X.env := by rfl) (hline : (apos.endLine == cpos.line) = true := by rfl) (hP : X.prog = P := by rfl) (hw : X.w = w := by rfl) :
    PI X (.Tuple elts kk tpos) (.Call (.Attribute e "items" apos) [] [] cpos) (iItemsN P w td) := by subst hP hw; exact pi_itemsN he hbase hline
theorem sumN {d : Expr} {td : TE} {p ap cp pos : Pos} (hc : X.calm = true) (hg : Gl X "sum") (hm : X.mg "sum" = none) (hd : PE X d td) (hbase : attributeBase d "values" X.env (eval d X.env) = eval d X.env := by rfl) (hline : (ap.endLine == cp.line) = true := by rfl)
    (na : starEach [.Call (.Attribute d "values" ap) [] [] cp] X.env = [(false, eval (.Call (.Attribute d "values" ap) [] [] cp) X.env)] := by rfl) (hP : X.prog = P := by rfl) (hw : X.w = w := by rfl) :
    PE X (.Call (.Name "sum" p) [.Call (.Attribute d "values" ap) [] [] cp] [] pos) (tSumN P w td) := by subst hP hw; exact pe_sumN hc hg hm hd hbase hline na
end
section
variable {P : Program} {w : World} {K : PySem.W.Frag} {mg : Str → Option Value} {base : Heap}
def spOrders : Sp := fun vs H Q _ => ∃ v u F l, vs = [v, u] ∧ Tv H v (encF F) ∧ Tv H u (encL l) ∧ GOk F ∧ l ∈ F ∧ LgOk l ∧ l.length ≤ 12 ∧ RV H Q (.int ((orders F l : Nat) : Int))
theorem avail_sub {F : Fm} {l : Lg} {ds : List Str} (hl : l ∈ F) {c : Str} (hc : c ∈ avail F l ds) : c ∈ cells l ∧ c ∉ ds := by
  obtain ⟨h1, h2⟩ := mem_unread.mp hc
  exact ⟨mem_shared' h1 l (List.mem_filter.mpr ⟨hl, List.all_eq_true.mpr fun c _ => decide_eq_true rfl⟩), h2⟩
theorem ok_count_orders (D : Df K mg "count_orders" s_count_orders p_count_orders) (B : Bu mg) (Cn : Cs mg) (oc : Ok P w K mg base 8 "check_log" p_check_log spCheckLog) (oa : Ok P w K mg base 3 "available" p_available spAvail) :
    Ok P w K mg base 9 "count_orders" p_count_orders spOrders := by
  refine D.ok sc_count_orders (fun vs H Q E h => ?_) fun f cdv A outer s H vs Q E hr h => ?_
  · obtain ⟨v, u, F, l, rfl, _⟩ := h
    rfl
  · obtain ⟨v, u, F, l, rfl, hv, hul, hF, hl, hlo, h12, q⟩ := h
    have hu := hr.units
    obtain ⟨a, xs, rfl, hp, hT⟩ := hul.tuple
    have hxl : xs.length = l.length := hT.len
    refine ⟨_, pss_cons (ps_expr (pe_cl oc hr (pa_cons (pv 0) (pa_cons (pv 1) pa_nil))))
      (pss_cons (ps_if (pt_cmpR op_gt (pe_callB (lenQ K) (by rfl) B.len bt_len (pa_cons (pv 1) pa_nil)) (pe_gc Cn.counted12) (nomark _)) pss_never pss_nil)
      (pss_cons (ps_set (i := 2) sc_count_orders.nd rfl (.inl rfl) (dispN P w hu (pe_tupP pa_nil) pe_int))
      (pss_cons (ps_for PassesOwn.never rfl (pi_range1 (by rfl) B.range (pa_cons (pe_callB (lenQ K) (by rfl) B.len bt_len (pa_cons (pv 1) pa_nil)) pa_nil)) (pg_name (i := 3) sc_count_orders.nd rfl (.inl rfl))
        (pss_cons (ps_set (i := 4) sc_count_orders.nd rfl (.inl rfl) (newN P w))
        (pss_cons (ps_lock (ps_for PassesOwn.never rfl (itemsN P w (pv 2)) (pg_tup rfl (pgs_cons (pg_name (i := 5) sc_count_orders.nd rfl (.inl rfl)) (pgs_cons (pg_name (i := 6) sc_count_orders.nd rfl (.inl rfl)) pgs_nil)))
          (pss_one (ps_for PassesOwn.never rfl (pi_tup (pe_cl oa (hr.mono (by decide)) (pa_cons (pv 0) (pa_cons (pv 1) (pa_cons (pv 5) pa_nil))))) (pg_name (i := 7) sc_count_orders.nd rfl (.inl rfl))
            (pss_cons (ps_set (i := 8) sc_count_orders.nd rfl (.inl rfl) (pe_callTy (tupQ K) (by rfl) B.tuple bt_tuple (pa_cons (pe_callB (sortQ K hu) (by rfl) B.sorted bt_sorted (pa_cons (pe_op op_catPt (pv 5) (pe_tupP (pa_cons (pv 7) pa_nil))) pa_nil)) pa_nil)))
            (pss_one (ps_asg (pe_op op_add (getN P w hu (pv 4) (pv 8) pe_int ⟨by rfl, by rfl, rfl, by rfl⟩) (pv 6)) (pg_sub (pv 4) (pv 8) (putN P w hu)))))))))
        (pss_one (ps_set (i := 2) sc_count_orders.nd rfl (.inl rfl) (pv 4))))))
      (pss_one (ps_ret (sumN P w rfl (by rfl) B.sum (pv 2))))))), ?_⟩
    refine ⟨_, rfl, _, rfl, v, _, F, l, rfl, hv, hul, hF, hl, hlo, fun H1 k1 => ?_⟩
    refine ⟨_, rfl, a, xs, rfl, .inr (hp.keep k1).sqt, _, _, rfl, rfl, _, rfl, ?_⟩
    rw [decide_eq_false (show ¬ ((xs.length : Nat) : Int) > 12 by omega)]
    refine iteF ?_
    intro wd nwd
    have kw : Kp Nil H1 (upd H1 wd (ND P w wd [])) := Kp.new Kp.refl nwd
    refine ⟨Nat.zero_le _, fun tp to nt hct hdt => ?_⟩
    have kt : Kp Nil H1 (upd (upd H1 wd (ND P w wd [])) tp (.frz to (.tup []))) := kw.new nt
    have ntw : wd ≠ tp := fun e => by rw [← e, upd_same] at nt; cases nt
    have hk0 : NKey (upd (upd H1 wd (ND P w wd [])) tp (.frz to (.tup []))) (kS []) tp := ⟨by rw [kS_data]; exact .tup (Pt.new hct hdt) .nil, kS_depth _⟩
    refine ⟨tp, kS [], 1, rfl, rfl, hk0, by rw [upd_ne ntw]; exact upd_same, ?_⟩
    have kwn : H1 wd = none := nwd
    have k2 : Kp Nil H1 (upd (upd (upd H1 wd (ND P w wd [])) tp (.frz to (.tup []))) wd (ND P w wd [(kS [], tp, 1)])) := kt.mut nwd
    generalize hH2 : upd (upd (upd H1 wd (ND P w wd [])) tp (.frz to (.tup []))) wd (ND P w wd [(kS [], tp, 1)]) = H2 at k2
    have W0 : Ways P w H2 wd l 0 [(kS [], tp, 1)] [([], 1)] := by
      refine ⟨by rw [← hH2]; exact upd_same, fun x hx => ?_, rfl, by simp, fun p hp => ?_⟩
      · rw [List.mem_singleton.mp hx]
        rw [← hH2]
        exact hk0.keep (S := One wd) (Kp.own Kp.refl rfl fun u v z => by rw [upd_ne ntw, upd_same] at z; cases z)
      · rw [List.mem_singleton.mp hp]
        exact ⟨by simp, fun c hc => (by cases hc), List.nodup_nil, List.Pairwise.nil⟩
    have k12 := k1.trans k2
    refine ⟨_, rfl, a, xs, rfl, .inr (hp.keep k12).sqt, (xs.length : Int), rfl, by omega, by omega, ?_⟩
    have en : ((xs.length : Nat) : Int).toNat = l.length := by omega
    refine for_range (lo := 0) (n := ((xs.length : Nat) : Int).toNat) (fun t σ H3 => (∃ wd y3 y4 y5 y6 y7 y8, σ = [some v, some (.ref a), some (.ref wd), y3, y4, y5, y6, y7, y8] ∧ Kp Nil H H3 ∧ ∃ ys ws, Ways P w H3 wd l t ys ws ∧ pot F l (l.length - t) ws = orders F l)) ⟨wd, none, none, none, none, none, none, rfl, k12, _, _, W0, pot_start F l⟩ (fun t σ H3 ht hP => ?_) fun σ H3 hP => ?_
    · obtain ⟨wd, y3, y4, y5, y6, y7, y8, rfl, k3, ys, ws, W, hpot⟩ := hP
      rw [en] at ht
      intro ld nld
      have kl : Kp Nil H3 (upd H3 ld (ND P w ld [])) := Kp.new Kp.refl nld
      have hwl : wd ≠ ld := ne_of_none W.at_ nld
      have hwd : (upd H3 ld (ND P w ld [])) wd = some (ND P w wd ys) := by rw [upd_ne hwl]; exact W.at_
      refine ⟨wd, ND P w wd ys, hwd, trivial, fun od => ?_⟩
      have klock : Kp (One wd) (upd H3 ld (ND P w ld [])) (upd (upd H3 ld (ND P w ld [])) wd (.frz od (ND P w wd ys))) := Kp.lock (S := Nil) hwd ND_frz
      have keys0 : NKeys (upd (upd H3 ld (ND P w ld [])) wd (.frz od (ND P w wd ys))) ys := (W.keys.keep kl).keep klock
      have kHl : Kp (One wd) H (upd (upd H3 ld (ND P w ld [])) wd (.frz od (ND P w wd ys))) := (k3.trans kl).nil.trans klock
      generalize hH4 : upd (upd H3 ld (ND P w ld [])) wd (.frz od (ND P w wd ys)) = H4 at klock keys0 kHl
      have h4d : H4 wd = some (.frz od (ND P w wd ys)) := by rw [← hH4]; exact upd_same
      have h4l : H4 ld = some (ND P w ld []) := by rw [← hH4, upd_ne (Ne.symm hwl)]; exact upd_same
      have hne4 : ∀ {H5 : Hp}, Kp (One ld) H4 H5 → H5 wd = some (.frz od (ND P w wd ys)) := fun k => k.keep _ _ h4d hwl
      have hk : l.length - t = (l.length - (t + 1)) + 1 := by omega
      refine ⟨_, rfl, wd, od, ys, rfl, h4d, for_it walk_itemsN (fun i σ H5 => ∃ y5 y6 y7 y8, σ = [some v, some (.ref a), some (.ref wd), some (.int (0 + (t : Nat))), some (.ref ld), y5, y6, y7, y8] ∧ Kp (One ld) H4 H5 ∧ ∃ zs us, Ways P w H5 ld l (t + 1) zs us ∧
          pot F l (l.length - (t + 1)) us = ((ws.take i).map fun p => p.2 * Or F l (l.length - t) p.1).sum)
        ⟨_, _, _, _, rfl, Kp.refl, [], [], ⟨h4l, NKeys.nil _, rfl, List.nodup_nil, fun p hp => by cases hp⟩, rfl⟩ (fun _ _ _ _ h => ?_) (fun i x σ H5 H5' hi hP yy => ?_) fun σ H5 hP => ?_⟩
      · obtain ⟨_, _, _, _, _, k5, _⟩ := h
        exact hne4 k5
      · obtain ⟨T, e, he, rfl, nT, rfl⟩ := yy
        obtain ⟨y5, y6, y7, y8, rfl, k5, zs, us, U, hus⟩ := hP
        obtain ⟨⟨ds, m⟩, hws, hek, hev⟩ := W.rel.at he
        have hek : e.1 = kS ds := hek
        have hev : e.2.2 = ((m : Nat) : Int) := hev
        have hg := W.of _ (List.mem_of_getElem? hws)
        have kT : Kp Nil H5 (upd H5 T (.tup [.ref e.2.1, .int e.2.2])) := Kp.new Kp.refl nT
        have hke : NKey H4 (kS ds) e.2.1 := hek ▸ keys0 e (List.mem_of_getElem? he)
        have h1 := hke.1
        rw [kS_data] at h1
        obtain ⟨dn, edn, hdn4⟩ := h1.strs
        have edn : e.2.1 = dn := by injection edn
        refine ⟨T, _, rfl, SqT.of upd_same, rfl, _, _, rfl, _, _, rfl, rfl, ?_⟩
        have kT5 : Kp (One ld) H4 (upd H5 T (.tup [.ref e.2.1, .int e.2.2])) := k5.trans kT.nil
        have UT := U.keep kT fun z => z
        generalize hH6 : upd H5 T (.tup [.ref e.2.1, .int e.2.2]) = H6 at kT kT5 UT
        have kH6 : Kp (fun x => One wd x ∨ One ld x) H H6 := kHl.split kT5
        rw [edn, hev]
        refine ⟨_, rfl, _, rfl, _, rfl, v, _, dn, F, l, ds, rfl, hv.keep kH6, hul.keep kH6, hdn4.keep kT5, hF.fm, hl, hg.sub, fun va H7 k7 t7 => ?_⟩
        obtain ⟨av, rfl, hav⟩ := t7.strs
        have k47 := kT5.trans k7.nil
        have U7 := UT.keep k7 fun z => z
        refine ⟨av, rfl, ⟨_, hav.sqt⟩, for_it (walk_tup (xs := (avail F l ds).map V.str)) (fun j σ H8 => ∃ y7 y8, σ = [some v, some (.ref a), some (.ref wd), some (.int (0 + (t : Nat))), some (.ref ld), some (.ref dn), some (.int ((m : Nat) : Int)), y7, y8] ∧ Kp (One ld) H7 H8 ∧ ∃ zs vs, Ways P w H8 ld l (t + 1) zs vs ∧
            pot F l (l.length - (t + 1)) vs = pot F l (l.length - (t + 1)) us + (((avail F l ds).take j).map fun c => m * Or F l (l.length - (t + 1)) (c :: ds)).sum)
          ⟨_, _, rfl, Kp.refl, zs, us, U7, rfl⟩ (fun _ _ _ _ h => ?_) (fun j x σ H8 H8' hj hP yy => ?_) fun σ H8 hP => ?_⟩
        · obtain ⟨_, _, _, k8, _⟩ := h
          exact (hav.keep k8).sqt
        · obtain ⟨rfl, hx⟩ := yy
          obtain ⟨c, hc, rfl⟩ := strs_at hx
          obtain ⟨y7, y8, rfl, k8, zs8, vs, V8, hvs⟩ := hP
          obtain ⟨hc1, hc2⟩ := avail_sub hl (List.mem_of_getElem? hc)
          have hnd : (ds ++ [c]).Nodup := nd_snoc hg.nd hc2
          have hsub : ∀ x ∈ ds ++ [c], x ∈ cells l := fun x hx => by
            rcases List.mem_append.mp hx with hx | hx
            · exact hg.sub x hx
            · rw [List.mem_singleton.mp hx]; exact hc1
          have hdl : (ds ++ [c]).length ≤ 12 := by
            have := len_le_of_sub hnd hsub
            rw [List.length_map] at this
            omega
          have hdl2 : ds.length + 1 ≤ 12 := by rw [List.length_append] at hdl; exact hdl
          have hdn8 : Pt H8' dn (ds.map V.str) := (hdn4.keep k47).keep k8
          refine ⟨_, rfl, _, rfl, by show 1 ≤ sizeLine; rw [sizeLine_eq]; decide, fun tp to nt hct hdt => ⟨dn, tp, _, _, rfl, rfl, hdn8.keep (Kp.new (S := Nil) Kp.refl nt), Pt.new hct hdt, by rw [List.length_map, sizeLine_eq]; show ds.length + 1 ≤ _; omega, fun cp H9 k9 hcp => ?_⟩⟩
          have k89 : Kp Nil H8' H9 := (Kp.new (S := Nil) Kp.refl nt).trans k9
          have hcp' : Pt H9 cp ((ds ++ [c]).map V.str) := by rw [List.map_append]; exact hcp
          refine ⟨cp, _, (ds ++ [c]).map .str, rfl, .inr hcp'.sqt, TvAll.strs _, sortOk_strs _ (by rw [sizeLine_eq]; omega), fun sp ss nsp tss => ⟨sp, ss, rfl, SqL.of upd_same, fun kp ko nk hck hdk => ?_⟩⟩
          rw [sort_map] at tss
          have k9k : Kp Nil H9 (upd (upd H9 sp (.lst ss)) kp (.frz ko (.tup ss))) := (Kp.new Kp.refl nsp).new nk
          have kk9 : Kp Nil H8' (upd (upd H9 sp (.lst ss)) kp (.frz ko (.tup ss))) := k89.trans k9k
          have hkey : NKey (upd (upd H9 sp (.lst ss)) kp (.frz ko (.tup ss))) (kS (sd (ds ++ [c]))) kp := ⟨by rw [kS_data]; exact .tup (Pt.new hck hdk) (tss.keep k9k), kS_depth _⟩
          have V9 := V8.keep kk9 fun z => z
          generalize upd (upd H9 sp (.lst ss)) kp (.frz ko (.tup ss)) = H10 at kk9 hkey V9
          have hgk : GOf [l] (l, sd (ds ++ [c])) := ⟨by simp, fun x hx => hsub x ((sd_perm _).mem_iff.mp hx), (sd_perm _).nodup_iff.mpr hnd, sd_sorted _⟩
          refine ⟨_, rfl, ld, zs8, rfl, V9.at_, _, rfl, kp, zs8, kS (sd (ds ++ [c])), 0, rfl, rfl, V9.at_, V9.keys, hkey, _, rfl, _, _, rfl, rfl, _, rfl, _, rfl, ld, kp, zs8, _, kS (sd (ds ++ [c])), rfl, rfl, rfl, V9.at_, V9.keys, hkey, V9.few h12, ?_⟩
          have ko10 : Kp (One ld) H10 (upd H10 ld (ND P w ld (nput zs8 (kS (sd (ds ++ [c]))) kp ((nval zs8 (kS (sd (ds ++ [c])))).getD 0 + ((m : Nat) : Int))))) := Kp.own Kp.refl rfl fun u v z => by rw [V9.at_] at z; cases z
          refine ⟨_, _, rfl, (k8.trans kk9.nil).trans ko10, _, _, V9.bump (sd (ds ++ [c])) m hkey hgk, ?_⟩
          rw [pot_bump, hvs, take_snoc hc, List.map_append, List.sum_append, Nat.add_assoc]
          congr 2
          rw [Or_done (F := F) (l := l) (l.length - (t + 1)) (sd (ds ++ [c])) (c :: ds) fun x => by rw [(sd_perm _).mem_iff]; exact mem_snoc]
          simp
        · obtain ⟨y7, y8, rfl, k8, zs8, vs, V8, hvs⟩ := hP
          refine ⟨_, _, _, _, rfl, k47.trans k8, zs8, vs, V8, ?_⟩
          rw [hvs, hus, List.length_map, List.take_length, take_snoc hws, List.map_append, List.sum_append]
          congr 1
          show _ = [m * Or F l (l.length - t) ds].sum
          rw [hk, List.sum_singleton]
          exact (pot_step F l (l.length - (t + 1)) ds m).symm
      · obtain ⟨y5, y6, y7, y8, rfl, k5, zs, us, U, hus⟩ := hP
        refine ⟨hne4 k5, _, rfl, ?_⟩
        have kun : Kp Nil H3 (upd H5 wd (ND P w wd ys)) := by
          have h1 : Kp (One ld) (upd H3 ld (ND P w ld [])) (upd H5 wd (ND P w wd ys)) := Kp.unlock hwd ND_frz (by rw [hH4]; exact k5)
          exact Kp.less1 (kl.nil.trans h1) nld
        have kwu : Kt H5 (upd H5 wd (ND P w wd ys)) := fun x o zs h => by
          have e : x ≠ wd := fun e => by
            rw [e, hne4 k5] at h
            cases h
          rw [upd_ne e]; exact h
        refine ⟨ld, _, _, _, _, _, _, rfl, k3.trans kun, zs, us, ⟨by rw [upd_ne (Ne.symm hwl)]; exact U.at_, ?_, U.rel, U.nd, U.of⟩, ?_⟩
        · exact fun x hx => ⟨(U.keys x hx).1.keepT kwu, (U.keys x hx).2⟩
        · rw [hus, W.rel.len, List.take_length]
          exact hpot
    · obtain ⟨wd, y3, y4, y5, y6, y7, y8, rfl, k3, ys, ws, W, hpot⟩ := hP
      refine ⟨_, rfl, wd, ys, rfl, W.at_, ?_⟩
      rw [en, Nat.sub_self, pot_end] at hpot
      rw [W.sum, hpot]
      exact q _ k3
end
end Ro

/-! RoLaw1: _law_box, _law_take, _law_of. -/
namespace Ro
open PySem PySem.Spec PyProof.Rows L2

/-- the box after at most n counted takes -/
def BoxAt (H : Hp) (b : Addr) (n : Nat) : Prop := ∃ o m c : Int, H b = some (.lst [.int o, .int m, .int c]) ∧ (0 ≤ o ∧ o.natAbs < 2 ^ 1000) ∧ (0 ≤ m ∧ m < 2 ^ 61) ∧ 0 ≤ c ∧ c ≤ n
theorem BoxAt.keep {S : Addr → Prop} {H H' : Hp} {b : Addr} {n : Nat} (h : BoxAt H b n) (k : Kp S H H') (s : ¬ S b) : BoxAt H' b n := let ⟨o, m, c, e, r⟩ := h; ⟨o, m, c, k.keep _ _ e s, r⟩
theorem BoxAt.keep0 {H H' : Hp} {b : Addr} {n : Nat} (h : BoxAt H b n) (k : Kp Nil H H') : BoxAt H' b n := h.keep k fun z => z
theorem BoxAt.le {H : Hp} {b : Addr} {n n' : Nat} (h : BoxAt H b n) (l : n ≤ n') : BoxAt H b n' := let ⟨o, m, c, e, a, d, f, g⟩ := h; ⟨o, m, c, e, a, d, f, by omega⟩
theorem BoxAt.there {H : Hp} {b : Addr} {n : Nat} (h : BoxAt H b n) : ∃ o, H b = some o := let ⟨_, _, _, e, _⟩ := h; ⟨_, e⟩
theorem BoxAt.own {H : Hp} {b : Addr} {n : Nat} {u : HO} (h : BoxAt H b n) : Kp (One b) H (upd H b u) := let ⟨_, _, _, e, _⟩ := h; Kp.own Kp.refl rfl fun u v z => by rw [e] at z; cases z
theorem BoxAt.atD {H : Hp} {b D : Addr} {n : Nat} {ys zs : List V} (e : H D = some (.lst ys)) (h : BoxAt H b n) (ne : b ≠ D) : BoxAt (upd H D (.lst zs)) b n := h.keep (Kp.atD e) ne
theorem modI {i j : Int} (h : 0 < j) : 0 ≤ i % j ∧ i % j < j := ⟨Int.emod_nonneg _ (by omega), Int.emod_lt_of_pos _ h⟩
theorem nat61 {m : Int} (h0 : 0 ≤ m) (h : m < 2 ^ 61) : m.natAbs < 2 ^ 61 := by
  have : ((2 : Int) ^ 61) = ((2 ^ 61 : Nat) : Int) := by decide
  omega
section
variable {P : Program} {w : World} {K : PySem.W.Frag} {mg : Str → Option Value} {base : Heap}
def spBox (K : PySem.W.Frag) : Sp := fun vs H Q _ => ∃ (a : Addr) (ns : List Int) (k : Nat), vs = [.ref a, .int k] ∧ SqL K H a (ns.map V.int) ∧ k ≤ 3 ∧ ∀ b H', Kp Nil H H' → H b = none → BoxAt H' b 0 → Q (.ref b) H'
theorem ok_law_box (D : Df K mg "_law_box" s_law_box p_law_box) (B : Bu mg) : Ok P w K mg base 1 "_law_box" p_law_box (spBox K) := by
  refine D.ok sc_law_box (fun vs H Q E h => ?_) fun f cdv A outer s H vs Q E hr h => ?_
  · obtain ⟨a, ns, k, rfl, _⟩ := h
    rfl
  · obtain ⟨a, ns, k, rfl, ha, hk, q⟩ := h
    refine ⟨_, pss_cons (ps_set (i := 2) sc_law_box.nd rfl (.inl rfl) (pe_ifExp (pt_cmpR op_lt (pv 1) (pe_callB (lenQ K) (by rfl) B.len bt_len (pa_cons (pv 0) pa_nil)) (nomark _)) (pe_ix (ixL K) (pv 0) (pv 1) (fun _ _ => rfl)) (pe_op op_add (pe_op op_mul pe_int (pv 1)) pe_int)))
      (pss_cons (ps_set (i := 3) sc_law_box.nd rfl (.inl rfl) (pe_op op_mulW (pe_op op_mod (pe_callB call_abs (by rfl) B.abs bt_abs (pa_cons (pv 2) pa_nil)) (pe_op op_powW (pe_op op_powW pe_int pe_int) pe_int))
        (pe_callTy call_int1 (by rfl) B.int bt_int (pa_cons (pe_cmpR op_ge (pe_callB call_abs (by rfl) B.abs bt_abs (pa_cons (pv 2) pa_nil)) (pe_op op_powW pe_int pe_int) (nomark _)) pa_nil))))
      (pss_one (ps_ret (pe_lst (pa_cons (pv 3) (pa_cons (pe_op op_mod (pe_op op_mul (pe_op op_add (pe_op op_add (pe_op op_mod (pv 2) pe_int) (pe_op op_mul (pe_op op_mul pe_int (pv 1)) (pv 1))) pe_int) pe_int) pe_int) (pa_cons pe_int pa_nil))))))), ?_⟩
    have h300 : (0 : Int) < (((10 : Int) ^ (60 : Int).toNat) ^ (5 : Int).toNat) := by decide +kernel
    have l300 : (((10 : Int) ^ (60 : Int).toNat) ^ (5 : Int).toNat).natAbs ≤ 2 ^ 1000 := by decide +kernel
    have hk2 : 0 ≤ (104729 * (k : Int)) * (k : Int) ∧ (104729 * (k : Int)) * (k : Int) ≤ 1000000 := by
      match k, hk with
      | 0, _ => decide
      | 1, _ => decide
      | 2, _ => decide
      | 3, _ => decide
    refine ⟨_, rfl, _, rfl, a, _, rfl, .inl ha, _, _, rfl, rfl, _, rfl, ?_⟩
    have absb : ∀ i : Int, (i % (((10 : Int) ^ (60 : Int).toNat) ^ (5 : Int).toNat)).natAbs < 2 ^ 1000 := fun i => by
      have := modI (i := i) h300
      omega
    have hb : ∀ b : Bool, (0 : Int) ≤ (if b = true then 1 else 0) ∧ (if b = true then (1 : Int) else 0).natAbs < 2 ^ 1 := fun b => by cases b <;> decide
    have hown : ∀ (o : Int) (b : Bool), 0 ≤ o → o.natAbs < 2 ^ 1000 → 0 ≤ o * (if b = true then 1 else 0) ∧ (o * (if b = true then 1 else 0)).natAbs < 2 ^ 1000 := fun o b h1 h2 => by
      cases b
      · rw [if_neg (by decide), Int.mul_zero]; exact ⟨by decide, by decide +kernel⟩
      · rw [if_pos rfl, Int.mul_one]; exact ⟨h1, h2⟩
    have small : ∀ i : Int, -(2 ^ 64) < i % 2305843009213693951 + 104729 * (k : Int) * (k : Int) + 37 ∧ i % 2305843009213693951 + 104729 * (k : Int) * (k : Int) + 37 < 2 ^ 64 := fun i => by
      have := modI (i := i) (j := 2305843009213693951) (by decide)
      omega
    refine ite2 (fun h => ?pa) (fun h => ?pb)
    case' pa =>
      have hlt : k < (ns.map V.int).length := by have := of_decide_eq_true h; omega
      have hlt2 : k < ns.length := by rw [List.length_map] at hlt; exact hlt
      refine ⟨_, rfl, _, rfl, a, _, (k : Int), V.int ns[k], rfl, rfl, ha, atI_nat (by rw [List.getElem?_map, List.getElem?_eq_getElem hlt2]; rfl), ?_⟩
    case' pb =>
      refine ⟨_, rfl, _, _, rfl, rfl, .inl ⟨by decide, by decide⟩, _, _, rfl, rfl, ?_⟩
    all_goals
      refine ⟨_, rfl, _, rfl, _, _, rfl, rfl, ⟨by decide, 4, by decide, by decide⟩, _, _, rfl, rfl, ⟨by decide, 200, by decide +kernel, by decide⟩, _, _, rfl, rfl, h300, ?_⟩
      refine ⟨_, rfl, _, rfl, _, _, rfl, rfl, ⟨by decide, 4, by decide, by decide⟩, _, _, rfl, rfl, .inr ⟨_, rfl, ?_⟩⟩
      refine ⟨_, _, rfl, rfl, wide_mul (a := 1000) (b := 1) (absb _) (hb _).2 (by decide) (by decide) (by decide), ?_⟩
      refine ⟨_, rfl, _, rfl, _, _, rfl, rfl, by show (0 : Int) < _; decide, _, rfl, _, _, rfl, rfl, .inl ⟨by decide, by decide⟩, _, rfl, _, _, rfl, rfl, .inl ⟨by omega, by omega⟩, _, _, rfl, rfl, _, _, rfl, rfl, _, _, rfl, rfl, .inl (small _), _, _, rfl, rfl, by show (0 : Int) < _; decide, by show 3 ≤ sizeLine; rw [sizeLine_eq]; decide, fun b nb => ?_⟩
      refine q b _ (Kp.new Kp.refl nb) nb ⟨_, _, _, upd_same, hown _ _ (modI h300).1 (absb _), ⟨(modI (by decide)).1, Int.lt_trans (modI (by decide)).2 (by decide)⟩, by decide, by decide⟩

/-! ### a digit -/
def primes : List Int := [2147483629, 2147483587, 2147483579, 2147483563, 2147483549, 2147483543, 2147483497]
theorem primes_at {i : Int} (h0 : 0 ≤ i) (h : i < 7) : ∃ p : Int, atI (primes.map V.int) i = some (.int p) ∧ 0 < p ∧ p < 2 ^ 31 := by
  have : i = 0 ∨ i = 1 ∨ i = 2 ∨ i = 3 ∨ i = 4 ∨ i = 5 ∨ i = 6 := by omega
  rcases this with rfl | rfl | rfl | rfl | rfl | rfl | rfl
  · exact ⟨_, atI_nat (j := 0) rfl, by decide, by decide⟩
  · exact ⟨_, atI_nat (j := 1) rfl, by decide, by decide⟩
  · exact ⟨_, atI_nat (j := 2) rfl, by decide, by decide⟩
  · exact ⟨_, atI_nat (j := 3) rfl, by decide, by decide⟩
  · exact ⟨_, atI_nat (j := 4) rfl, by decide, by decide⟩
  · exact ⟨_, atI_nat (j := 5) rfl, by decide, by decide⟩
  · exact ⟨_, atI_nat (j := 6) rfl, by decide, by decide⟩
def spTake : Sp := fun vs H Q _ => ∃ (b : Addr) (u : Int) (n : Nat), vs = [.ref b, .int u] ∧ 0 < u ∧ u ≤ 1000000000 ∧ BoxAt H b n ∧ n ≤ 2 ^ 30 ∧ ∀ (r : Int) (H' : Hp), 0 ≤ r → r < u → Kp (One b) H H' → BoxAt H' b (n + 1) → Q (.int r) H'
theorem ok_law_take (D : Df K mg "_law_take" s_law_take p_law_take) (B : Bu mg) : Ok P w K mg base 1 "_law_take" p_law_take spTake := by
  refine D.ok sc_law_take (fun vs H Q E h => ?_) fun f cdv A outer s H vs Q E hr h => ?_
  · obtain ⟨b, u, n, rfl, _⟩ := h
    rfl
  · obtain ⟨b, u, n, rfl, hu0, hu9, hB, hn, q⟩ := h
    obtain ⟨o, m, c, e, ⟨o1, o2⟩, ⟨m1, m2⟩, c1, c2⟩ := id hB
    have bx : ∀ {X : Cx} (i : Nat) {p1 p2 p3 : Pos}, True := fun _ => trivial
    refine ⟨_, pss_cons (ps_if (pt_cmpR op_gt (pe_ix (ixL K) (pv 0) pe_int (fun _ _ => rfl)) pe_int (nomark _))
        (pss_cons (ps_set (i := 2) sc_law_take.nd rfl (.inl rfl) (pe_op op_mod (pe_ix (ixL K) (pv 0) pe_int (fun _ _ => rfl)) (pv 1)))
        (pss_cons (ps_asg (pe_op op_fdiv (pe_ix (ixL K) (pv 0) pe_int (fun _ _ => rfl)) (pv 1)) (pg_sub (pv 0) pe_int set_list))
        (pss_one (ps_ret (pv 2))))) pss_nil)
      (pss_cons (ps_asg (pe_op op_add (pe_ix (ixL K) (pv 0) pe_int (fun _ _ => rfl)) pe_int) (pg_sub (pv 0) pe_int set_list))
      (pss_cons (ps_set (i := 3) sc_law_take.nd rfl (.inl rfl) (pe_ix (ixL K) (pe_lst (pa_cons pe_int (pa_cons pe_int (pa_cons pe_int (pa_cons pe_int (pa_cons pe_int (pa_cons pe_int (pa_cons pe_int pa_nil)))))))) (pe_op op_mod (pe_ix (ixL K) (pv 0) pe_int (fun _ _ => rfl)) pe_int) (fun _ _ => rfl)))
      (pss_cons (ps_set (i := 4) sc_law_take.nd rfl (.inl rfl) (pe_op op_mod (pe_op op_powW (pe_op op_add (pe_ix (ixL K) (pv 0) pe_int (fun _ _ => rfl)) (pe_op op_mul pe_int (pe_ix (ixL K) (pv 0) pe_int (fun _ _ => rfl)))) pe_int) (pv 3)))
      (pss_cons (ps_set (i := 4) sc_law_take.nd rfl (.inl rfl) (pe_op op_mod (pe_op op_mul (pv 4) (pe_op op_add (pe_op op_mod (pv 4) pe_int) (pe_ix (ixL K) (pv 0) pe_int (fun _ _ => rfl)))) (pv 3)))
      (pss_cons (ps_if (pt_cmpR op_gt (pv 1) (pe_op op_powW pe_int pe_int) (nomark _))
        (pss_one (ps_set (i := 4) sc_law_take.nd rfl (.inl rfl) (pe_op op_add (pe_op op_mul (pv 4) pe_int) (pe_op op_mod (pe_op op_add (pe_op op_mul (pe_ix (ixL K) (pv 0) pe_int (fun _ _ => rfl)) (pe_op op_add (pe_ix (ixL K) (pv 0) pe_int (fun _ _ => rfl)) pe_int)) (pe_op op_mul (pv 4) (pv 4))) pe_int)))) pss_nil)
      (pss_one (ps_ret (pe_op op_mod (pe_op op_fdiv (pv 4) pe_int) (pv 1))))))))), ?_⟩
    refine ⟨_, rfl, b, _, 0, _, rfl, rfl, SqL.of e, atI_nat (j := 0) rfl, _, _, rfl, rfl, _, rfl, ?_⟩
    refine ite2 (fun h => ?_) (fun h => ?_)
    · have hm := modI (i := o) hu0
      refine ⟨_, rfl, b, _, 0, _, rfl, rfl, SqL.of e, atI_nat (j := 0) rfl, _, rfl, _, _, rfl, rfl, hu0, ?_⟩
      refine ⟨_, rfl, b, _, 0, _, rfl, rfl, SqL.of e, atI_nat (j := 0) rfl, _, rfl, _, _, rfl, rfl, ⟨hu0, by omega⟩, _, rfl, b, _, 0, 0, rfl, rfl, e, rfl, _, rfl, ?_⟩
      refine q _ _ hm.1 hm.2 hB.own ⟨o / u, m, c, upd_same, ⟨Int.ediv_nonneg o1 (by omega), ?_⟩, ⟨m1, m2⟩, c1, by omega⟩
      have h1 : o / u ≤ o := Int.ediv_le_self _ o1
      have h2 := Int.ediv_nonneg o1 (Int.le_of_lt hu0)
      omega
    · have ko := hB.own (u := .lst [.int o, .int m, .int (c + 1)])
      have e1 : (upd H b (.lst [.int o, .int m, .int (c + 1)])) b = some (.lst [.int o, .int m, .int (c + 1)]) := upd_same
      have hB1 : BoxAt (upd H b (.lst [.int o, .int m, .int (c + 1)])) b (n + 1) := ⟨o, m, c + 1, upd_same, ⟨o1, o2⟩, ⟨m1, m2⟩, by omega, by omega⟩
      refine ⟨_, rfl, b, _, 2, _, rfl, rfl, SqL.of e, atI_nat (j := 2) rfl, _, _, rfl, rfl, _, rfl, b, _, 2, 2, rfl, rfl, e, rfl, ?_⟩
      have hc7 := modI (i := c + 1) (j := 7) (by decide)
      obtain ⟨pr, hpr, pr0, pr1⟩ := primes_at hc7.1 hc7.2
      refine ⟨by show 7 ≤ sizeLine; rw [sizeLine_eq]; decide, fun l nl => ?_⟩
      have kl : Kp Nil (upd H b (.lst [.int o, .int m, .int (c + 1)])) (upd (upd H b (.lst [.int o, .int m, .int (c + 1)])) l (.lst (primes.map V.int))) := Kp.new Kp.refl nl
      have e2 := kl.keep _ _ e1 fun z => z
      have hB2 := hB1.keep0 kl
      have k2 : Kp (One b) H (upd (upd H b (.lst [.int o, .int m, .int (c + 1)])) l (.lst (primes.map V.int))) := ko.trans kl.nil
      refine ⟨_, rfl, b, _, 2, _, rfl, rfl, SqL.of e2, atI_nat (j := 2) rfl, _, _, rfl, rfl, by show (0 : Int) < 7; decide, l, _, (c + 1) % 7, _, rfl, rfl, SqL.of upd_same, hpr, ?_⟩
      -- drawn
      refine ⟨_, rfl, b, _, 1, _, rfl, rfl, SqL.of e2, atI_nat (j := 1) rfl, _, rfl, b, _, 2, _, rfl, rfl, SqL.of e2, atI_nat (j := 2) rfl, _, _, rfl, rfl, .inl ⟨by decide, by decide⟩, _, _, rfl, rfl, _, _, rfl, rfl, ⟨by decide, 63, by omega, by decide⟩, _, rfl, _, _, rfl, rfl, pr0, ?_⟩
      have hd1 := modI (i := (m + 7919 * (c + 1)) ^ (3 : Int).toNat) pr0
      have hd2 := modI (i := (m + 7919 * (c + 1)) ^ (3 : Int).toNat % pr * ((m + 7919 * (c + 1)) ^ (3 : Int).toNat % pr % 1009 + (c + 1))) pr0
      refine ⟨_, rfl, _, rfl, _, _, rfl, rfl, by show (0 : Int) < 1009; decide, _, rfl, b, _, 2, _, rfl, rfl, SqL.of e2, atI_nat (j := 2) rfl, _, _, rfl, rfl, _, _, rfl, rfl, .inl ⟨by omega, by omega⟩, _, rfl, _, _, rfl, rfl, pr0, ?_⟩
      refine ⟨_, rfl, _, _, rfl, rfl, ⟨by decide, 4, by decide, by decide⟩, _, _, rfl, rfl, _, rfl, ?_⟩
      have fin : ∀ d : Int, 0 ≤ d / 11 % u ∧ d / 11 % u < u := fun d => modI hu0
      refine ite2 (fun h => ?_) (fun h => ?_)
      · refine ⟨_, rfl, _, _, rfl, rfl, .inl ⟨by omega, by omega⟩, _, rfl, b, _, 1, _, rfl, rfl, SqL.of e2, atI_nat (j := 1) rfl, _, rfl, b, _, 2, _, rfl, rfl, SqL.of e2, atI_nat (j := 2) rfl, _, _, rfl, rfl, _, _, rfl, rfl, .inl ⟨by omega, by omega⟩, _, rfl, _, rfl, _, _, rfl, rfl, .inl ⟨by omega, by omega⟩, _, _, rfl, rfl, _, _, rfl, rfl, by show (0 : Int) < _; decide, _, _, rfl, rfl, ?_⟩
        exact ⟨_, rfl, _, _, rfl, rfl, ⟨by decide, by decide⟩, _, rfl, _, _, rfl, rfl, hu0, q _ _ (fin _).1 (fin _).2 k2 hB2⟩
      · exact ⟨_, rfl, _, _, rfl, rfl, ⟨by decide, by decide⟩, _, rfl, _, _, rfl, rfl, hu0, q _ _ (fin _).1 (fin _).2 k2 hB2⟩

/-! ### one of some -/
def spOf (K : PySem.W.Frag) : Sp := fun vs H Q _ => ∃ (b : Addr) (x : V) (n : Nat), vs = [.ref b, x] ∧ BoxAt H b n ∧ n ≤ 2 ^ 30 ∧
  ((∃ (a : Addr) (xs : List V), x = .ref a ∧ SqL K H a xs ∧ a ≠ b ∧ 0 < xs.length ∧ xs.length ≤ 1000 ∧ ∀ (i : Nat) (y : V) (H' : Hp), xs[i]? = some y → Kp (One b) H H' → BoxAt H' b (n + 1) → Q y H') ∨
   ∃ (z : Str), x = .str z ∧ 0 < z.length ∧ z.length ≤ 1000 ∧ ∀ (i : Nat) (c : Nat) (H' : Hp), z.cps.toList[i]? = some c → Kp (One b) H H' → BoxAt H' b (n + 1) → Q (.str ⟨#[c]⟩) H')
theorem atI_of {β : Type} {xs : List β} {r : Int} (h0 : 0 ≤ r) (h : r < xs.length) : ∃ (i : Nat) (y : β), xs[i]? = some y ∧ atI xs r = some y := by
  have h1 : r.toNat < xs.length := by omega
  refine ⟨r.toNat, xs[r.toNat], List.getElem?_eq_getElem h1, ?_⟩
  have := atI_nat (xs := xs) (j := r.toNat) (List.getElem?_eq_getElem h1)
  rw [show ((r.toNat : Nat) : Int) = r by omega] at this
  exact this
theorem ok_law_of (D : Df K mg "_law_of" s_law_of p_law_of) (B : Bu mg) (ot : Ok P w K mg base 1 "_law_take" p_law_take spTake) : Ok P w K mg base 2 "_law_of" p_law_of (spOf K) := by
  refine D.ok sc_law_of (fun vs H Q E h => ?_) fun f cdv A outer s H vs Q E hr h => ?_
  · obtain ⟨b, x, n, rfl, _⟩ := h
    rfl
  · obtain ⟨b, x, n, rfl, hB, hn, h⟩ := h
    rcases h with ⟨a, xs, rfl, ha, ne, h0, h1, q⟩ | ⟨z, rfl, h0, h1, q⟩
    · refine ⟨_, pss_one (ps_ret (pe_ix (ixL K) (pv 1) (pe_cl ot hr (pa_cons (pv 0) (pa_cons (pe_callB (lenQ K) (by rfl) B.len bt_len (pa_cons (pv 1) pa_nil)) pa_nil))) (fun _ _ => rfl))), ?_⟩
      refine ⟨_, rfl, _, rfl, _, rfl, a, xs, rfl, .inl ha, b, _, n, rfl, by omega, by omega, hB, hn, fun r H1 r0 r1 k1 hB1 => ?_⟩
      obtain ⟨i, y, hi, hat⟩ := atI_of r0 r1
      exact ⟨a, xs, r, y, rfl, rfl, k1.sql ha ne, hat, q i y H1 hi k1 hB1⟩
    · refine ⟨_, pss_one (ps_ret (pe_ix ix_str (pv 1) (pe_cl ot hr (pa_cons (pv 0) (pa_cons (pe_callB call_len (by rfl) B.len bt_len (pa_cons (pv 1) pa_nil)) pa_nil))) (fun _ _ => rfl))), ?_⟩
      refine ⟨_, rfl, _, rfl, _, rfl, _, _, rfl, ⟨by rw [sizeLine_eq]; omega, rfl⟩, b, _, n, rfl, by omega, by omega, hB, hn, fun r H1 r0 r1 k1 hB1 => ?_⟩
      have hl : (z.length : Int) = (z.cps.toList.length : Int) := by rw [Array.length_toList]; rfl
      obtain ⟨i, y, hi, hat⟩ := atI_of (xs := z.cps.toList) r0 (by rw [← hl]; exact r1)
      exact ⟨z, r, y, rfl, rfl, by rw [sizeLine_eq]; omega, hat, q i y H1 hi k1 hB1⟩
end
end Ro

/-! RoLaw2: _law_cells, _law_values. -/
namespace Ro
open PySem PySem.Spec PyProof.Rows L2

abbrev tlS (z : Str) : List Nat := z.cps.toList
theorem str_eq {a b : Str} (h : tlS a = tlS b) : a = b := by
  have e : a.cps = b.cps := Array.toList_inj.mp h
  cases a
  cases b
  exact congrArg Str.mk e
theorem tlS_append (a b : Str) : tlS (a ++ b) = tlS a ++ tlS b := TL.tl_append a b
theorem tlS_length (z : Str) : (tlS z).length = z.length := by unfold tlS; rw [Array.length_toList]; rfl
/-- the cell by its stem, the cut and the letter -/
def nm (st : List Nat) (cut i : Nat) : Str := ⟨(st.take cut ++ ((97 + i) :: st.drop cut)).toArray⟩
theorem tlS_nm (st : List Nat) (cut i : Nat) : tlS (nm st cut i) = st.take cut ++ ((97 + i) :: st.drop cut) := by unfold tlS nm; simp
theorem nm_length (st : List Nat) (cut i : Nat) : (nm st cut i).length = st.length + 1 := by
  rw [← tlS_length, tlS_nm, List.length_append, List.length_cons, List.length_take, List.length_drop]; omega
theorem nm_inj {st : List Nat} {cut i j : Nat} (h : nm st cut i = nm st cut j) : i = j := by
  have e : tlS (nm st cut i) = tlS (nm st cut j) := by rw [h]
  rw [tlS_nm, tlS_nm] at e
  have := List.append_cancel_left e
  injection this with h1 _
  omega
theorem nm_ok {st : List Nat} {cut i : Nat} (hs : ∀ c ∈ st, 97 ≤ c ∧ c ≤ 122) (hl : st.length ≤ 7) (hi : i < 26) : CellOk (nm st cut i) := by
  refine ⟨by rw [nm_length]; omega, by rw [nm_length]; omega, fun c hc => ?_⟩
  have hc : c ∈ tlS (nm st cut i) := hc
  rw [tlS_nm, List.mem_append, List.mem_cons] at hc
  rcases hc with hc | rfl | hc
  · exact hs c (List.mem_of_mem_take hc)
  · omega
  · exact hs c (List.mem_of_mem_drop hc)
structure NamesOk (L : List Str) (k : Nat) : Prop where
  len : L.length = k
  nd : L.Nodup
  ok : ∀ c ∈ L, CellOk c
  same : ∃ m, ∀ c ∈ L, c.length = m
theorem NamesOk.take {L : List Str} {k j : Nat} (h : NamesOk L k) (hj : j ≤ k) : NamesOk (L.take j) j :=
  ⟨by rw [List.length_take, h.len]; omega, h.nd.sublist (List.take_sublist j L), fun c hc => h.ok c (List.mem_of_mem_take hc), let ⟨m, q⟩ := h.same; ⟨m, fun c hc => q c (List.mem_of_mem_take hc)⟩⟩
theorem leap_inj {s p t t' : Nat} (hp : p = 1 ∨ p = 3 ∨ p = 5 ∨ p = 7 ∨ p = 9 ∨ p = 11) (ht : t < 26) (ht' : t' < 26) (h : (s + p * t) % 26 = (s + p * t') % 26) : t = t' := by
  rcases hp with rfl | rfl | rfl | rfl | rfl | rfl <;> omega
theorem names_ok {st : List Nat} {cut s p k : Nat} (hs : ∀ c ∈ st, 97 ≤ c ∧ c ≤ 122) (hl : st.length ≤ 7) (hp : p = 1 ∨ p = 3 ∨ p = 5 ∨ p = 7 ∨ p = 9 ∨ p = 11) (hk : k ≤ 12) :
    NamesOk ((List.range k).map fun t => nm st cut ((s + p * t) % 26)) k := by
  refine ⟨by simp, map_nodup List.nodup_range fun x hx y hy e => leap_inj hp (by have := List.mem_range.mp hx; omega) (by have := List.mem_range.mp hy; omega) (nm_inj e), fun c hc => ?_, st.length + 1, fun c hc => ?_⟩
  · obtain ⟨t, _, rfl⟩ := List.mem_map.mp hc
    exact nm_ok hs hl (Nat.mod_lt _ (by decide))
  · obtain ⟨t, _, rfl⟩ := List.mem_map.mp hc
    exact nm_length _ _ _
abbrev abc : Str := "abcdefghijklmnopqrstuvwxyz"
theorem abc_list : tlS abc = (List.range 26).map (97 + ·) := by decide +kernel
theorem abc_at {i c : Nat} (h : (tlS abc)[i]? = some c) : i < 26 ∧ c = 97 + i := by
  rw [abc_list, List.getElem?_map] at h
  by_cases hi : i < 26
  · rw [List.getElem?_range hi] at h
    exact ⟨hi, (Option.some.inj h).symm⟩
  · rw [List.getElem?_eq_none (by simpa using hi)] at h; cases h
theorem cut_a (z : Str) (k : Nat) (h : k ≤ z.length) : tlS (cutS z none (some (k : Int))) = (tlS z).take k := by
  unfold cutS tlS
  rw [HT.sIx_none, HT.sIx_nat, Nat.min_eq_left h]
  simp
theorem cut_b (z : Str) (k : Nat) (h : k ≤ z.length) : tlS (cutS z (some (k : Int)) none) = (tlS z).drop k := by
  unfold cutS tlS
  rw [HT.sIx_none, HT.sIx_nat, Nat.min_eq_left h]
  simp only [List.toList_toArray]
  exact List.take_of_length_le (by rw [List.length_drop, Array.length_toList]; exact Nat.le_refl _)
theorem join_singles : ∀ cs : List Nat, tlS (Txt.join "" (cs.map fun c => (⟨#[c]⟩ : Str))) = cs := fun cs => by
  rw [TL.join_eq]
  show TL.tl (Str.join "" _) = cs
  rw [TL.tl_join, List.map_map]
  induction cs with
  | nil => rfl
  | cons c r ih =>
    cases r with
    | nil => rfl
    | cons d r =>
      show [c] ++ ([] ++ TL.joinL _ _) = _
      rw [List.nil_append]
      exact congrArg (c :: ·) ih
section
variable {P : Program} {w : World} {K : PySem.W.Frag} {mg : Str → Option Value} {base : Heap}
def spCells : Sp := fun vs H Q _ => ∃ (b : Addr) (k n : Nat), vs = [.ref b, .int k] ∧ k ≤ 12 ∧ BoxAt H b n ∧ n ≤ 2 ^ 29 ∧
  ∀ (p : Addr) (H' : Hp) (L : List Str), Kp (One b) H H' → H p = none → H' p = some (.lst (L.map V.str)) → NamesOk L k → BoxAt H' b (n + 20) → Q (.ref p) H'
theorem ok_law_cells (D : Df K mg "_law_cells" s_law_cells p_law_cells) (B : Bu mg) (ot : Ok P w K mg base 1 "_law_take" p_law_take spTake) (oo : Ok P w K mg base 2 "_law_of" p_law_of (spOf K)) : Ok P w K mg base 3 "_law_cells" p_law_cells spCells := by
  refine D.ok sc_law_cells (fun vs H Q E h => ?_) fun f cdv A outer s H vs Q E hr h => ?_
  · obtain ⟨b, k, n, rfl, _⟩ := h
    rfl
  · obtain ⟨b, k, n, rfl, hk, hB, hn, q⟩ := h
    refine ⟨_, pss_cons (ps_set (i := 2) sc_law_cells.nd rfl (.inr rfl) pe_str)
      (pss_cons (ps_asg (pe_tup (pa_cons (pe_cl ot (hr.mono (by decide)) (pa_cons (pv 0) (pa_cons pe_int pa_nil))) (pa_cons (pe_cl oo hr (pa_cons (pv 0) (pa_cons (pe_lst (pa_cons pe_int (pa_cons pe_int (pa_cons pe_int (pa_cons pe_int (pa_cons pe_int (pa_cons pe_int pa_nil))))))) pa_nil))) pa_nil)))
        (pg_tup rfl (pgs_cons (pg_name (i := 3) sc_law_cells.nd rfl (.inr rfl)) (pgs_cons (pg_name (i := 4) sc_law_cells.nd rfl (.inr rfl)) pgs_nil))))
      (pss_cons (ps_set (i := 5) sc_law_cells.nd rfl (.inr rfl) (pe_join pe_str
        (pe_lc (own := [("_law_turn", 7)]) (g := gName 7) (tt := tYes) rfl sc_law_cells.nd (pi_range1 (by rfl) B.range (pa_cons (pe_cl oo hr (pa_cons (pv 0) (pa_cons (pe_lst (pa_cons pe_int (pa_cons pe_int (pa_cons pe_int (pa_cons pe_int (pa_cons pe_int (pa_cons pe_int pa_nil))))))) pa_nil))) pa_nil))
          (blkOk_by (N := n_law_cells) (sc := defScope s_law_cells) (by decide +kernel)) (fun _ _ _ _ _ => pg_name (i := 7) sc_law_cells.nd rfl (.inl rfl)) (fun _ _ _ _ _ => pts_nil)
          (fun _ _ _ _ _ => pe_cl oo hr (pa_cons (pv 0) (pa_cons (pv 2) pa_nil))))))
      (pss_cons (ps_set (i := 6) sc_law_cells.nd rfl (.inr rfl) (pe_cl ot (hr.mono (by decide)) (pa_cons (pv 0) (pa_cons (pe_op op_add (pe_callB call_len (by rfl) B.len bt_len (pa_cons (pv 5) pa_nil)) pe_int) pa_nil))))
      (pss_one (ps_ret (pe_lc (own := [("_law_turn", 7)]) (g := gName 7) (tt := tYes) rfl sc_law_cells.nd (pi_range1 (by rfl) B.range (pa_cons (pv 1) pa_nil))
          (blkOk_by (N := n_law_cells) (sc := defScope s_law_cells) (by decide +kernel)) (fun _ _ _ _ _ => pg_name (i := 7) sc_law_cells.nd rfl (.inl rfl)) (fun _ _ _ _ _ => pts_nil)
          (fun _ _ _ _ _ => pe_op op_add_str (pe_op op_add_str (pe_slice sl_str (pv 5) po_none (po_some (pv 6))) (pe_ix ix_str (pv 2) (pe_op op_mod (pe_op op_add (pv 3) (pe_op op_mul (pv 4) (pv 7))) pe_int) (fun _ _ => rfl))) (pe_slice sl_str (pv 5) (po_some (pv 6)) po_none)))))))), ?_⟩
    refine ⟨_, rfl, b, 26, n, rfl, by decide, by decide, hB, by omega, fun r H1 r0 r1 k1 hB1 => ?_⟩
    refine ⟨_, rfl, by show 6 ≤ sizeLine; rw [sizeLine_eq]; decide, fun l1 nl1 => ?_⟩
    obtain ⟨ob1, hob1⟩ := hB1.there
    have l1b : l1 ≠ b := fun z => by rw [z, hob1] at nl1; cases nl1
    have kl1 : Kp Nil H1 (upd H1 l1 (.lst [.int 1, .int 3, .int 5, .int 7, .int 9, .int 11])) := Kp.new Kp.refl nl1
    refine ⟨b, _, n + 1, rfl, hB1.keep0 kl1, by omega, .inl ⟨l1, _, rfl, SqL.of upd_same, l1b, by decide, by decide, fun i y H2 hy k2 hB2 => ?_⟩⟩
    have hp : ∃ p : Nat, y = .int p ∧ (p = 1 ∨ p = 3 ∨ p = 5 ∨ p = 7 ∨ p = 9 ∨ p = 11) := by
      have := List.mem_of_getElem? hy
      simp only [List.mem_cons, List.not_mem_nil, or_false] at this
      rcases this with rfl | rfl | rfl | rfl | rfl | rfl
      · exact ⟨1, rfl, by decide⟩
      · exact ⟨3, rfl, by decide⟩
      · exact ⟨5, rfl, by decide⟩
      · exact ⟨7, rfl, by decide⟩
      · exact ⟨9, rfl, by decide⟩
      · exact ⟨11, rfl, by decide⟩
    obtain ⟨lp, rfl, hlp⟩ := hp
    obtain ⟨st, rfl⟩ : ∃ st : Nat, r = (st : Int) := ⟨r.toNat, by omega⟩
    have kH2 : Kp (One b) H H2 := (k1.trans kl1.nil).trans k2
    refine ⟨by show 2 ≤ sizeLine; rw [sizeLine_eq]; decide, fun tp ntp => ⟨tp, _, rfl, SqT.of upd_same, rfl, _, _, rfl, _, _, rfl, rfl, ?_⟩⟩
    have ktp : Kp Nil H2 (upd H2 tp (.tup [.int (st : Int), .int (lp : Int)])) := Kp.new Kp.refl ntp
    have kH3 := kH2.trans ktp.nil
    have hB3 := hB2.keep0 ktp
    generalize upd H2 tp (.tup [.int (st : Int), .int (lp : Int)]) = H3 at kH3 hB3
    -- the stem
    refine ⟨⟨_, rfl⟩, _, rfl, by show 6 ≤ sizeLine; rw [sizeLine_eq]; decide, fun l2 nl2 => ?_⟩
    obtain ⟨ob3, hob3⟩ := hB3.there
    have l2b : l2 ≠ b := fun z => by rw [z, hob3] at nl2; cases nl2
    have kl2 : Kp Nil H3 (upd H3 l2 (.lst [.int 0, .int 0, .int 1, .int 2, .int 4, .int 7])) := Kp.new Kp.refl nl2
    refine ⟨b, _, n + 1 + 1, rfl, hB3.keep0 kl2, by omega, .inl ⟨l2, _, rfl, SqL.of upd_same, l2b, by decide, by decide, fun i2 y2 H4 hy2 k4 hB4 => ?_⟩⟩
    have hm : ∃ m : Nat, y2 = .int m ∧ m ≤ 7 := by
      have := List.mem_of_getElem? hy2
      simp only [List.mem_cons, List.not_mem_nil, or_false] at this
      rcases this with rfl | rfl | rfl | rfl | rfl | rfl
      · exact ⟨0, rfl, by decide⟩
      · exact ⟨0, rfl, by decide⟩
      · exact ⟨1, rfl, by decide⟩
      · exact ⟨2, rfl, by decide⟩
      · exact ⟨4, rfl, by decide⟩
      · exact ⟨7, rfl, by decide⟩
    obtain ⟨m, rfl, hm7⟩ := hm
    have kH4 : Kp (One b) H H4 := (kH3.trans kl2.nil).trans k4
    refine ⟨(m : Int), rfl, by omega, by omega, fun D1 n1 => ?_⟩
    have D1b : ¬ One b D1 := fun z => by
      have z : D1 = b := z
      obtain ⟨o, h⟩ := hB4.there
      rw [z, h] at n1; cases n1
    have em : ((m : Nat) : Int).toNat = m := by omega
    refine lc_acc (walk_range (lo := 0) (n := ((m : Nat) : Int).toNat)) n1 (S := One b) D1b (by omega) (fun i H ys => BoxAt H b (n + 3 + i) ∧ ∃ cs : List Nat, ys = cs.map (fun c => V.str ⟨#[c]⟩) ∧ cs.length = i ∧ ∀ c ∈ cs, 97 ≤ c ∧ c ≤ 122) ⟨hB4.keep0 (Kp.new Kp.refl n1), [], rfl, rfl, fun c hc => by cases hc⟩
      (fun _ _ _ _ e h => ⟨h.1.atD e fun z => D1b z.symm, h.2⟩) (fun _ _ => trivial) (fun i x H5 H5' ys hi k5 e5 a5 y Kt Kf ht hf => ?_) fun H5 ys k5 e5 a5 => ?_
    · obtain ⟨rfl, rfl⟩ := y
      obtain ⟨hB5, cs, rfl, hcl, hcs⟩ := a5
      refine ⟨rfl, yes_go ⟨_, rfl, _, rfl, b, _, n + 3 + i, rfl, hB5, by omega, .inr ⟨abc, rfl, by decide +kernel, by decide +kernel, fun j c H6 hc k6 hB6 => ?_⟩⟩⟩
      obtain ⟨hj, rfl⟩ := abc_at hc
      refine ht _ _ k6 ⟨hB6, cs ++ [97 + j], by rw [List.map_append]; rfl, by rw [List.length_append, hcl]; rfl, fun c hc => ?_⟩
      rcases List.mem_append.mp hc with hc | hc
      · exact hcs c hc
      · rw [List.mem_singleton.mp hc]; omega
    · obtain ⟨hB5, cs, rfl, hcl, hcs⟩ := a5
      rw [em] at hcl hB5
      have kH5 : Kp (One b) H H5 := kH4.trans k5
      have eys : cs.map (fun c => V.str ⟨#[c]⟩) = (cs.map fun c => (⟨#[c]⟩ : Str)).map V.str := by rw [List.map_map]; rfl
      rw [eys] at e5
      have hsum : ((cs.map fun c => (⟨#[c]⟩ : Str)).map (·.length)).sum = cs.length := by
        rw [List.map_map]
        clear hcl hcs e5 eys
        induction cs with
        | nil => rfl
        | cons c r ih => rw [List.map_cons, List.sum_cons, ih, List.length_cons]; show 1 + _ = _; omega
      refine ⟨"", D1, _, rfl, rfl, .inl (SqL.of e5), ?_, ?_⟩
      · rw [hsum]
        show _ + _ * 0 ≤ _
        omega
      have hst := join_singles cs
      generalize Txt.join "" (cs.map fun c => (⟨#[c]⟩ : Str)) = stem at hst
      have hsl : stem.length = cs.length := by rw [← tlS_length, hst]
      refine ⟨_, rfl, _, rfl, _, _, rfl, ⟨by rw [sizeLine_eq]; omega, rfl⟩, _, _, rfl, rfl, b, ((stem.length : Nat) : Int) + 1, n + 3 + m, rfl, by omega, by omega, hB5, by omega, fun r6 H6 r60 r61 k6 hB6 => ?_⟩
      obtain ⟨cut, rfl⟩ : ∃ cut : Nat, r6 = (cut : Int) := ⟨r6.toNat, by omega⟩
      have hcut : cut ≤ stem.length := by omega
      have kH6 : Kp (One b) H H6 := kH5.trans k6
      refine ⟨_, rfl, (k : Int), rfl, by omega, by omega, fun D2 n2 => ?_⟩
      have D2b : ¬ One b D2 := fun z => by
        have z : D2 = b := z
        obtain ⟨o, h⟩ := hB6.there
        rw [z, h] at n2; cases n2
      have ek : ((k : Nat) : Int).toNat = k := by omega
      refine lc_acc (walk_range (lo := 0) (n := ((k : Nat) : Int).toNat)) n2 (S := Nil) (fun z => z) (by omega) (fun i H ys => ys = ((List.range i).map fun t => nm cs cut ((st + lp * t) % 26)).map V.str) rfl (fun _ _ _ _ _ h => h) (fun _ _ => trivial) (fun i x H7 H7' ys hi k7 e7 a7 y Kt Kf ht hf => ?_) fun H7 ys k7 e7 a7 => ?_
      · obtain ⟨rfl, rfl⟩ := y
        have hlp2 : lp ≤ 11 := by omega
        have hidx : ((st : Int) + (lp : Int) * (i : Int)) % 26 = (((st + lp * i) % 26 : Nat) : Int) := by
          rw [← Int.natCast_mul, ← Int.natCast_add]
          omega
        have h26 : (st + lp * i) % 26 < 26 := Nat.mod_lt _ (by decide)
        have hch : atI abc.cps.toList (((st : Int) + (lp : Int) * (0 + (i : Int))) % 26) = some (97 + (st + lp * i) % 26) := by
          rw [Int.zero_add, hidx]
          refine atI_nat ?_
          show (tlS abc)[_]? = _
          rw [abc_list, List.getElem?_map, List.getElem?_range h26]; rfl
        have l1 : (cutS stem none (some (cut : Int))).length = cut := by
          rw [← tlS_length, cut_a _ _ hcut, List.length_take, tlS_length]; omega
        have l2 : (cutS stem (some (cut : Int)) none).length = stem.length - cut := by
          rw [← tlS_length, cut_b _ _ hcut, List.length_drop, tlS_length]
        have hi12 : i < 12 := by omega
        have hst26 : (st : Int) < 26 := r1
        have e1 : (cutS stem none (some (cut : Int)) ++ (⟨#[97 + (st + lp * i) % 26]⟩ : Str)) ++ cutS stem (some (cut : Int)) none = nm cs cut ((st + lp * i) % 26) := by
          refine str_eq ?_
          rw [tlS_append, tlS_append, cut_a _ _ hcut, cut_b _ _ hcut, tlS_nm, hst, List.append_assoc]; rfl
        refine ⟨rfl, yes_go ⟨_, rfl, _, rfl, _, rfl, stem, rfl, by rw [sizeLine_eq]; omega, _, rfl, _, rfl, _, rfl, _, rfl, _, _, rfl, rfl, .inl ⟨by omega, by omega⟩, _, _, rfl, rfl, _, _, rfl, rfl, by show (0 : Int) < 26; decide, abc, _, _, rfl, rfl, by rw [sizeLine_eq]; decide +kernel, hch, _, _, rfl, rfl, ?_, _, rfl, _, rfl, _, rfl, stem, rfl, by rw [sizeLine_eq]; omega, _, _, rfl, rfl, ?_, ?_⟩⟩
        · rw [l1, sizeLine_eq]
          show cut + 1 ≤ _
          omega
        · rw [Str.length_append, l1, l2, sizeLine_eq]
          show cut + 1 + _ ≤ _
          omega
        · rw [e1]
          refine ht _ _ Kp.refl ?_
          rw [a7, List.range_succ, List.map_append, List.map_append]; rfl
      · rw [ek] at a7
        rw [a7] at e7
        refine q D2 H7 _ (kH6.trans k7.nil) (kH6.fresh' n2 D2b) e7 (names_ok hcs (by omega) hlp hk) ((hB6.keep0 k7).le (by omega))
end
end Ro

/-! RoLaw3: _law_values. -/
namespace Ro
open PySem PySem.Spec PyProof.Rows L2

theorem inV_ints (c : Int) (ds : List Int) : inV (.int c) (ds.map V.int) = decide (c ∈ ds) := by
  unfold inV
  rw [Bool.eq_iff_iff, List.any_eq_true, decide_eq_true_eq]
  constructor
  · rintro ⟨y, hy, e⟩
    obtain ⟨x, hx, rfl⟩ := List.mem_map.mp hy
    have e : (x == c) = true := e
    exact (beq_iff_eq.mp e) ▸ hx
  · intro h
    exact ⟨.int c, List.mem_map.mpr ⟨c, h, rfl⟩, show (c == c) = true from beq_self_eq_true c⟩
theorem flat_ints' (ds : List Int) : (ds.map V.int).all flatV = true := by
  rw [List.all_eq_true]
  intro x hx
  obtain ⟨y, _, rfl⟩ := List.mem_map.mp hx
  rfl
theorem TvAll.ints {H : Hp} : ∀ xs : List Int, TvAll H (xs.map V.int) (xs.map PyData.int)
  | [] => .nil
  | x :: r => .cons (.int x) (TvAll.ints r)
theorem TvAll.inv_ints {H : Hp} : ∀ {xs : List Int} {vs : List V}, TvAll H vs (xs.map PyData.int) → vs = xs.map V.int
  | [], _, h => by cases h; rfl
  | x :: r, _, h => by
    cases h with
    | cons h t => rw [h.inv_int, TvAll.inv_ints t]; rfl
open PySem.W in
theorem sortOk_ints (xs : List Int) (h : xs.length ≤ sizeLine) : SortOk (xs.map PyData.int) := by
  refine ⟨AllAlike.of fun x y => by simp [alike], .inl (Sortable.others fun x => ⟨by simp, by simp⟩), by rw [List.length_map]; exact h, fun d hd => ?_⟩
  obtain ⟨x, _, rfl⟩ := List.mem_map.mp hd
  simp [PyData.depth]
theorem spare_some {found : List Int} (h : found.length ≤ 2) : ([11, 12, 13, 14, 15] : List Int).filter (fun e => decide (e ∉ found)) ≠ [] := fun e => by
  have : ∀ x ∈ ([11, 12, 13, 14, 15] : List Int), x ∈ found := fun x hx => by
    refine Classical.byContradiction fun hn => ?_
    have : x ∈ ([11, 12, 13, 14, 15] : List Int).filter (fun e => decide (e ∉ found)) := List.mem_filter.mpr ⟨hx, decide_eq_true hn⟩
    rw [e] at this; cases this
  have := len_le_of_sub (a := ([11, 12, 13, 14, 15] : List Int)) (by decide) this
  have : ([11, 12, 13, 14, 15] : List Int).length = 5 := rfl
  omega
section
variable {P : Program} {w : World} {K : PySem.W.Frag} {mg : Str → Option Value} {base : Heap}
def spValues : Sp := fun vs H Q _ => ∃ (b : Addr) (k n : Nat), vs = [.ref b, .int k] ∧ k ≤ 3 ∧ BoxAt H b n ∧ n ≤ 2 ^ 29 ∧
  ∀ (p : Addr) (H' : Hp) (L : List Int), Kp (One b) H H' → H p = none → H' p = some (.lst (L.map V.int)) → L.length = k → L.Nodup → (∀ v ∈ L, ValOk v) → BoxAt H' b (n + 8) → Q (.ref p) H'
theorem ok_law_values (D : Df K mg "_law_values" s_law_values p_law_values) (B : Bu mg) (ot : Ok P w K mg base 1 "_law_take" p_law_take spTake) : Ok P w K mg base 2 "_law_values" p_law_values spValues := by
  refine D.ok sc_law_values (fun vs H Q E h => ?_) fun f cdv A outer s H vs Q E hr h => ?_
  · obtain ⟨b, k, n, rfl, _⟩ := h
    rfl
  · obtain ⟨b, k, n, rfl, hk, hB, hn, q⟩ := h
    have hu := hr.units
    refine ⟨_, pss_cons (ps_set (i := 2) sc_law_values.nd rfl (.inl rfl) (pe_lst (pa_cons pe_int (pa_cons pe_int (pa_cons pe_int (pa_cons pe_int (pa_cons pe_int (pa_cons (pe_op op_powW pe_int pe_int) (pa_cons (pe_op op_add pe_int (pe_cl ot hr (pa_cons (pv 0) (pa_cons (pe_op op_powW pe_int pe_int) pa_nil)))) pa_nil)))))))))
      (pss_cons (ps_set (i := 3) sc_law_values.nd rfl (.inr rfl) (pe_lst pa_nil))
      (pss_cons (ps_for PassesOwn.never rfl (pi_range1 (by rfl) B.range (pa_cons (pv 1) pa_nil)) (pg_name (i := 4) sc_law_values.nd rfl (.inl rfl))
        (pss_cons (ps_set (i := 5) sc_law_values.nd rfl (.inl rfl) (pe_ix (ixL K) (pv 2) (pe_cl ot hr (pa_cons (pv 0) (pa_cons pe_int pa_nil))) (fun _ _ => rfl)))
        (pss_cons (ps_set (i := 6) sc_law_values.nd rfl (.inl rfl) (pe_ix (ixL K)
          (pe_lc (own := [("_law_each", 7)]) (g := gName 7) rfl sc_law_values.nd (pi_tup (pe_tup (pa_cons pe_int (pa_cons pe_int (pa_cons pe_int (pa_cons pe_int (pa_cons pe_int pa_nil))))))) (blkOk_by (N := n_law_values) (sc := defScope s_law_values) (by decide +kernel))
            (fun _ _ _ _ _ => pg_name (i := 7) sc_law_values.nd rfl (.inl rfl)) (fun _ _ _ _ _ => pts_one (pt_cmpR (ninQ K) (pv 7) (pv 3) rfl)) (fun _ _ _ _ _ => pv 7)) pe_int (fun _ _ => rfl)))
        (pss_one (ps_expr (pe_bm PySem.F.plainAttrs_list PySem.F.slot_list_append PySem.F.type_list_append mt_append (pv 3) (pa_cons (pe_ifExp (pt_cmpR (ninQ K) (pv 5) (pv 3) rfl) (pv 5) (pv 6)) pa_nil)))))))
      (pss_one (ps_ret (pe_callB (sortQ K hu) (by rfl) B.sorted bt_sorted (pa_cons (pv 3) pa_nil)))))), ?_⟩
    refine ⟨_, _, rfl, rfl, ⟨by decide, 4, by decide, by decide⟩, _, rfl, _, _, rfl, rfl, ⟨by decide, 4, by decide, by decide⟩, b, _, n, rfl, by show (0 : Int) < _; decide, by show _ ≤ (1000000000 : Int); decide, hB, by omega, fun r H1 r0 r1 k1 hB1 => ⟨_, _, rfl, rfl, by show 7 ≤ sizeLine; rw [sizeLine_eq]; decide, fun sm nsm => ?_⟩⟩
    have r1 : r < 1000000000 := r1
    obtain ⟨ob1, hob1⟩ := hB1.there
    have smb : sm ≠ b := fun z => by rw [z, hob1] at nsm; cases nsm
    have kH1 : Kp (One b) H (upd H1 sm (.lst (([0, 1, 2, 3, 7, 1000000000, 1 + r] : List Int).map V.int))) := k1.trans (Kp.new Kp.refl nsm)
    have hsome : ∀ z ∈ ([0, 1, 2, 3, 7, 1000000000, 1 + r] : List Int), ValOk z := fun z hz => by
      simp only [List.mem_cons, List.not_mem_nil, or_false] at hz
      rcases hz with rfl | rfl | rfl | rfl | rfl | rfl | rfl <;> exact ⟨by omega, by omega⟩
    have eH1 : (upd H1 sm (.lst (([0, 1, 2, 3, 7, 1000000000, 1 + r] : List Int).map V.int))) sm = some (.lst (([0, 1, 2, 3, 7, 1000000000, 1 + r] : List Int).map V.int)) := upd_same
    have hB2 : BoxAt (upd H1 sm (.lst (([0, 1, 2, 3, 7, 1000000000, 1 + r] : List Int).map V.int))) b (n + 1) := hB1.keep0 (Kp.new Kp.refl nsm)
    have hsmH : H sm = none := k1.fresh' nsm fun z => smb z
    obtain ⟨H2, eqH2, kH2, eH2, hB2⟩ : ∃ H2, H2 = upd H1 sm (.lst (([0, 1, 2, 3, 7, 1000000000, 1 + r] : List Int).map V.int)) ∧ Kp (One b) H H2 ∧ H2 sm = some (.lst (([0, 1, 2, 3, 7, 1000000000, 1 + r] : List Int).map V.int)) ∧ BoxAt H2 b (n + 1) := ⟨_, rfl, kH1, eH1, hB2⟩
    refine ⟨Nat.zero_le _, fun fo nf => ?_⟩
    have nf : H2 fo = none := by rw [eqH2]; exact nf
    obtain ⟨ob2, hob2⟩ := hB2.there
    have fob : fo ≠ b := fun z => by rw [z, hob2] at nf; cases nf
    have fosm : fo ≠ sm := fun z => by rw [z, eH2] at nf; cases nf
    have kf : Kp Nil H2 (upd H2 fo (.lst [])) := Kp.new Kp.refl nf
    have ek : ((k : Nat) : Int).toNat = k := by omega
    have nfH : H fo = none := kH2.fresh' nf fun z => fob z
    refine ⟨_, rfl, (k : Int), rfl, by omega, by omega, ?_⟩
    refine for_range (lo := 0) (n := ((k : Nat) : Int).toNat) (fun t σ H3 => (∃ y4 y5 y6, σ = [some (.ref b), some (.int (k : Int)), some (.ref sm), some (.ref fo), y4, y5, y6, none]) ∧ Kp (fun x => One b x ∨ One fo x) H2 H3 ∧ ∃ fs : List Int, H3 fo = some (.lst (fs.map V.int)) ∧ fs.length = t ∧ fs.Nodup ∧ (∀ v ∈ fs, ValOk v) ∧ BoxAt H3 b (n + 1 + t))
      ⟨⟨none, none, none, rfl⟩, ?_, [], ?_, rfl, List.nodup_nil, fun v hv => (by cases hv), ?_⟩ (fun t σ H3 ht hP => ?_) fun σ H3 hP => ?_
    · rw [eqH2] at kf
      rw [eqH2]
      exact kf.wide fun _ z => z.elim
    · exact upd_same
    · rw [eqH2] at hB2 kf
      exact hB2.keep0 kf
    · rw [ek] at ht
      obtain ⟨⟨y4, y5, y6, rfl⟩, k3, fs, e3, hfl, hfn, hfv, hB3⟩ := hP
      have esm3 : H3 sm = some (.lst (([0, 1, 2, 3, 7, 1000000000, 1 + r] : List Int).map V.int)) := k3.keep _ _ eH2 fun z => z.elim smb fun z => fosm z.symm
      refine ⟨_, rfl, _, rfl, b, 7, n + 1 + t, rfl, by decide, by decide, hB3, by omega, fun r4 H4 r40 r41 k4 hB4 => ?_⟩
      obtain ⟨i, y, hy, hat⟩ := atI_of (xs := ([0, 1, 2, 3, 7, 1000000000, 1 + r] : List Int).map V.int) r40 (by show r4 < 7; exact r41)
      obtain ⟨z, hz, rfl⟩ := ints_at hy
      have hzo := hsome z (List.mem_of_getElem? hz)
      have esm4 := k4.keep _ _ esm3 smb
      have e4 : H4 fo = some (.lst (fs.map V.int)) := k4.keep _ _ e3 fob
      have k34 : Kp (fun x => One b x ∨ One fo x) H2 H4 := k3.trans (k4.wide fun _ z => .inl z)
      refine ⟨sm, _, r4, _, rfl, rfl, SqL.of esm4, hat, ?_⟩
      refine ⟨by show 5 ≤ sizeLine; rw [sizeLine_eq]; decide, fun tp ntp => ⟨tp, rfl, ⟨_, SqT.of upd_same⟩, fun D1 n1 => ?_⟩⟩
      have kt : Kp Nil H4 (upd H4 tp (.tup (([11, 12, 13, 14, 15] : List Int).map V.int))) := Kp.new Kp.refl ntp
      obtain ⟨H5, eqH5, kt5, etp⟩ : ∃ H5, H5 = upd H4 tp (.tup (([11, 12, 13, 14, 15] : List Int).map V.int)) ∧ Kp Nil H4 H5 ∧ H5 tp = some (.tup (([11, 12, 13, 14, 15] : List Int).map V.int)) := ⟨_, rfl, kt, upd_same⟩
      have n1 : H5 D1 = none := by rw [eqH5]; exact n1
      show ∃ W : Nat → Nat → Hp → Prop, (∃ m, W 0 m (upd (upd H4 tp (.tup (([11, 12, 13, 14, 15] : List Int).map V.int))) D1 (.lst []))) ∧ _
      rw [← eqH5]
      have e5 := kt5.keep _ _ e4 fun z => z
      refine lc_acc (walk_tup (xs := ([11, 12, 13, 14, 15] : List Int).map V.int)) n1 (S := Nil) (fun z => z) (by decide) (fun i H ys => ys = ((([11, 12, 13, 14, 15] : List Int).take i).filter fun e => decide (e ∉ fs)).map V.int) rfl (fun _ _ _ _ _ h => h) (fun _ k => SqT.of (k.keep _ _ etp fun z => z)) (fun i x H6 H6' ys hi k6 e6 a6 y Kt Kf ht' hf => ?_) fun H6 ys k6 e6 a6 => ?_
      · obtain ⟨rfl, hx⟩ := y
        obtain ⟨c, hc, rfl⟩ := ints_at hx
        have st := filter_snoc (p := fun e => decide (e ∉ fs)) hc
        refine ⟨rfl, _, rfl, _, rfl, fo, _, rfl, .inl (SqL.of (k6.keep _ _ e5 fun z => z)), rfl, flat_ints' fs, ?_⟩
        rw [inV_ints]
        refine ⟨_, rfl, ite2 (fun hb => ?_) (fun hb => ?_)⟩
        · have hb : decide (c ∉ fs) = true := by simpa using hb
          exact ⟨_, rfl, ht' _ _ Kp.refl (by rw [a6, st, if_pos hb, List.map_append]; rfl)⟩
        · have hb : ¬ decide (c ∉ fs) = true := by simpa using hb
          exact hf _ Kp.refl (by rw [a6, st, if_neg hb, List.append_nil])
      · have a6 : ys = (([11, 12, 13, 14, 15] : List Int).filter fun e => decide (e ∉ fs)).map V.int := a6
        obtain ⟨sp, rs, hsp⟩ := List.exists_cons_of_ne_nil (spare_some (found := fs) (by omega))
        have hspm : sp ∈ ([11, 12, 13, 14, 15] : List Int).filter fun e => decide (e ∉ fs) := by rw [hsp]; exact List.mem_cons_self
        obtain ⟨sp1, sp2⟩ := List.mem_filter.mp hspm
        have sp2 : sp ∉ fs := of_decide_eq_true sp2
        have spo : ValOk sp := by
          simp only [List.mem_cons, List.not_mem_nil, or_false] at sp1
          rcases sp1 with rfl | rfl | rfl | rfl | rfl <;> exact ⟨by decide, by decide⟩
        rw [a6, hsp] at e6
        have e46 : H6 fo = some (.lst (fs.map V.int)) := k6.keep _ _ e5 fun z => z
        have k46 : Kp Nil H4 H6 := kt5.trans k6
        refine ⟨D1, _, 0, _, rfl, rfl, SqL.of e6, atI_0, ?_⟩
        refine ⟨_, rfl, .inl ⟨rfl, _, SqL.of e46⟩, _, rfl, _, rfl, fo, _, rfl, .inl (SqL.of e46), rfl, flat_ints' fs, ?_⟩
        rw [inV_ints]
        have fin : ∀ zz : Int, zz ∉ fs → ValOk zz → ∀ y4, (∃ y4' y5 y6, [some (V.ref b), some (V.int (k : Int)), some (V.ref sm), some (V.ref fo), y4, some (V.int z), some (V.int sp), none] = [some (V.ref b), some (V.int (k : Int)), some (V.ref sm), some (V.ref fo), y4', y5, y6, none]) ∧ Kp (fun x => One b x ∨ One fo x) H2 (upd H6 fo (.lst (fs.map V.int ++ [.int zz]))) ∧ ∃ gs : List Int, (upd H6 fo (.lst (fs.map V.int ++ [.int zz]))) fo = some (.lst (gs.map V.int)) ∧ gs.length = t + 1 ∧ gs.Nodup ∧ (∀ v ∈ gs, ValOk v) ∧ BoxAt (upd H6 fo (.lst (fs.map V.int ++ [.int zz]))) b (n + 1 + (t + 1)) := fun zz h1 h2 y4 => by
          refine ⟨⟨_, _, _, rfl⟩, ((k34.trans k46.nil).trans ((Kp.atD e46).wide fun _ z => .inr z)), fs ++ [zz], by rw [upd_same, List.map_append]; rfl, by rw [List.length_append, hfl]; rfl, nd_snoc hfn h1, fun v hv => ?_, ?_⟩
          · rcases List.mem_append.mp hv with hv | hv
            · exact hfv v hv
            · rw [List.mem_singleton.mp hv]; exact h2
          · exact ((hB4.keep0 k46).atD e46 (Ne.symm fob)).le (by omega)
        have hlen : (fs.map V.int).length < sizeLine := by rw [List.length_map, sizeLine_eq]; omega
        refine ⟨_, rfl, ite2 (fun hb => ?_) (fun hb => ?_)⟩
        · have hb : z ∉ fs := by simpa using hb
          exact ⟨_, rfl, fo, _, _, rfl, rfl, e46, hlen, fin z hb hzo _⟩
        · exact ⟨_, rfl, fo, _, _, rfl, rfl, e46, hlen, fin sp sp2 spo _⟩
    · obtain ⟨⟨y4, y5, y6, rfl⟩, k3, fs, e3, hfl, hfn, hfv, hB3⟩ := hP
      rw [ek] at hfl hB3
      refine ⟨_, rfl, fo, _, _, rfl, .inl (SqL.of e3), TvAll.ints fs, sortOk_ints fs (by rw [sizeLine_eq]; omega), fun p zs np tz => ?_⟩
      rw [sort_map] at tz
      have ez := tz.inv_ints
      subst ez
      have pm : (fs.mergeSort (PySem.W.dataLe false PyData.int)).Perm fs := List.mergeSort_perm _ _
      have kall : Kp (fun x => One b x ∨ One fo x) H H3 := (kH2.wide fun _ z => .inl z).trans k3
      have kall2 : Kp (One b) H H3 := kall.less nfH
      obtain ⟨ob3, hob3⟩ := hB3.there
      exact q p _ _ (kall2.trans (Kp.new Kp.refl np)) (kall2.fresh' np fun z => by have z : p = b := z; rw [z, hob3] at np; cases np) upd_same (by rw [pm.length_eq]; exact hfl) (pm.nodup_iff.mpr hfn) (fun v hv => hfv v (pm.mem_iff.mp hv)) ((hB3.keep0 (Kp.new Kp.refl np)).le (by omega))
end
end Ro

/-! RoLaw4: _law_tree. -/
namespace Ro
open PySem PySem.Spec PyProof.Rows L2

/-! ### trees as data -/
mutual
def encT : T Str → PyData
  | .leaf => .tuple []
  | .node c b => .tuple [.str c, .tuple (encB b)]
def encB : B Str → List PyData
  | .nil => []
  | .cons v t b => .tuple [.int v, encT t] :: encB b
end
def ofL : List (Int × T Str) → B Str
  | [] => .nil
  | p :: r => .cons p.1 p.2 (ofL r)
def encV (p : Int × T Str) : PyData := .tuple [.int p.1, encT p.2]
theorem encB_ofL : ∀ L : List (Int × T Str), encB (ofL L) = L.map encV
  | [] => by rw [ofL, encB]; rfl
  | p :: r => by rw [ofL, encB, encB_ofL r]; rfl
theorem bvals_ofL : ∀ L : List (Int × T Str), bvals (ofL L) = L.map (·.1)
  | [] => rfl
  | p :: r => by rw [ofL, bvals, bvals_ofL r]; rfl
theorem bOk_ofL {m : Int} {N : List Str} : ∀ {L : List (Int × T Str)}, (∀ p ∈ L, TOk m N p.2) → BOk m N (ofL L)
  | [], _ => by rw [ofL, BOk]; trivial
  | p :: r, h => by
    rw [ofL, BOk]
    exact ⟨h p List.mem_cons_self, bOk_ofL fun q hq => h q (List.mem_cons_of_mem _ hq)⟩
theorem bleaves_ofL : ∀ L : List (Int × T Str), bleaves (ofL L) = (L.map fun p => tleaves p.2).sum
  | [] => by rw [ofL, bleaves]; rfl
  | p :: r => by rw [ofL, bleaves, bleaves_ofL r]; rfl
theorem bne_ofL {L : List (Int × T Str)} (h : L ≠ []) : bne (ofL L) := by
  cases L with
  | nil => exact absurd rfl h
  | cons p r => rw [ofL, bne]; trivial
theorem erase_filter : ∀ {l : List Str} {k : Nat} {c : Str}, l.Nodup → l[k]? = some c → l.eraseIdx k = l.filter fun x => decide (x ≠ c)
  | [], _, _, _, h => by simp at h
  | x :: r, 0, c, hn, h => by
    have h : x = c := by simpa using h
    subst h
    have hn' := List.nodup_cons.mp hn
    rw [List.eraseIdx_cons_zero, List.filter_cons_of_neg (by simp)]
    symm
    exact List.filter_eq_self.mpr fun y hy => decide_eq_true fun e => hn'.1 (e ▸ hy)
  | x :: r, k + 1, c, hn, h => by
    have hn' := List.nodup_cons.mp hn
    have h : r[k]? = some c := by simpa using h
    have ne : x ≠ c := fun e => hn'.1 (e ▸ List.mem_of_getElem? h)
    rw [List.eraseIdx_cons_succ, List.filter_cons_of_pos (by simpa using ne), erase_filter hn'.2 h]
theorem erase_map {β γ : Type} (f : β → γ) : ∀ (l : List β) (k : Nat), (l.map f).eraseIdx k = (l.eraseIdx k).map f
  | [], _ => rfl
  | x :: r, 0 => rfl
  | x :: r, k + 1 => by rw [List.map_cons, List.eraseIdx_cons_succ, List.eraseIdx_cons_succ, List.map_cons, erase_map f r k]
theorem sum_le_len {β : Type} {f : β → Nat} {k : Nat} : ∀ {l : List β}, (∀ x ∈ l, f x ≤ k) → (l.map f).sum ≤ l.length * k
  | [], _ => by simp
  | x :: r, h => by
    have ih := sum_le_len fun y hy => h y (List.mem_cons_of_mem _ hy)
    have := h x List.mem_cons_self
    rw [List.map_cons, List.sum_cons, List.length_cons, Nat.succ_mul]; omega
/-- the takes of a tree at most -/
def tk : Nat → Nat
  | 0 => 1
  | m + 1 => 12 + 3 * tk m
theorem Df.never {P : Program} {w : World} {K : PySem.W.Frag} {mg : Str → Option Value} {base : Heap} {x : String} {st : Stmt} {ps : List Str} (k : Nat) (D : Df K mg x st ps) (hk : True) : Ok P w K mg base k (Str.ofString x) ps fun _ _ _ _ => False := by
  obtain ⟨f, fd, F, hm, hb⟩ := D.ex
  exact ⟨f, fd, ⟨fun _ _ _ _ h => h.elim, fun _ _ _ _ _ _ _ _ _ _ _ _ _ h => h.elim⟩, hm, F.kp, hb⟩
section
variable {P : Program} {w : World} {K : PySem.W.Frag} {mg : Str → Option Value} {base : Heap}
def spTree (K : PySem.W.Frag) (m : Nat) : Sp := fun vs H Q _ => ∃ (b a : Addr) (bud n : Nat) (L : List Str), vs = [.ref b, .ref a, .int bud] ∧ SqL K H a (L.map V.str) ∧ a ≠ b ∧ L.Nodup ∧ L.length ≤ m ∧ (∀ c ∈ L, CellOk c) ∧ m ≤ 20 ∧ BoxAt H b n ∧ n + tk m ≤ 2 ^ 29 ∧
  ∀ (v : V) (H' : Hp) (t : T Str), Kp (One b) H H' → Tv H' v (encT t) → TOk 1000000000 L t → tleaves t ≤ max 1 bud → BoxAt H' b (n + tk m) → Q v H'
theorem tk_le (m : Nat) : 1 ≤ tk m := by cases m <;> (unfold tk; omega)
theorem shaped_lstrs {L : List Str} (h : ∀ c ∈ L, CellOk c) : SeqAt.shaped (.list (L.map .str)) = true := by
  refine shaped_of ?_ ?_
  · rw [PyData.canLay0]
    exact lay_all fun c hc => by rw [PyData.canLay0]; exact strOk_cell (h c hc)
  · rw [PyData.depth]
    have := depth_all (enc := PyData.str) (k := 0) (l := L) fun c _ => by simp [PyData.depth]
    omega
/-- the body, whatever calls itself -/
theorem ok_tree_step (m k : Nat) (D : Df K mg "_law_tree" s_law_tree p_law_tree) (B : Bu mg) (ot : Ok P w K mg base 1 "_law_take" p_law_take spTake) (ov : Ok P w K mg base 2 "_law_values" p_law_values spValues) {spX : Sp}
    (ox : Ok P w K mg base k "_law_tree" p_law_tree spX) (hk : 2 ≤ k) (tkm : Nat) (htk : 12 + 3 * tkm ≤ tk m ∨ m = 0) (h1 : 1 ≤ tkm)
    (hX : ∀ j, m = j + 1 → ∀ vs H Q E, spTree K j vs H Q E → spX vs H Q E) (htkm : ∀ j, m = j + 1 → tkm = tk j) : Ok P w K mg base (k + 1) "_law_tree" p_law_tree (spTree K m) := by
  refine D.ok sc_law_tree (fun vs H Q E h => ?_) fun f cdv A outer s H vs Q E hr h => ?_
  · obtain ⟨b, a, bud, n, L, rfl, _⟩ := h
    rfl
  · obtain ⟨b, a, bud, n, L, rfl, ha, hab, hL, hLm, hLc, hm20, hB, hn, q⟩ := h
    have hu := hr.units
    have htk1 := tk_le m
    refine ⟨_, pss_cons (ps_if (PW.pt (pw_or (pt_cmpR (op_eqD hu) (pv 1) (pe_lst pa_nil) (nomark _)) (pw_or (pt_cmpR op_lt (pv 2) pe_int (nomark _)) (pw_or1 (pt_cmpR op_eq (pe_cl ot (hr.mono (by omega)) (pa_cons (pv 0) (pa_cons pe_int pa_nil))) pe_int (nomark _)))))) (pss_one (ps_ret (pe_tupP pa_nil))) pss_nil)
      (pss_cons (ps_set (i := 3) sc_law_tree.nd rfl (.inl rfl) (pe_callTy (listQ K) (by rfl) B.list bt_list (pa_cons (pv 1) pa_nil)))
      (pss_cons (ps_set (i := 4) sc_law_tree.nd rfl (.inl rfl) (pe_bm PySem.F.plainAttrs_list PySem.F.slot_list_pop PySem.F.type_list_pop mt_popAt (pv 3) (pa_cons (pe_cl ot (hr.mono (by omega)) (pa_cons (pv 0) (pa_cons (pe_callB (lenQ K) (by rfl) B.len bt_len (pa_cons (pv 3) pa_nil)) pa_nil))) pa_nil)))
      (pss_cons (ps_set (i := 5) sc_law_tree.nd rfl (.inl rfl) (pe_op op_add pe_int (pe_cl ot (hr.mono (by omega)) (pa_cons (pv 0) (pa_cons (pe_callB (call_min2 rfl) (by rfl) B.min bt_min (pa_cons pe_int (pa_cons (pv 2) pa_nil))) pa_nil)))))
      (pss_cons (ps_set (i := 6) sc_law_tree.nd rfl (.inl rfl) (pe_lst pa_nil))
      (pss_cons (ps_for PassesOwn.never rfl (pi_list (pe_cl ov (hr.mono hk) (pa_cons (pv 0) (pa_cons (pv 5) pa_nil)))) (pg_name (i := 7) sc_law_tree.nd rfl (.inl rfl))
        (pss_one (ps_expr (pe_bm PySem.F.plainAttrs_list PySem.F.slot_list_append PySem.F.type_list_append mt_append (pv 6) (pa_cons (pe_tupP (pa_cons (pv 7) (pa_cons (pe_cl ox hr (pa_cons (pv 0) (pa_cons (pv 3) (pa_cons (pe_op op_fdiv (pv 2) (pv 5)) pa_nil)))) pa_nil))) pa_nil)))))
      (pss_one (ps_ret (pe_tupP (pa_cons (pv 4) (pa_cons (pe_callTy (tupQ K) (by rfl) B.tuple bt_tuple (pa_cons (pv 6) pa_nil)) pa_nil)))))))))), ?_⟩
    have leafQ : ∀ (H1 : Hp) (n' : Nat), Kp (One b) H H1 → BoxAt H1 b n' → n' ≤ n + tk m → 0 ≤ sizeLine ∧ ∀ p o, H1 p = none → o.cls = .type "tuple" → o.dict = none → Q (.ref p) (upd H1 p (.frz o (.tup []))) := fun H1 n' k1 hB1 hle =>
      ⟨Nat.zero_le _, fun p o np hc hd => q _ _ .leaf (k1.trans (Kp.new Kp.refl np)) (by rw [encT]; exact .tup (Pt.new hc hd) .nil) (by rw [TOk]; trivial) (by show 1 ≤ _; omega) ((hB1.keep0 (Kp.new Kp.refl np)).le hle)⟩
    refine ⟨_, rfl, Nat.zero_le _, fun l1 nl1 => ?_⟩
    have kl : Kp Nil H (upd H l1 (.lst [])) := Kp.new Kp.refl nl1
    refine ⟨.list (L.map .str), .list [], .lst (kl.sql ha fun z => z) (TvAll.strs L).dp, .lst (SqL.of upd_same) .nil, shaped_lstrs hLc, shaped_lnil, _, rfl, ?_⟩
    by_cases hL0 : L = []
    · subst hL0
      rw [show ([] : List Str).map PyData.str = [] from rfl, eqv_list_nil]
      exact iteT (iteT (leafQ _ n kl.nil (hB.keep0 kl) (by omega)))
    · obtain ⟨c0, L0, eL⟩ := List.exists_cons_of_ne_nil hL0
      have eqf : PyData.eqv (.list (L.map .str)) (.list []) = false := by rw [eL]; exact eqv_list_cons _ _
      rw [eqf]
      refine iteF ⟨_, rfl, _, _, rfl, rfl, _, rfl, ?_⟩
      refine ite2 (fun hb => ?_) (fun hb => ?_)
      · exact iteT (leafQ _ n kl.nil (hB.keep0 kl) (by omega))
      have hbud : 1 ≤ bud := by
        have : ¬ ((bud : Int) < 1) := fun z => hb (decide_eq_true z)
        omega
      refine ⟨_, rfl, b, 5, n, rfl, by decide, by decide, hB.keep0 kl, by omega, fun r H1 r0 r1 k1 hB1 => ⟨rfl, _, rfl, ?_⟩⟩
      have kH1 : Kp (One b) H H1 := kl.nil.trans k1
      refine ite2 (fun hb2 => ?_) (fun hb2 => ?_)
      · exact leafQ _ (n + 1) kH1 hB1 (by omega)
      obtain ⟨j, rfl⟩ : ∃ j, m = j + 1 := ⟨m - 1, by rw [eL, List.length_cons] at hLm; omega⟩
      have etk : tkm = tk j := htkm j rfl
      have etk1 : tk (j + 1) = 12 + 3 * tk j := rfl
      have hLlen : 1 ≤ L.length := by rw [eL]; simp
      -- left = list(cells)
      refine ⟨_, rfl, a, _, rfl, .inl (kH1.sql ha hab), fun lf nlf => ?_⟩
      obtain ⟨ob1, hob1⟩ := hB1.there
      have lfb : lf ≠ b := fun z => by rw [z, hob1] at nlf; cases nlf
      have klf : Kp Nil H1 (upd H1 lf (.lst (L.map V.str))) := Kp.new Kp.refl nlf
      obtain ⟨H2, eH2, klf, e2⟩ : ∃ H2, H2 = upd H1 lf (.lst (L.map V.str)) ∧ Kp Nil H1 H2 ∧ H2 lf = some (.lst (L.map V.str)) := ⟨_, rfl, klf, upd_same⟩
      have hB2 := hB1.keep0 klf
      show tSeq _ _ _ _ (upd H1 lf (.lst (L.map V.str)))
      rw [← eH2]
      have kH2 : Kp (One b) H H2 := kH1.trans klf.nil
      have nlfH : H lf = none := kH1.fresh' nlf fun z => lfb z
      refine ⟨_, rfl, .inl ⟨rfl, _, SqL.of e2⟩, _, rfl, _, rfl, lf, _, rfl, .inl (SqL.of e2), b, _, n + 1, rfl, by rw [List.length_map]; omega, by rw [List.length_map]; omega, hB2, by omega, fun r3 H3 r30 r31 k3 hB3 => ?_⟩
      rw [List.length_map] at r31
      have e3 := k3.keep _ _ e2 lfb
      obtain ⟨pi, rfl⟩ : ∃ pi : Nat, r3 = (pi : Int) := ⟨r3.toNat, by omega⟩
      have hpi : pi < L.length := by omega
      have hpc : L[pi]? = some L[pi] := List.getElem?_eq_getElem hpi
      have hsi : seqIndex? (pi : Int) (L.map V.str).length = some pi := (ixN_seq (by unfold ixN; rw [if_pos (by omega), if_pos (by rw [List.length_map]; omega)]; rfl)).1
      refine ⟨lf, _, (pi : Int), pi, .str L[pi], rfl, rfl, e3, by omega, by omega, hsi, by rw [List.getElem?_map, hpc]; rfl, ?_⟩
      have eer : (L.map V.str).eraseIdx pi = (L.filter fun x => decide (x ≠ L[pi])).map V.str := by
        rw [← erase_filter hL hpc, erase_map]
      have hLn : (L.filter fun x => decide (x ≠ L[pi])).length + 1 = L.length := len_filter_ne hL (List.getElem_mem hpi)
      have hcm : L[pi] ∈ L := List.getElem_mem hpi
      generalize L[pi] = c at hpc eer hLn hcm
      have kat : Kp (One lf) H3 (upd H3 lf (.lst ((L.map V.str).eraseIdx pi))) := Kp.atD e3
      rw [eer] at kat ⊢
      have kH3 : Kp (One b) H H3 := kH2.trans k3
      have kH4 : Kp (One b) H (upd H3 lf (.lst ((L.filter fun x => decide (x ≠ c)).map V.str))) := kH3.mut nlfH
      have hB4 : BoxAt (upd H3 lf (.lst ((L.filter fun x => decide (x ≠ c)).map V.str))) b (n + 2) := hB3.keep kat (Ne.symm lfb)
      obtain ⟨H4, eH4, kH4, hB4, e4⟩ : ∃ H4, H4 = upd H3 lf (.lst ((L.filter fun x => decide (x ≠ c)).map V.str)) ∧ Kp (One b) H H4 ∧ BoxAt H4 b (n + 2) ∧ H4 lf = some (.lst ((L.filter fun x => decide (x ≠ c)).map V.str)) := ⟨_, rfl, kH4, hB4, upd_same⟩
      rw [← eH4]
      -- the count
      refine ⟨_, rfl, _, rfl, 3, (bud : Int), rfl, b, _, n + 2, rfl, by split <;> omega, by split <;> omega, hB4, by omega, fun r5 H5 r50 r51 k5 hB5 => ⟨_, _, rfl, rfl, ?_⟩⟩
      obtain ⟨cn, hcn, hcn3, hcnb⟩ : ∃ cn : Nat, (1 : Int) + r5 = (cn : Int) ∧ cn ≤ 3 ∧ cn ≤ bud := by
        refine ⟨(1 + r5).toNat, by omega, ?_, ?_⟩ <;> (split at r51 <;> omega)
      have hcn1 : 1 ≤ cn := by omega
      have e5 := k5.keep _ _ e4 lfb
      have kH5 : Kp (One b) H H5 := kH4.trans k5
      show tSeq _ _ _ _ H5
      refine ⟨Nat.zero_le _, fun br nbr => ?_⟩
      obtain ⟨ob5, hob5⟩ := hB5.there
      have brb : br ≠ b := fun z => by rw [z, hob5] at nbr; cases nbr
      have brlf : br ≠ lf := fun z => by rw [z, e5] at nbr; cases nbr
      have kbr : Kp Nil H5 (upd H5 br (.lst [])) := Kp.new Kp.refl nbr
      obtain ⟨H6, eH6, kbr, e6⟩ : ∃ H6, H6 = upd H5 br (.lst []) ∧ Kp Nil H5 H6 ∧ H6 br = some (.lst []) := ⟨_, rfl, kbr, upd_same⟩
      show tSeq _ _ _ _ (upd H5 br (.lst []))
      rw [← eH6]
      have kH6 : Kp (One b) H H6 := kH5.trans kbr.nil
      have hB6 := hB5.keep0 kbr
      refine ⟨_, rfl, _, rfl, b, cn, n + 3, ?_, hcn3, hB6, by omega, fun vp H7 vals k7 nvp e7 hvl hvn hvo hB7 => ?_⟩
      · show [V.ref b, V.int (1 + r5)] = _
        rw [hcn]
      have hB7 : BoxAt H7 b (n + 11) := hB7.le (by omega)
      have e7lf := k7.keep _ _ (kbr.keep _ _ e5 fun z => z) lfb
      have e7br := k7.keep _ _ e6 brb
      have vpb : vp ≠ b := fun z => by
        obtain ⟨o, h⟩ := hB6.there
        rw [z, h] at nvp; cases nvp
      have vpbr : vp ≠ br := fun z => by rw [z, e6] at nvp; cases nvp
      have hLfn : (L.filter fun x => decide (x ≠ c)).Nodup := hL.filter _
      have hLfo : ∀ x ∈ L.filter (fun x => decide (x ≠ c)), CellOk x := fun x hx => hLc x (List.mem_filter.mp hx).1
      have hdiv : ((bud : Int) / ((1 : Int) + r5)) = ((bud / cn : Nat) : Int) := by rw [hcn]; rfl
      refine ⟨vp, rfl, ⟨_, SqL.of e7⟩, for_it (walk_list (xs := vals.map V.int)) (fun i σ H8 => (∃ y7, σ = [some (.ref b), some (.ref a), some (.int bud), some (.ref lf), some (.str c), some (.int (1 + r5)), some (.ref br), y7]) ∧ Kp (fun x => One b x ∨ One br x) H7 H8 ∧ ∃ (PL : List (Int × T Str)) (ys : List V), H8 br = some (.lst ys) ∧ TvAll H8 ys (PL.map encV) ∧ PL.map (·.1) = vals.take i ∧
          (∀ p ∈ PL, TOk 1000000000 (L.filter fun x => decide (x ≠ c)) p.2 ∧ tleaves p.2 ≤ max 1 (bud / cn)) ∧ BoxAt H8 b (n + 11 + i * tk j))
        ⟨⟨none, rfl⟩, Kp.refl, [], [], e7br, .nil, rfl, fun p hp => (by cases hp), by rw [Nat.zero_mul]; exact hB7⟩ (fun _ _ _ _ h => h.2.1.sql (SqL.of e7) fun z => z.elim vpb vpbr) (fun i x σ H8 H8' hi hP yy => ?_) fun σ H8 hP => ?_⟩
      · obtain ⟨rfl, hx⟩ := yy
        obtain ⟨vv, hvv, rfl⟩ := ints_at hx
        obtain ⟨⟨y7, rfl⟩, k8, PL, ys, e8, t8, hPL, hPo, hB8⟩ := hP
        have hi2 : i < cn := by rw [List.length_map, hvl] at hi; exact hi
        have him : i * tk j ≤ 2 * tk j := Nat.mul_le_mul_right _ (by omega)
        have e8lf : H8' lf = some (.lst ((L.filter fun x => decide (x ≠ c)).map V.str)) := k8.keep _ _ e7lf fun z => z.elim lfb fun z => brlf z.symm
        refine ⟨_, rfl, .inl ⟨rfl, _, SqL.of e8⟩, _, rfl, _, rfl, _, rfl, _, rfl, _, rfl, _, _, rfl, rfl, ⟨by omega, by omega⟩, hX j rfl _ _ _ _ ⟨b, lf, bud / cn, n + 11 + i * tk j, _, ?_, SqL.of e8lf, lfb, hLfn, by omega, hLfo, by omega, hB8, by omega, fun v H9 t k9 t9 tok9 tl9 hB9 => ?_⟩⟩
        · show [V.ref b, V.ref lf, V.int ((bud : Int) / ((1 : Int) + r5))] = _
          rw [hdiv]
        · have e9 := k9.keep _ _ e8 brb
          have hys : ys.length = PL.length := by rw [t8.length, List.length_map]
          have hPLl : PL.length ≤ 3 := by
            have := congrArg List.length hPL
            rw [List.length_map, List.length_take] at this
            omega
          refine ⟨by show 2 ≤ sizeLine; rw [sizeLine_eq]; decide, fun p o np hc hd => ⟨br, ys, _, rfl, rfl, by rw [upd_ne (ne_of_none e9 np)]; exact e9, by rw [sizeLine_eq]; omega, ⟨_, rfl⟩, ?_, PL ++ [(vv, t)], _, upd_same, ?_, ?_, fun p' hp' => ?_, ?_⟩⟩
          · exact ((k8.trans (k9.wide fun _ z => .inl z)).trans (Kp.new Kp.refl np)).trans ((Kp.atD (by rw [upd_ne (ne_of_none e9 np)]; exact e9)).wide fun _ z => .inr z)
          · have kp : Kp Nil H9 (upd H9 p (.frz o (.tup [.int vv, v]))) := Kp.new Kp.refl np
            have ka : Kp (One br) (upd H9 p (.frz o (.tup [.int vv, v]))) (upd (upd H9 p (.frz o (.tup [.int vv, v]))) br (.lst (ys ++ [.ref p]))) := Kp.atD (by rw [upd_ne (ne_of_none e9 np)]; exact e9)
            rw [List.map_append]
            refine ((((t8.keep k9).keep kp).keep ka)).snoc ?_
            exact .tup ((Pt.new hc hd).keep ka) (.cons (.int vv) (.cons ((t9.keep kp).keep ka) .nil))
          · rw [List.map_append, hPL, take_snoc hvv]; rfl
          · rcases List.mem_append.mp hp' with hp' | hp'
            · exact hPo p' hp'
            · rw [List.mem_singleton.mp hp']; exact ⟨tok9, tl9⟩
          · have kp : Kp Nil H9 (upd H9 p (.frz o (.tup [.int vv, v]))) := Kp.new Kp.refl np
            refine ((hB9.keep0 kp).atD (by rw [upd_ne (ne_of_none e9 np)]; exact e9) (Ne.symm brb)).le ?_
            rw [Nat.succ_mul]; omega
      · obtain ⟨⟨y7, rfl⟩, k8, PL, ys, e8, t8, hPL, hPo, hB8⟩ := hP
        rw [List.length_map, hvl] at hPL hB8
        have hPL : PL.map (·.1) = vals := by rw [hPL, ← hvl, List.take_length]
        have hPLl : PL.length = cn := by rw [← hvl, ← hPL, List.length_map]
        have hcm' : cn * tk j ≤ 3 * tk j := Nat.mul_le_mul_right _ hcn3
        refine ⟨_, rfl, _, rfl, br, ys, rfl, SqL.of e8, fun lt o nl hc hd => ⟨by show 2 ≤ sizeLine; rw [sizeLine_eq]; decide, fun p o2 np hc2 hd2 => ?_⟩⟩
        have kl8 : Kp Nil H8 (upd H8 lt (.frz o (.tup ys))) := Kp.new Kp.refl nl
        have kp8 : Kp Nil (upd H8 lt (.frz o (.tup ys))) (upd (upd H8 lt (.frz o (.tup ys))) p (.frz o2 (.tup [.str c, .ref lt]))) := Kp.new Kp.refl np
        have kall : Kp (fun x => One b x ∨ One br x) H (upd (upd H8 lt (.frz o (.tup ys))) p (.frz o2 (.tup [.str c, .ref lt]))) := ((((kH6.trans k7).wide fun _ z => .inl z).trans k8).trans kl8.nil).trans kp8.nil
        have nbrH : H br = none := kH5.fresh' nbr fun z => brb z
        refine q _ _ (.node c (ofL PL)) (kall.less nbrH) ?_ ?_ ?_ (((hB8.keep0 kl8).keep0 kp8).le (by omega))
        · rw [encT, encB_ofL]
          refine .tup (Pt.new hc2 hd2) (.cons (.str c) (.cons (Tv.keep kp8 (.tup (Pt.new hc hd) (t8.keep kl8))) .nil))
        · rw [TOk]
          refine ⟨hcm, bne_ofL fun e => ?_, by rw [bvals_ofL, hPL]; exact hvn, fun v hv => ?_, bOk_ofL fun p hp => (hPo p hp).1⟩
          · rw [e] at hPLl
            have : (0 : Nat) = cn := hPLl
            omega
          · rw [bvals_ofL, hPL] at hv
            exact hvo v hv
        · rw [tleaves, bleaves_ofL]
          have h1 := sum_le_len (f := fun p : Int × T Str => tleaves p.2) (l := PL) fun p hp => (hPo p hp).2
          rw [hPLl] at h1
          have hd1 : 1 ≤ bud / cn := (Nat.le_div_iff_mul_le (by omega)).mpr (by omega)
          have h2 : max 1 (bud / cn) = bud / cn := Nat.max_eq_right hd1
          rw [h2] at h1
          have h3 : cn * (bud / cn) ≤ bud := Nat.mul_div_le bud cn
          exact Nat.le_trans h1 (Nat.le_trans h3 (Nat.le_max_right _ _))
theorem ok_law_tree (D : Df K mg "_law_tree" s_law_tree p_law_tree) (B : Bu mg) (ot : Ok P w K mg base 1 "_law_take" p_law_take spTake) (ov : Ok P w K mg base 2 "_law_values" p_law_values spValues) : ∀ m, Ok P w K mg base (m + 3) "_law_tree" p_law_tree (spTree K m)
  | 0 => ok_tree_step 0 2 D B ot ov (D.never 2 trivial) (Nat.le_refl _) 1 (.inr rfl) (Nat.le_refl _) (fun j e => by omega) fun j e => by omega
  | m + 1 => ok_tree_step (m + 1) (m + 3) D B ot ov (ok_law_tree D B ot ov m) (by omega) (tk m) (.inl (Nat.le_refl _)) (tk_le m) (fun j e vs H Q E h => by
      have e : j = m := by omega
      subst e
      exact h) fun j e => by
      have e : j = m := by omega
      subst e
      rfl
end
end Ro

/-! RoLaw5: _law_leaves. -/
namespace Ro
open PySem PySem.Spec PyProof.Rows L2

abbrev leP : Pr → Pr → Bool := PySem.W.dataLe false encP
/-- a log's pairs, sorted -/
def spL (l : Lg) : Lg := l.mergeSort leP
theorem spL_perm (l : Lg) : (spL l).Perm l := List.mergeSort_perm _ _
def toL : B Str → List (Int × T Str)
  | .nil => []
  | .cons v t b => (v, t) :: toL b
theorem encB_toL : ∀ b : B Str, encB b = (toL b).map encV
  | .nil => by rw [encB, toL]; rfl
  | .cons v t b => by rw [encB, toL, encB_toL b]; rfl
theorem blogs_toL (c : Str) : ∀ b : B Str, blogs c b = (toL b).flatMap fun p => (tlogs p.2).map ((c, p.1) :: ·)
  | .nil => by rw [blogs, toL]; rfl
  | .cons v t b => by rw [blogs, toL, List.flatMap_cons, blogs_toL c b]
theorem bOk_toL {m : Int} {N : List Str} : ∀ {b : B Str}, BOk m N b → ∀ p ∈ toL b, TOk m N p.2
  | .nil, _, p, hp => by rw [toL] at hp; cases hp
  | .cons v t b, h, p, hp => by
    rw [BOk] at h
    rw [toL] at hp
    rcases List.mem_cons.mp hp with rfl | hp
    · exact h.1
    · exact bOk_toL h.2 p hp
theorem bne_toL {b : B Str} (h : bne b) : toL b ≠ [] := by
  cases b with
  | nil => exact h.elim
  | cons v t b => rw [toL]; simp
mutual
def tsize : T Str → Nat
  | .leaf => 1
  | .node _ b => 1 + bsize b
def bsize : B Str → Nat
  | .nil => 0
  | .cons _ t b => tsize t + bsize b
end
theorem bsize_toL : ∀ b : B Str, bsize b = ((toL b).map fun p => tsize p.2).sum
  | .nil => by rw [bsize, toL]; rfl
  | .cons v t b => by rw [bsize, toL, bsize_toL b]; rfl
mutual
theorem tleaves_pos {m : Int} : ∀ {N : List Str} {t : T Str}, TOk m N t → 1 ≤ tleaves t
  | _, .leaf, _ => by rw [tleaves]; exact Nat.le_refl _
  | N, .node c b, h => by
    rw [TOk] at h
    rw [tleaves]
    exact bleaves_pos h.2.1 h.2.2.2.2
theorem bleaves_pos {m : Int} : ∀ {N : List Str} {b : B Str}, bne b → BOk m N b → 1 ≤ bleaves b
  | _, .nil, h, _ => h.elim
  | N, .cons v t b, _, h => by
    rw [BOk] at h
    rw [bleaves]
    have := tleaves_pos h.1
    omega
end
mutual
theorem lay_T {m : Int} : ∀ {N : List Str} {t : T Str}, TOk m N t → (∀ c ∈ N, CellOk c) → (encT t).canLay0 = true ∧ (encT t).depth ≤ 3 * N.length + 1
  | _, .leaf, _, _ => by rw [encT]; simp [PyData.canLay0, PyData.canLayAll0, PyData.depth, PyData.depthAll]
  | N, .node c b, h, hN => by
    rw [TOk] at h
    obtain ⟨hc, _, _, _, hb⟩ := h
    have hlt : (N.filter fun x => decide (x ≠ c)).length < N.length := by
      have := filter_split (fun x => decide (x ≠ c)) N
      have : 0 < (N.filter fun x => !decide (x ≠ c)).length := List.length_pos_of_mem (List.mem_filter.mpr ⟨hc, by simp⟩)
      omega
    obtain ⟨h1, h2⟩ := lay_B hb fun x hx => hN x (List.mem_filter.mp hx).1
    rw [encT]
    refine ⟨?_, ?_⟩
    · simp only [PyData.canLay0, PyData.canLayAll0, h1, strOk_cell (hN c hc), Bool.and_true]
    · simp only [PyData.depth, PyData.depthAll]
      omega
theorem lay_B {m : Int} : ∀ {N : List Str} {b : B Str}, BOk m N b → (∀ c ∈ N, CellOk c) → PyData.canLayAll0 (encB b) = true ∧ PyData.depthAll (encB b) ≤ 3 * N.length + 2
  | _, .nil, _, _ => by rw [encB]; simp [PyData.canLayAll0, PyData.depthAll]
  | N, .cons v t b, h, hN => by
    rw [BOk] at h
    obtain ⟨h1, h2⟩ := lay_T h.1 hN
    obtain ⟨h3, h4⟩ := lay_B h.2 hN
    rw [encB]
    refine ⟨?_, ?_⟩
    · simp only [PyData.canLayAll0, PyData.canLay0, h1, h3, Bool.and_true]
    · simp only [PyData.depth, PyData.depthAll]
      omega
end
/-- what waits: a tree and the pairs on the way to it -/
abbrev WI := T Str × Lg
def encW (x : WI) : PyData := .tuple [encT x.1, encL x.2]
def logsOf (x : WI) : Fm := (tlogs x.1).map fun l => spL (x.2 ++ l)
structure WOk (x : WI) : Prop where
  ok : ∃ N : List Str, TOk 1000000000 N x.1 ∧ (∀ c ∈ N, CellOk c) ∧ N.length + x.2.length ≤ 8
  cells : ∀ p ∈ x.2, CellOk p.1
theorem WOk.leaves {x : WI} (h : WOk x) : 1 ≤ (logsOf x).length := by
  obtain ⟨N, h1, _⟩ := h.ok
  unfold logsOf
  rw [List.length_map, tlogs_length]
  exact tleaves_pos h1
theorem WOk.lay {x : WI} (h : WOk x) : (encW x).canLay0 = true ∧ (encW x).depth ≤ 30 := by
  obtain ⟨N, h1, h2, h3⟩ := h.ok
  obtain ⟨a, b⟩ := lay_T h1 h2
  have c : (encL x.2).canLay0 = true := by
    rw [encL, PyData.canLay0]
    exact lay_all fun p hp => by simp [encP, PyData.canLay0, PyData.canLayAll0, strOk_cell (h.cells p hp)]
  have d := depth_L x.2
  unfold encW
  refine ⟨?_, ?_⟩
  · simp only [PyData.canLay0, PyData.canLayAll0, a, c, Bool.and_true]
  · simp only [PyData.depth, PyData.depthAll]
    omega
theorem shaped_W {W : List WI} (h : ∀ x ∈ W, WOk x) : SeqAt.shaped (.list (W.map encW)) = true := by
  refine shaped_of ?_ ?_
  · rw [PyData.canLay0]
    exact lay_all fun x hx => (h x hx).lay.1
  · rw [PyData.depth]
    have := depth_all (enc := encW) (k := 30) (l := W) fun x hx => (h x hx).lay.2
    omega
theorem flat_len1 : ∀ {W : List WI}, (∀ x ∈ W, WOk x) → W.length ≤ (W.flatMap logsOf).length
  | [], _ => Nat.zero_le _
  | x :: r, h => by
    have ih := flat_len1 fun y hy => h y (List.mem_cons_of_mem _ hy)
    have := (h x List.mem_cons_self).leaves
    rw [List.flatMap_cons, List.length_append, List.length_cons]; omega
/-- the branches of a node, as they wait -/
def below (c : Str) (p : Lg) (L : List (Int × T Str)) : List WI := L.map fun q => (q.2, p ++ [(c, q.1)])
theorem below_logs (c : Str) (p : Lg) (b : B Str) : (below c p (toL b)).flatMap logsOf = logsOf (.node c b, p) := by
  have e : logsOf (.node c b, p) = (blogs c b).map fun l => spL (p ++ l) := by unfold logsOf; rw [tlogs]
  rw [e, blogs_toL]
  unfold below
  generalize toL b = L
  induction L with
  | nil => rfl
  | cons q r ih =>
    rw [List.map_cons, List.flatMap_cons, List.flatMap_cons, List.map_append, ih]
    congr 1
    unfold logsOf
    rw [List.map_map]
    refine List.map_congr_left fun l _ => ?_
    show spL (p ++ [(c, q.1)] ++ l) = spL (p ++ (c, q.1) :: l)
    rw [List.append_assoc]; rfl
theorem below_ok {c : Str} {p : Lg} {b : B Str} (h : WOk (.node c b, p)) : ∀ x ∈ below c p (toL b), WOk x := fun x hx => by
  obtain ⟨q, hq, rfl⟩ := List.mem_map.mp hx
  obtain ⟨N, h1, h2, h3⟩ := h.ok
  have h1 : TOk 1000000000 N (.node c b) := h1
  have h3 : N.length + p.length ≤ 8 := h3
  rw [TOk] at h1
  obtain ⟨hc, _, _, _, hb⟩ := h1
  have hlt : (N.filter fun x => decide (x ≠ c)).length < N.length := by
    have := filter_split (fun x => decide (x ≠ c)) N
    have : 0 < (N.filter fun x => !decide (x ≠ c)).length := List.length_pos_of_mem (List.mem_filter.mpr ⟨hc, by simp⟩)
    omega
  refine ⟨⟨N.filter fun x => decide (x ≠ c), bOk_toL hb q hq, fun x hx => h2 x (List.mem_filter.mp hx).1, ?_⟩, fun r hr => ?_⟩
  · show (N.filter fun x => decide (x ≠ c)).length + (p ++ [(c, q.1)]).length ≤ 8
    rw [List.length_append, List.length_singleton]; omega
  · have hr : r ∈ p ++ [(c, q.1)] := hr
    rcases List.mem_append.mp hr with hr | hr
    · exact h.cells r hr
    · rw [List.mem_singleton.mp hr]; exact h2 c hc
def wsize (W : List WI) : Nat := (W.map fun x => tsize x.1).sum
theorem wsize_app (W V : List WI) : wsize (W ++ V) = wsize W + wsize V := by unfold wsize; rw [List.map_append, List.sum_append]
theorem wsize_below (c : Str) (p : Lg) (b : B Str) : wsize (below c p (toL b)) = bsize b := by
  rw [bsize_toL]
  unfold wsize below
  rw [List.map_map]; rfl
structure Lv (H0 H : Hp) (fo wo : Addr) (F0 : Fm) (W : List WI) (G : Fm) : Prop where
  kp : Kp Nil H0 H
  fnd : ∃ ys, H fo = some (.lst ys) ∧ TvAll H ys (G.map encL)
  wai : ∃ ys, H wo = some (.lst ys) ∧ TvAll H ys (W.map encW)
  wok : ∀ x ∈ W, WOk x
  perm : (G ++ W.flatMap logsOf).Perm F0
section
variable {P : Program} {w : World} {K : PySem.W.Frag} {mg : Str → Option Value} {base : Heap}
def spLeaves : Sp := fun vs H Q _ => ∃ (v : V) (t : T Str) (N : List Str), vs = [v] ∧ Tv H v (encT t) ∧ TOk 1000000000 N t ∧ (∀ c ∈ N, CellOk c) ∧ N.length ≤ 8 ∧ tleaves t ≤ 60 ∧
  ∀ (u : V) (H' : Hp) (F : Fm), Kp Nil H H' → Tv H' u (encF F) → F.Perm ((tlogs t).map spL) → Q u H'
theorem ok_law_leaves (D : Df K mg "_law_leaves" s_law_leaves p_law_leaves) (B : Bu mg) : Ok P w K mg base 1 "_law_leaves" p_law_leaves spLeaves := by
  refine D.ok sc_law_leaves (fun vs H Q E h => ?_) fun f cdv A outer s H vs Q E hr h => ?_
  · obtain ⟨v, t, N, rfl, _⟩ := h
    rfl
  · obtain ⟨v, t, N, rfl, hv, ht, hN, hNl, htl, q⟩ := h
    have hu := hr.units
    refine ⟨_, pss_cons (ps_par (i := 1) (j := 2) rfl sc_law_leaves.nd rfl rfl (by decide) rfl rfl (pa_cons (pe_lst pa_nil) (pa_cons (pe_lst (pa_cons (pe_tupP (pa_cons (pv 0) (pa_cons (pe_tupP pa_nil) pa_nil))) pa_nil)) pa_nil)) (by rfl))
      (pss_cons (ps_while PassesOwn.never (pt_cmpR (op_neD hu) (pv 2) (pe_lst pa_nil) (nomark _))
        (pss_cons (ps_asg (pe_bm0 PySem.F.plainAttrs_list PySem.F.slot_list_pop PySem.F.type_list_pop mt_pop (pv 2)) (pg_tup rfl (pgs_cons (pg_name (i := 3) sc_law_leaves.nd rfl (.inr rfl)) (pgs_cons (pg_name (i := 4) sc_law_leaves.nd rfl (.inr rfl)) pgs_nil))))
        (pss_one (ps_if (pt_cmpR (op_eqD hu) (pv 3) (pe_tupP pa_nil) (nomark _))
          (pss_one (ps_expr (pe_bm PySem.F.plainAttrs_list PySem.F.slot_list_append PySem.F.type_list_append mt_append (pv 1) (pa_cons (pe_callTy (tupQ K) (by rfl) B.tuple bt_tuple (pa_cons (pe_callB (sortQ K hu) (by rfl) B.sorted bt_sorted (pa_cons (pv 4) pa_nil)) pa_nil)) pa_nil))))
          (pss_one (ps_expr (pe_bm PySem.F.plainAttrs_list PySem.F.slot_list_extend PySem.F.type_list_extend mt_extend (pv 2) (pa_cons
            (pe_lc (own := [("_law_value", 5), ("_law_below", 6)]) (g := gTup K 2 (gCons (gName 5) (gCons (gName 6) gNil))) (tt := tYes) rfl sc_law_leaves.nd (pi_tup (pe_ix (ixT K) (pv 3) pe_int (fun _ _ => rfl))) (blkOk_by (N := n_law_leaves) (sc := defScope s_law_leaves) (by decide +kernel))
              (fun _ _ _ _ _ => pg_tup rfl (pgs_cons (pg_name (i := 5) sc_law_leaves.nd rfl (.inl rfl)) (pgs_cons (pg_name (i := 6) sc_law_leaves.nd rfl (.inl rfl)) pgs_nil))) (fun _ _ _ _ _ => pts_nil)
              (fun _ _ _ _ _ => pe_tupP (pa_cons (pv 6) (pa_cons (pe_op op_catPt (pv 4) (pe_tupP (pa_cons (pe_tupP (pa_cons (pe_ix (ixT K) (pv 3) pe_int (fun _ _ => rfl)) (pa_cons (pv 5) pa_nil))) pa_nil))) pa_nil)))) pa_nil))))))))
      (pss_one (ps_ret (pe_callTy (tupQ K) (by rfl) B.tuple bt_tuple (pa_cons (pe_callB (sortQ K hu) (by rfl) B.sorted bt_sorted (pa_cons (pv 1) pa_nil)) pa_nil))))), ?_⟩
    refine ⟨Nat.zero_le _, fun fo nf => ⟨_, rfl, Nat.zero_le _, fun t0 o0 n0 hc0 hd0 => ⟨by show 2 ≤ sizeLine; rw [sizeLine_eq]; decide, fun t1 o1 n1 hc1 hd1 => ⟨by show 1 ≤ sizeLine; rw [sizeLine_eq]; decide, fun wo nw => ⟨_, _, rfl, ?_⟩⟩⟩⟩⟩
    have kf : Kp Nil H (upd H fo (.lst [])) := Kp.new Kp.refl nf
    have k0 : Kp Nil (upd H fo (.lst [])) (upd (upd H fo (.lst [])) t0 (.frz o0 (.tup []))) := Kp.new Kp.refl n0
    have k1 : Kp Nil (upd (upd H fo (.lst [])) t0 (.frz o0 (.tup []))) (upd (upd (upd H fo (.lst [])) t0 (.frz o0 (.tup []))) t1 (.frz o1 (.tup [v, .ref t0]))) := Kp.new Kp.refl n1
    have e1f := (k0.trans k1).keep _ _ (upd_same (H := H) (a := fo) (o := .lst [])) fun z => z
    have tv1 : Tv (upd (upd (upd H fo (.lst [])) t0 (.frz o0 (.tup []))) t1 (.frz o1 (.tup [v, .ref t0]))) (.ref t1) (encW (t, [])) :=
      .tup (Pt.new hc1 hd1) (.cons (((hv.keep kf).keep k0).keep k1) (.cons (.tup ((Pt.new hc0 hd0).keep k1) .nil) .nil))
    obtain ⟨H1, eH1, kH1, e1f, tv1⟩ : ∃ H1, H1 = upd (upd (upd H fo (.lst [])) t0 (.frz o0 (.tup []))) t1 (.frz o1 (.tup [v, .ref t0])) ∧ Kp Nil H H1 ∧ H1 fo = some (.lst []) ∧ Tv H1 (.ref t1) (encW (t, [])) := ⟨_, rfl, (kf.trans k0).trans k1, e1f, tv1⟩
    rw [← eH1] at nw
    have fw : fo ≠ wo := ne_of_none e1f nw
    have nwH : H wo = none := kH1.fresh nw
    have kw : Kp Nil H1 (upd H1 wo (.lst [.ref t1])) := Kp.new Kp.refl nw
    have hw0 : ∀ x ∈ [((t, []) : WI)], WOk x := fun x hx => by
      rw [List.mem_singleton.mp hx]
      exact ⟨⟨N, ht, hN, by show N.length + 0 ≤ 8; omega⟩, fun p hp => by cases hp⟩
    refine ⟨fun m σ H2 => (∃ y3 y4, σ = [some v, some (.ref fo), some (.ref wo), y3, y4, none, none]) ∧ ∃ W G, Lv H H2 fo wo (logsOf (t, [])) W G ∧ m = wsize W,
      ⟨_, ⟨none, none, rfl⟩, [(t, [])], [], ⟨?_, ?_, ?_, hw0, ?_⟩, rfl⟩, ?_⟩
    · rw [← eH1]; exact kH1.trans kw
    · rw [← eH1]; exact ⟨[], by rw [upd_ne fw]; exact e1f, .nil⟩
    · rw [← eH1]; exact ⟨_, upd_same, .cons (tv1.keep kw) .nil⟩
    · rw [List.nil_append, List.flatMap_cons, List.flatMap_nil, List.append_nil]
    rintro m σ H2 ⟨⟨y3, y4, rfl⟩, W, G, Bk, rfl⟩
    obtain ⟨ws, ew, tw⟩ := Bk.wai
    obtain ⟨fs, ef, tf⟩ := Bk.fnd
    have lw : ws.length = W.length := tw.len
    have lf : fs.length = G.length := tf.len
    have htot : G.length + (W.flatMap logsOf).length = tleaves t := by
      have := Bk.perm.length_eq
      rw [List.length_append] at this
      rw [this]
      unfold logsOf
      rw [List.length_map, tlogs_length]
    have hWl := flat_len1 Bk.wok
    refine ⟨_, rfl, Nat.zero_le _, fun b nb => ⟨.list (W.map encW), .list [], .lst (SqL.of (by rw [upd_ne (ne_of_none ew nb)]; exact ew)) (tw.keep (Kp.new (S := Nil) Kp.refl nb)).dp, .lst (SqL.of upd_same) .nil, shaped_W Bk.wok, shaped_lnil, _, rfl, ?_⟩⟩
    have kb : Kp Nil H2 (upd H2 b (.lst [])) := Kp.new Kp.refl nb
    have ew1 : (upd H2 b (.lst [])) wo = some (.lst ws) := kb.keep _ _ ew fun z => z
    have ef1 : (upd H2 b (.lst [])) fo = some (.lst fs) := kb.keep _ _ ef fun z => z
    by_cases hW : W = []
    · subst hW
      rw [show ([] : List WI).map encW = [] from rfl, eqv_list_nil]
      refine iteF ?_
      have hperm : G.Perm (logsOf (t, [])) := by
        have := Bk.perm
        rw [List.flatMap_nil, List.append_nil] at this
        exact this
      have hsp : logsOf (t, []) = (tlogs t).map spL := rfl
      have ok : SortOk (G.map encL) := sortOk_logs G (by rw [sizeLine_eq]; omega) (by
        cases t with
        | leaf =>
          refine .inr ?_
          rw [hperm.length_eq]
          exact Nat.lt_succ_self 1
        | node c bb =>
          refine .inl fun l hl e => ?_
          have := hperm.mem_iff.mp hl
          rw [hsp] at this
          obtain ⟨l', hl', e'⟩ := List.mem_map.mp this
          rw [tlogs] at hl'
          rw [TOk] at ht
          obtain ⟨vv, r, _, e2, _⟩ := blogs_ok 1000000000 c _ bb ht.2.2.2.2 l' hl'
          have pm := spL_perm l'
          rw [e', e, e2] at pm
          have := pm.length_eq
          simp at this)
      refine ⟨_, rfl, fo, fs, _, rfl, .inl (SqL.of ef1), tf.keep kb, ok, fun p zs np tz => ⟨p, zs, rfl, SqL.of upd_same, fun l o nl hc hd => ?_⟩⟩
      have kp1 : Kp Nil H2 (upd (upd H2 b (.lst [])) p (.lst zs)) := Kp.new kb np
      have kl : Kp Nil H2 (upd (upd (upd H2 b (.lst [])) p (.lst zs)) l (.frz o (.tup zs))) := Kp.new kp1 nl
      rw [sort_map] at tz
      have pm : (G.mergeSort (PySem.W.dataLe false encL)).Perm G := List.mergeSort_perm _ _
      exact q _ _ _ (Bk.kp.trans kl) (.tup (Pt.new hc hd) (tz.keep (Kp.new (S := Nil) (Kp.new (S := Nil) Kp.refl np) nl))) (pm.trans (hperm.trans (by rw [hsp])))
    · obtain ⟨W', g, rfl⟩ := dropLast_last hW
      obtain ⟨gt, gp⟩ := g
      have eqf : PyData.eqv (.list ((W' ++ [(gt, gp)]).map encW)) (.list []) = false := by
        cases h : (W' ++ [(gt, gp)]).map encW with
        | nil => exact absurd (List.map_eq_nil_iff.mp h) hW
        | cons x r => exact eqv_list_cons x r
      rw [eqf]
      refine iteT ⟨fun σ' H' => ∃ m', m' < wsize (W' ++ [(gt, gp)]) ∧ (∃ y3 y4, σ' = [some v, some (.ref fo), some (.ref wo), y3, y4, none, none]) ∧ ∃ W G, Lv H H' fo wo (logsOf (t, [])) W G ∧ m' = wsize W, fun _ _ z => z, ?_⟩
      have hg : WOk (gt, gp) := Bk.wok _ (by simp)
      have hWl' : (W' ++ [(gt, gp)]).length = W'.length + 1 := by rw [List.length_append, List.length_singleton]
      have hlast : ws[ws.length - 1]? = ws[W'.length]? := by rw [lw, hWl', Nat.add_sub_cancel]
      obtain ⟨gv, hgv, tgv⟩ := tw.at' (i := W'.length) (x := (gt, gp)) (by rw [List.getElem?_append_right (Nat.le_refl _)]; simp)
      refine ⟨_, rfl, .inl ⟨rfl, _, SqL.of ew1⟩, wo, ws, gv, rfl, rfl, ew1, by rw [hlast]; exact hgv, ?_⟩
      have ews : ws.dropLast = ws.take W'.length := by rw [List.dropLast_eq_take, lw, hWl', Nat.add_sub_cancel]
      have tw' : TvAll H2 (ws.take W'.length) (W'.map encW) := by
        have := tw.take W'.length
        rw [← List.map_take, List.take_left] at this
        exact this
      rw [ews]
      have kd : Kp (One wo) (upd H2 b (.lst [])) (upd (upd H2 b (.lst [])) wo (.lst (ws.take W'.length))) := Kp.atD ew1
      have kH : Kp Nil H (upd (upd H2 b (.lst [])) wo (.lst (ws.take W'.length))) := Kp.mut (Bk.kp.trans kb) nwH
      have tg1 : Tv (upd (upd H2 b (.lst [])) wo (.lst (ws.take W'.length))) gv (encW (gt, gp)) := (tgv.keep kb).keep kd
      have tw3 : TvAll (upd (upd H2 b (.lst [])) wo (.lst (ws.take W'.length))) (ws.take W'.length) (W'.map encW) := (tw'.keep kb).keep kd
      have tf3 : TvAll (upd (upd H2 b (.lst [])) wo (.lst (ws.take W'.length))) fs (G.map encL) := (tf.keep kb).keep kd
      have ew3 : (upd (upd H2 b (.lst [])) wo (.lst (ws.take W'.length))) wo = some (.lst (ws.take W'.length)) := upd_same
      have ef3 : (upd (upd H2 b (.lst [])) wo (.lst (ws.take W'.length))) fo = some (.lst fs) := by rw [upd_ne fw]; exact ef1
      generalize upd (upd H2 b (.lst [])) wo (.lst (ws.take W'.length)) = H3 at kH tg1 tw3 tf3 ew3 ef3 ⊢
      obtain ⟨ga, gxs, rfl, hgp, hgT⟩ := tg1.inv
      cases hgT with
      | cons th hgT =>
        cases hgT with
        | cons tp hgT =>
          cases hgT
          rename_i hv1 hv2
          refine ⟨ga, _, rfl, hgp.sqt, rfl, _, _, rfl, _, _, rfl, rfl, ?_⟩
          refine ⟨_, rfl, Nat.zero_le _, fun e o ne hc hd => ?_⟩
          have ke : Kp Nil H3 (upd H3 e (.frz o (.tup []))) := Kp.new Kp.refl ne
          obtain ⟨N2, hN2, hN2c, hN2l⟩ := hg.ok
          have hlay := lay_T hN2 hN2c
          have hN2l : N2.length + gp.length ≤ 8 := hN2l
          refine ⟨_, .tuple [], (th.keep ke).dp, (Tv.tup (Pt.new hc hd) .nil).dp, shaped_of hlay.1 (by omega), shaped_nil, _, rfl, ?_⟩
          have ew4 := ke.keep _ _ ew3 fun z => z
          have ef4 := ke.keep _ _ ef3 fun z => z
          have tw4 := tw3.keep ke
          have tf4 := tf3.keep ke
          have kH4 := kH.trans ke
          have hperm := Bk.perm
          rw [List.flatMap_append, List.flatMap_cons, List.flatMap_nil, List.append_nil] at hperm
          have hws := wsize_app W' [(gt, gp)]
          have hlen4 : (ws.take W'.length).length = W'.length := tw3.len
          cases gt with
          | leaf =>
            rw [show encT (.leaf : T Str) = .tuple [] from by rw [encT], eqv_nil]
            obtain ⟨pa, pxs, rfl, hpp, hpT⟩ := (tp.keep ke).tuple
            refine iteT ⟨_, rfl, .inl ⟨rfl, _, SqL.of ef4⟩, _, rfl, pa, pxs, gp.map encP, rfl, .inr hpp.sqt, hpT, sortOk_pairs gp (by rw [sizeLine_eq]; omega), fun p zs np tz => ⟨p, zs, rfl, SqL.of upd_same, fun l o2 nl hc2 hd2 => ?_⟩⟩
            rw [sort_map] at tz
            have kp1 : Kp Nil (upd H3 e (.frz o (.tup []))) (upd (upd H3 e (.frz o (.tup []))) p (.lst zs)) := Kp.new Kp.refl np
            have kl1 : Kp Nil (upd (upd H3 e (.frz o (.tup []))) p (.lst zs)) (upd (upd (upd H3 e (.frz o (.tup []))) p (.lst zs)) l (.frz o2 (.tup zs))) := Kp.new Kp.refl nl
            have kpl := kp1.trans kl1
            have ef5 := kpl.keep _ _ ef4 fun z => z
            have ew5 := kpl.keep _ _ ew4 fun z => z
            have tlog : Tv (upd (upd (upd H3 e (.frz o (.tup []))) p (.lst zs)) l (.frz o2 (.tup zs))) (.ref l) (encL (spL gp)) := .tup (Pt.new hc2 hd2) (tz.keep kpl)
            have ka := Kp.atD (zs := fs ++ [.ref l]) ef5
            refine ⟨fo, fs, _, rfl, rfl, ef5, by rw [sizeLine_eq]; omega, _, ?_, ⟨_, _, rfl⟩, W', G ++ [spL gp], ⟨Kp.mut (kH4.trans kpl) nf, ⟨_, upd_same, ?_⟩, ⟨_, by rw [upd_ne (Ne.symm fw)]; exact ew5, ((tw4.keep kpl)).keep ka⟩, fun x hx => Bk.wok x (List.mem_append_left _ hx), ?_⟩, rfl⟩
            · rw [hws]
              have : wsize [((.leaf : T Str), gp)] = 1 := by simp [wsize, tsize]
              omega
            · rw [List.map_append]
              exact ((tf4.keep kpl).keep ka).snoc (tlog.keep ka)
            · have e1 : logsOf ((.leaf : T Str), gp) = [spL gp] := by unfold logsOf; rw [tlogs]; simp
              rw [e1] at hperm
              refine List.Perm.trans ?_ hperm
              rw [List.append_assoc]
              exact List.Perm.append_left G List.perm_append_comm
          | node c bb =>
            rw [show encT (.node c bb) = .tuple [.str c, .tuple (encB bb)] from by rw [encT], eqv_cons]
            have th' : Tv H3 hv1 (.tuple [.str c, .tuple (encB bb)]) := by rw [← show encT (.node c bb) = .tuple [.str c, .tuple (encB bb)] from by rw [encT]]; exact th
            obtain ⟨ta, txs, rfl, htp, htT⟩ := th'.inv
            cases htT with
            | cons tc htT =>
              cases htT with
              | cons tb htT =>
                cases htT
                rw [tc.inv_str] at htp
                rw [encB_toL] at tb
                obtain ⟨ba, bxs, rfl, hbp, hbT⟩ := tb.tuple
                have hbl : bxs.length = (toL bb).length := hbT.len
                obtain ⟨pa, pxs, rfl, hpp, hpT⟩ := tp.tuple
                have hpl : pxs.length = gp.length := hpT.len
                have hbel := below_logs c gp bb
                have hbok := below_ok hg
                have hbl2 : (below c gp (toL bb)).length = (toL bb).length := by unfold below; rw [List.length_map]
                have hbl3 := flat_len1 hbok
                have hflat : (logsOf (T.node c bb, gp)).length ≤ 60 := by
                  have h1 := hperm.length_eq
                  rw [List.length_append, List.length_append] at h1
                  have h2 : (logsOf (t, [])).length = tleaves t := by unfold logsOf; rw [List.length_map, tlogs_length]
                  omega
                rw [hbel, hbl2] at hbl3
                refine iteF ⟨_, rfl, .inl ⟨rfl, _, SqL.of ew4⟩, _, rfl, ta, _, 1, _, rfl, rfl, (htp.keep ke).sqt, atI_1, ba, rfl, ⟨bxs, (hbp.keep ke).sqt⟩, fun D1 n1 => ?_⟩
                refine lc_acc (walk_tup (xs := bxs)) n1 (S := Nil) (fun z => z) (by omega) (fun i H zs => TvAll H zs ((below c gp ((toL bb).take i)).map encW)) .nil (fun _ _ _ _ e t => TvAll.atD e t) (fun _ k => ((hbp.keep ke).keep k).sqt) (fun i x H4 H4' zs hi k4 e4 a4 y Kt Kf ht' hf => ?_) fun H4 zs k4 e4 a4 => ?_
                · obtain ⟨rfl, hx⟩ := y
                  obtain ⟨⟨vv, st⟩, hvv, tv⟩ := hbT.at hx
                  obtain ⟨pr, prx, rfl, hpr, hprT⟩ := ((tv.keep ke).keep k4).inv
                  cases hprT with
                  | cons hi1 hprT =>
                    cases hprT with
                    | cons hi2 hprT =>
                      cases hprT
                      rw [hi1.inv_int] at hpr
                      refine ⟨pr, _, rfl, hpr.sqt, rfl, _, _, rfl, _, _, rfl, rfl, rfl, yes_go ⟨_, rfl, _, rfl, _, rfl, ta, _, 0, _, rfl, rfl, ((htp.keep ke).keep k4).sqt, atI_0, _, rfl, by show 2 ≤ sizeLine; rw [sizeLine_eq]; decide, fun q1 o1 nq1 hc1 hd1 => ⟨by show 1 ≤ sizeLine; rw [sizeLine_eq]; decide, fun q2 o2 nq2 hc2 hd2 => ?_⟩⟩⟩
                      have kq1 : Kp Nil H4' (upd H4' q1 (.frz o1 (.tup [.str c, .int vv]))) := Kp.new Kp.refl nq1
                      have kq2 : Kp Nil (upd H4' q1 (.frz o1 (.tup [.str c, .int vv]))) (upd (upd H4' q1 (.frz o1 (.tup [.str c, .int vv]))) q2 (.frz o2 (.tup [.ref q1]))) := Kp.new Kp.refl nq2
                      have kq := kq1.trans kq2
                      refine ⟨pa, q2, pxs, _, rfl, rfl, ((hpp.keep ke).keep k4).keep kq, Pt.new hc2 hd2, by rw [hpl, sizeLine_eq]; show gp.length + 1 ≤ _; omega, fun dq H5 k5 hdq => ⟨by show 2 ≤ sizeLine; rw [sizeLine_eq]; decide, fun pp oo npp hcc hdd => ?_⟩⟩
                      have kpp : ∀ X : List V, Kp Nil H5 (upd H5 pp (.frz oo (.tup X))) := fun X => Kp.new Kp.refl npp
                      refine ht' _ _ ((kq.trans k5).trans (kpp _)) ?_
                      have eb : (below c gp ((toL bb).take (i + 1))).map encW = (below c gp ((toL bb).take i)).map encW ++ [encW (st, gp ++ [(c, vv)])] := by
                        unfold below
                        rw [take_snoc hvv, List.map_append, List.map_append]; rfl
                      rw [eb]
                      refine ((a4.keep (kq.trans k5)).keep (kpp _)).snoc (.tup (Pt.new hcc hdd) (.cons ((hi2.keep (kq.trans k5)).keep (kpp _)) (.cons (.tup (hdq.keep (kpp _)) ?_) .nil)))
                      rw [List.map_append]
                      refine (((((hpT.keep ke).keep k4).keep (kq.trans k5)).keep (kpp _))).append (.cons ?_ .nil)
                      exact ((Tv.pair ((Pt.new hc1 hd1).keep kq2)).keep k5).keep (kpp _)
                · rw [hbl, List.take_length] at a4
                  have ew6 := k4.keep _ _ ew4 fun z => z
                  have ef6 := k4.keep _ _ ef4 fun z => z
                  have lz : zs.length = (toL bb).length := by rw [a4.len, hbl2]
                  have ka := Kp.atD (zs := ws.take W'.length ++ zs) ew6
                  refine ⟨wo, D1, ws.take W'.length, zs, rfl, rfl, ew6, e4, by rw [lz, hlen4, sizeLine_eq]; omega, _, ?_, ⟨_, _, rfl⟩, W' ++ below c gp (toL bb), G, ⟨Kp.mut (kH4.trans k4) nwH, ⟨fs, by rw [upd_ne fw]; exact ef6, (tf4.keep k4).keep ka⟩, ⟨_, upd_same, ?_⟩, fun x hx => ?_, ?_⟩, rfl⟩
                  · rw [hws, wsize_app, wsize_below]
                    have : wsize [((T.node c bb : T Str), gp)] = 1 + bsize bb := by simp [wsize, tsize]
                    omega
                  · rw [List.map_append]
                    exact ((tw4.keep k4).keep ka).append (a4.keep ka)
                  · rcases List.mem_append.mp hx with hx | hx
                    · exact Bk.wok x (List.mem_append_left _ hx)
                    · exact hbok x hx
                  · rw [List.flatMap_append, hbel]
                    exact hperm
end
end Ro

/-! RoLaw6: _law_shared, _law_parts, _law_absent, _law_less. -/
namespace Ro
open PySem PySem.Spec PyProof.Rows L2

/-! ### dict(list of pairs) -/
def rDictL (K : PySem.W.Frag) : List V → Hp → VK → Prop := fun xs H Q => ∃ a ys l, xs = [.ref a] ∧ SqL K H a ys ∧ TvAll H ys (l.map encP) ∧ ∀ p, H p = none → Q (.ref p) (upd H p (.dK (dictL l)))
theorem pairs_refs {K : PySem.W.Frag} {H : Hp} : ∀ {l : Lg} {ys : List V}, TvAll H ys (l.map encP) → ∃ ps : List Addr, ys = ps.map V.ref ∧ Paired (fun p kv => SqT K H p [kV kv.1, kv.2]) ps (kvL l)
  | [], _, h => by cases h; exact ⟨[], rfl, .nil⟩
  | p :: r, _, h => by
    cases h with
    | cons h1 t =>
      obtain ⟨ps, e, q⟩ := pairs_refs t
      obtain ⟨a, rfl, hp⟩ := TvAll.inv_pairs h1
      exact ⟨a :: ps, by rw [e]; rfl, .cons hp.sqt q⟩
theorem dictQ {X : Cx} (K : PySem.W.Frag) (hc : X.calm = true := by rfl) (hK : X.K = K := by rfl) : CallR X (.type "dict") (rDictL K) := by
  subst hK
  refine CallR_imp (call_dictP hc) fun xs H Q ⟨a, ys, l, ex, hs, ht, q⟩ => ?_
  obtain ⟨ps, e, hp⟩ := pairs_refs (K := X.K) ht
  subst e
  exact ⟨a, ps, kvL l, ex, hs, hp, q⟩

section
variable {P : Program} {w : World} {K : PySem.W.Frag} {mg : Str → Option Value} {base : Heap}
/-! ### _law_shared -/
def spLShared : Sp := fun vs H Q _ => ∃ (v : V) (F : Fm) (rd : Addr), vs = [v, .ref rd] ∧ Tv H v (encF F) ∧ FmOk F ∧ Pt H rd [] ∧ ∀ (p : Addr) (H' : Hp), Kp Nil H H' → H p = none → H' p = some (.lst ((shared F).map V.str)) → Q (.ref p) H'
theorem ok_law_shared (D : Df K mg "_law_shared" s_law_shared p_law_shared) (B : Bu mg) : Ok P w K mg base 1 "_law_shared" p_law_shared spLShared := by
  refine D.ok sc_law_shared (fun vs H Q E h => ?_) fun f cdv A outer s H vs Q E hr h => ?_
  · obtain ⟨v, F, rd, rfl, _⟩ := h
    rfl
  · obtain ⟨v, F, rd, rfl, hv, hF, hrd, q⟩ := h
    obtain ⟨a, xs, rfl, hp, hT⟩ := hv.tuple
    have hl : xs.length = F.length := hT.len
    have hle := hF.le
    obtain ⟨l0, r0, e0⟩ := List.exists_cons_of_ne_nil hF.ne
    refine ⟨_, pss_cons (ps_set (i := 2) sc_law_shared.nd rfl (Or.inr rfl)
        (pe_lc (own := [("_law_each", 3)]) (g := gName 3) (tt := tYes) rfl sc_law_shared.nd (pi_tup (pv 0)) (blkOk_by (N := n_law_shared) (sc := defScope s_law_shared) (by decide +kernel)) (fun _ _ _ _ _ => pg_name (i := 3) sc_law_shared.nd rfl (Or.inl rfl)) (fun _ _ _ _ _ => pts_nil)
          (fun _ _ _ _ _ => pe_callTy (dictQ K) (by rfl) B.dict bt_dict (pa_cons (pe_callTy (listQ K) (by rfl) B.list bt_list (pa_cons (pv 3) pa_nil)) pa_nil))))
      (pss_one (ps_ret
        (pe_lc (own := [("_law_name", 4), ("_law_value", 5)]) (g := gTup K 2 (gCons (gName 4) (gCons (gName 5) gNil))) rfl sc_law_shared.nd (pi_tup (pe_ix (ixT K) (pv 0) pe_int (fun _ _ => rfl))) (blkOk_by (N := n_law_shared) (sc := defScope s_law_shared) (by decide +kernel))
          (fun _ _ _ _ _ => pg_tup rfl (pgs_cons (pg_name (i := 4) sc_law_shared.nd rfl (.inr rfl)) (pgs_cons (pg_name (i := 5) sc_law_shared.nd rfl (.inl rfl)) pgs_nil)))
          (fun _ _ _ _ _ => pts_one (PW.pt (pw_and (pt_cmpR (ninQ K) (pv 4) (pv 1) rfl) (pw_and1 (pt_val (pe_callB (allQ K) (by rfl) B.all bt_all (pa_cons
            (pe_lc (own := [("_law_table", 6)]) (g := gName 6) (tt := tYes) (wi := iList K (tVar 2)) rfl sc_law_shared.nd (pi_list (pv 2)) (blk_in (N := n_law_shared) (sc := defScope s_law_shared) rfl rfl (by decide +kernel)) (fun _ _ _ _ _ => pg_name (i := 6) sc_law_shared.nd rfl (Or.inl rfl)) (fun _ _ _ _ _ => pts_nil)
              (fun _ _ _ _ _ => pe_cmp (pc_din (hu_of hr) (pv 4) (pv 6)) rfl)) pa_nil)))))))
          (fun _ _ _ _ _ => pv 4)))), ?_⟩
    refine ⟨_, rfl, a, rfl, ⟨xs, hp.sqt⟩, fun D1 n1 => ?_⟩
    refine lc_acc (walk_tup (xs := xs)) n1 (S := Nil) (fun z => z) (by omega) (fun i H ys => Dicts H ys (F.take i)) .nil (fun _ _ _ _ e d => d.atD e) (fun _ k => (hp.keep k).sqt) (fun i x H2 H2' ys hi k2 e2 a2 y Kt Kf ht hf => ?_) fun H2 ys k2 e2 a2 => ?_
    · obtain ⟨rfl, hx⟩ := y
      obtain ⟨l, hl1, tv⟩ := hT.at hx
      obtain ⟨al, ps, rfl, hpl, hTl⟩ := (tv.keep k2).tuple
      refine ⟨rfl, yes_go ⟨_, rfl, al, ps, rfl, .inr hpl.sqt, fun lp nlp => ⟨lp, ps, l, rfl, SqL.of upd_same, hTl.keep (Kp.new (S := Nil) Kp.refl nlp), fun d nd => ht _ _ ((Kp.new Kp.refl nlp).new nd) ?_⟩⟩⟩
      rw [take_snoc hl1]
      exact (a2.keep ((Kp.new (S := Nil) Kp.refl nlp).new nd) fun _ _ z => z).snoc upd_same
    · rw [hl, List.take_length] at a2
      obtain ⟨x0, hx0, tv0⟩ := hT.at' (i := 0) (x := l0) (by rw [e0]; rfl)
      obtain ⟨b0, ps, rfl, hp0, hT0⟩ := (tv0.keep k2).tuple
      have hps : ps.length = l0.length := hT0.len
      have hl0 : l0.length ≤ 16 := hF.len l0 (by rw [e0]; exact List.mem_cons_self)
      refine ⟨_, rfl, a, xs, 0, _, rfl, rfl, (hp.keep k2).sqt, atI_nat (j := 0) hx0, b0, rfl, ⟨_, hp0.sqt⟩, fun D2 n2 => ?_⟩
      have hall : ∀ c, (F.all fun m => hasC m c) = (hasC l0 c && r0.all fun m => hasC m c) := fun c => by rw [e0]; rfl
      refine lc_acc (walk_tup (xs := ps)) n2 (S := Nil) (fun z => z) (by omega) (fun i H ys => ys = (((l0.take i).filter fun p : Pr => r0.all fun m => hasC m p.1).map fun p : Pr => V.str p.1)) rfl (fun _ _ _ _ _ e => e) (fun _ k => (hp0.keep k).sqt) (fun i x H3 H3' ys3 hi k3 e3 a3 y Kt Kf ht hf => ?_) fun H3 ys3 k3 e3 a3 => ?_
      · obtain ⟨rfl, hx⟩ := y
        obtain ⟨⟨c, v⟩, hpr, tv⟩ := hT0.at hx
        obtain ⟨bp, rfl, hbp⟩ := TvAll.inv_pairs (tv.keep k3)
        have hcl : hasC l0 c = true := decide_eq_true (List.mem_map.mpr ⟨_, List.mem_of_getElem? hpr, rfl⟩)
        refine ⟨bp, _, rfl, hbp.sqt, rfl, _, _, rfl, _, _, rfl, rfl, rfl, ?_⟩
        refine ⟨_, rfl, _, rfl, rd, [], rfl, .inr ((hrd.keep k2).keep k3).sqt, rfl, rfl, true, rfl, iteT ?_⟩
        refine ⟨_, rfl, D1, rfl, ⟨ys, SqL.of (k3.keep _ _ e2 fun z => z)⟩, fun D3 n3 => ?_⟩
        refine lc_acc (walk_list (xs := ys)) n3 (S := Nil) (fun z => z) (by rw [a2.length]; omega) (fun i H zs => zs = ((F.take i).map fun l => hasC l c).map V.bl) rfl (fun _ _ _ _ _ e => e) (fun _ k => SqL.of (k.keep _ _ (k3.keep _ _ e2 fun z => z) fun z => z)) (fun i x H4 H4' zs hi k4 e4 a4 y Lt Lf gt gf => ?_) fun H4 zs k4 e4 a4 => ?_
        · obtain ⟨rfl, hx⟩ := y
          obtain ⟨d, l, rfl, hrl, hd⟩ := a2.get hx
          have hd4 := k4.keep _ _ (k3.keep _ _ hd fun z => z) fun z => z
          refine ⟨rfl, yes_go ⟨_, rfl, _, rfl, d, _, rfl, DGet.k (k := Sum.inr c) hd4, ?_⟩⟩
          have en : (valV (dictL l) (Sum.inr c)).isSome = hasC l c := by
            rw [valV_dictL (hF.nd l (List.mem_of_getElem? hrl)), Option.isSome_map]
            unfold hasC
            rw [Bool.eq_iff_iff, get_isSome, decide_eq_true_eq]
          rw [en]
          exact gt _ _ Kp.refl (by rw [a4, take_snoc hrl]; simp)
        · have ez : zs = (F.map fun l => hasC l c).map V.bl := by rw [a4, a2.length, List.take_length]
          rw [ez] at e4
          refine ⟨D3, _, rfl, SqL.of e4, _, rfl, ?_⟩
          have ea : ((F.map fun l => hasC l c).all id) = r0.all fun m => hasC m c := by
            rw [List.all_map]
            show (F.all fun m => hasC m c) = _
            rw [hall, hcl, Bool.true_and]
          rw [ea]
          have st := filter_snoc (p := fun p : Pr => r0.all fun m => hasC m p.1) hpr
          refine ite2 (fun hb => ?_) (fun hb => ?_)
          · refine ⟨_, rfl, ht _ _ k4 ?_⟩
            rw [a3, st, if_pos hb, List.map_append]; rfl
          · refine hf _ k4 ?_
            rw [a3, st, if_neg hb, List.append_nil]
      · refine q D2 H3 (k2.trans k3) (k2.fresh n2) ?_
        rw [e3, a3, hps, List.take_length]
        congr 2
        rw [e0]
        show _ = ((l0.map (·.1)).filter _).map V.str
        rw [List.filter_map, List.map_map]
        rfl

/-! ### _law_parts -/
def spLParts : Sp := fun vs H Q _ => ∃ (v : V) (c : Str) (F : Fm), vs = [v, .str c] ∧ Tv H v (encF F) ∧ FmOk F ∧ (∀ l ∈ F, c ∈ cells l) ∧ ∀ (d : Addr) (H' : Hp) (es : List (Int × Addr)), Kp Nil H H' → H d = none → Parts H H' d F c es → Q (.ref d) H'
theorem ok_law_parts (D : Df K mg "_law_parts" s_law_parts p_law_parts) (B : Bu mg) : Ok P w K mg base 1 "_law_parts" p_law_parts spLParts := by
  refine D.ok sc_law_parts (fun vs H Q E h => ?_) fun f cdv A outer s H vs Q E hr h => ?_
  · obtain ⟨v, c, F, rfl, _⟩ := h
    rfl
  · obtain ⟨v, c, F, rfl, hv, hF, hc, q⟩ := h
    obtain ⟨a, xs, rfl, hp, hT⟩ := hv.tuple
    have hl : xs.length = F.length := hT.len
    have hle := hF.le
    refine ⟨_, pss_cons (ps_set (i := 2) sc_law_parts.nd rfl (.inl rfl) pe_dnewK)
      (pss_cons (ps_for PassesOwn.never rfl (pi_tup (pv 0)) (pg_name (i := 3) sc_law_parts.nd rfl (.inl rfl))
        (pss_one (ps_expr (pe_bm PySem.F.plainAttrs_list PySem.F.slot_list_append PySem.F.type_list_append mt_append
          (pe_dsetd (pv 2) (pe_dget (hu_of hr) (pe_callTy (dictQ K) (by rfl) B.dict bt_dict (pa_cons (pe_callTy (listQ K) (by rfl) B.list bt_list (pa_cons (pv 3) pa_nil)) pa_nil)) (pv 1) (fun _ _ => rfl)) (pe_lst pa_nil) ⟨by rfl, by rfl, rfl, by rfl⟩) (pa_cons (pv 3) pa_nil)))))
      (pss_one (ps_ret (pv 2)))), ?_⟩
    refine fun d hd => ?_
    have k0 : Kp Nil H (upd H d (.dK [])) := Kp.new Kp.refl hd
    refine ⟨_, rfl, a, rfl, ⟨xs, (hp.keep k0).sqt⟩, for_it (walk_tup (xs := xs)) (fun i σ H1 => (∃ y3, σ = [some (.ref a), some (.str c), some (.ref d), y3]) ∧ Kp Nil H H1 ∧ ∃ es, Parts H H1 d (F.take i) c es)
      ⟨⟨none, rfl⟩, k0, [], Parts.start hd⟩ (fun _ _ _ _ h => (hp.keep h.2.1).sqt) (fun i x σ H1 H1' hi hP y => ?_) fun σ H1 hP => ?_⟩
    · obtain ⟨rfl, hx⟩ := y
      obtain ⟨⟨y3, rfl⟩, k1, es, hPa⟩ := hP
      obtain ⟨l, hl1, tv⟩ := hT.at hx
      have hlF := List.mem_of_getElem? hl1
      have tv1 := tv.keep k1
      obtain ⟨al, ps, rfl, hpl, hTl⟩ := tv1.tuple
      obtain ⟨gv, hgv⟩ := Option.isSome_iff_exists.mp (get_isSome.mpr (hc l hlF))
      refine ⟨_, rfl, d, rfl, .inl ⟨_, .inl hPa.at_⟩, ?_⟩
      refine ⟨_, rfl, al, ps, rfl, .inr hpl.sqt, fun lp nlp => ⟨lp, ps, l, rfl, SqL.of upd_same, hTl.keep (Kp.new (S := Nil) Kp.refl nlp), fun dd nd => ?_⟩⟩
      have kd : Kp Nil H1' (upd (upd H1' lp (.lst ps)) dd (.dK (dictL l))) := (Kp.new Kp.refl nlp).new nd
      have hg : DGet (upd (upd H1' lp (.lst ps)) dd (.dK (dictL l))) dd (.str c) (some (.int gv)) := DGet.str upd_same (hF.nd l hlF) hgv
      generalize upd (upd H1' lp (.lst ps)) dd (.dK (dictL l)) = H2 at kd hg ⊢
      refine ⟨_, rfl, dd, _, rfl, hg, Nat.zero_le _, fun p0 n0 => ?_⟩
      have k01 := k1.trans kd
      obtain ⟨kvs, k, e1, e2, e3, e4, e5⟩ := Parts.turn (hPa.keep0 kd) hd k01 hgv (tv1.keep kd) (by rw [List.length_take]; omega) n0 (Q := fun H' => ∃ es', Kp Nil H H' ∧ Parts H H' d (F.take (i + 1)) c es') (fun H' es' k' hP' => ⟨es', k', by rw [take_snoc hl1]; exact hP'⟩)
      refine ⟨kvs, k, e1, e2, e3, fun z hz => ?_, fun hz => ?_⟩
      · obtain ⟨p, ys, rfl, ep, el, es', k', hP'⟩ := e4 z hz
        exact ⟨.inl ⟨rfl, _, SqL.of ep⟩, _, rfl, p, ys, _, rfl, rfl, ep, el, ⟨_, rfl⟩, k', es', hP'⟩
      · obtain ⟨ys, ep, el, es', k', hP'⟩ := e5 hz
        exact ⟨.inl ⟨rfl, _, SqL.of ep⟩, _, rfl, p0, ys, _, rfl, rfl, ep, el, ⟨_, rfl⟩, k', es', hP'⟩
    · obtain ⟨⟨y3, rfl⟩, k1, es, hPa⟩ := hP
      rw [hl, List.take_length] at hPa
      exact ⟨_, rfl, q d H1 es k1 hd hPa⟩

/-! ### _law_absent -/
abbrev spares : List Str := ["k", "kk", "kkk", "kkkk", "kkkkk", "kkkkkk", "kkkkkkk"]
def spAbsent (K : PySem.W.Frag) : Sp := fun vs H Q _ => ∃ (a : Addr) (L : List Str), vs = [.ref a] ∧ SqL K H a (L.map V.str) ∧ (∃ m, ∀ c ∈ L, c.length = m) ∧ ∀ z, z ∉ L → CellOk z → RV H Q (.str z)
theorem spares_ok : ∀ z ∈ spares, CellOk z := by
  have h : ∀ z ∈ spares, (decide (0 < z.length) && decide (z.length ≤ 8) && z.cps.toList.all fun c => decide (97 ≤ c ∧ c ≤ 122)) = true := by decide +kernel
  intro z hz
  have := h z hz
  simp only [Bool.and_eq_true, decide_eq_true_eq, List.all_eq_true] at this
  exact ⟨this.1.1, this.1.2, this.2⟩
theorem spares_some {L : List Str} {m : Nat} (h : ∀ c ∈ L, c.length = m) : spares.filter (fun z => decide (z ∉ L)) ≠ [] := fun e => by
  have hin : ∀ z ∈ spares, z ∈ L := fun z hz => by
    refine Classical.byContradiction fun hn => ?_
    have : z ∈ spares.filter (fun z => decide (z ∉ L)) := List.mem_filter.mpr ⟨hz, decide_eq_true hn⟩
    rw [e] at this; cases this
  have h1 := h _ (hin "k" (by simp))
  have h2 := h _ (hin "kk" (by simp))
  have l1 : ("k" : Str).length = 1 := by decide +kernel
  have l2 : ("kk" : Str).length = 2 := by decide +kernel
  omega
theorem ok_law_absent (D : Df K mg "_law_absent" s_law_absent p_law_absent) (B : Bu mg) : Ok P w K mg base 1 "_law_absent" p_law_absent (spAbsent K) := by
  refine D.ok sc_law_absent (fun vs H Q E h => ?_) fun f cdv A outer s H vs Q E hr h => ?_
  · obtain ⟨a, L, rfl, _⟩ := h
    rfl
  · obtain ⟨a, L, rfl, ha, ⟨m, hm⟩, q⟩ := h
    refine ⟨_, pss_one (ps_ret (pe_ix (ixL K)
        (pe_lc (own := [("_law_name", 1)]) (g := gName 1) rfl sc_law_absent.nd (pi_tup (pe_tup (pa_cons pe_str (pa_cons pe_str (pa_cons pe_str (pa_cons pe_str (pa_cons pe_str (pa_cons pe_str (pa_cons pe_str pa_nil))))))))) (blkOk_by (N := n_law_absent) (sc := defScope s_law_absent) (by decide +kernel))
          (fun _ _ _ _ _ => pg_name (i := 1) sc_law_absent.nd rfl (.inl rfl)) (fun _ _ _ _ _ => pts_one (pt_cmpR (ninQ K) (pv 1) (pv 0) rfl)) (fun _ _ _ _ _ => pv 1)) pe_int (fun _ _ => rfl))), ?_⟩
    refine ⟨by show 7 ≤ sizeLine; rw [sizeLine_eq]; decide, fun tp ntp => ⟨tp, rfl, ⟨_, SqT.of upd_same⟩, fun D1 n1 => ?_⟩⟩
    have kt : Kp Nil H (upd H tp (.tup (spares.map V.str))) := Kp.new Kp.refl ntp
    obtain ⟨H1, eH1, kt1, etp⟩ : ∃ H1, H1 = upd H tp (.tup (spares.map V.str)) ∧ Kp Nil H H1 ∧ H1 tp = some (.tup (spares.map V.str)) := ⟨_, rfl, kt, upd_same⟩
    have n1 : H1 D1 = none := by rw [eH1]; exact n1
    show ∃ W : Nat → Nat → Hp → Prop, (∃ m, W 0 m (upd (upd H tp (.tup (spares.map V.str))) D1 (.lst []))) ∧ _
    rw [← eH1]
    refine lc_acc (walk_tup (xs := spares.map V.str)) n1 (S := Nil) (fun z => z) (by decide) (fun i H ys => ys = ((spares.take i).filter fun e => decide (e ∉ L)).map V.str) rfl (fun _ _ _ _ _ h => h) (fun _ k => SqT.of (k.keep _ _ etp fun z => z)) (fun i x H6 H6' ys hi k6 e6 a6 y Kt Kf ht' hf => ?_) fun H6 ys k6 e6 a6 => ?_
    · obtain ⟨rfl, hx⟩ := y
      obtain ⟨c, hc, rfl⟩ := strs_at hx
      have st := filter_snoc (p := fun e => decide (e ∉ L)) hc
      refine ⟨rfl, _, rfl, _, rfl, a, _, rfl, .inl ((kt1.trans k6).sql ha fun z => z), rfl, flat_strs' L, ?_⟩
      rw [inV_strs]
      refine ⟨_, rfl, ite2 (fun hb => ?_) (fun hb => ?_)⟩
      · have hb : decide (c ∉ L) = true := by simpa using hb
        exact ⟨_, rfl, ht' _ _ Kp.refl (by rw [a6, st, if_pos hb, List.map_append]; rfl)⟩
      · have hb : ¬ decide (c ∉ L) = true := by simpa using hb
        exact hf _ Kp.refl (by rw [a6, st, if_neg hb, List.append_nil])
    · have a6 : ys = (spares.filter fun e => decide (e ∉ L)).map V.str := a6
      obtain ⟨sp, rs, hsp⟩ := List.exists_cons_of_ne_nil (spares_some hm)
      have hspm : sp ∈ spares.filter fun e => decide (e ∉ L) := by rw [hsp]; exact List.mem_cons_self
      obtain ⟨sp1, sp2⟩ := List.mem_filter.mp hspm
      rw [a6, hsp] at e6
      exact ⟨D1, _, 0, _, rfl, rfl, SqL.of e6, atI_0, q sp (of_decide_eq_true sp2) (spares_ok sp sp1) _ (kt1.trans k6)⟩

/-! ### _law_less -/
def spLess (K : PySem.W.Frag) : Sp := fun vs H Q _ => ∃ (p : Addr) (c : Str) (xs : List V) (G : Fm), vs = [.ref p, .str c] ∧ SqL K H p xs ∧ TvAll H xs (G.map encL) ∧ G.length ≤ 60 ∧ (∀ l ∈ G, l.length ≤ 16) ∧ ((∀ l ∈ G.map (drop c), l ≠ []) ∨ (G.map (drop c)).length < 2) ∧
  ∀ (u : V) (H' : Hp) (F : Fm), Kp Nil H H' → Tv H' u (encF F) → F.Perm (G.map (drop c)) → Q u H'
theorem ok_law_less (D : Df K mg "_law_less" s_law_less p_law_less) (B : Bu mg) : Ok P w K mg base 1 "_law_less" p_law_less (spLess K) := by
  refine D.ok sc_law_less (fun vs H Q E h => ?_) fun f cdv A outer s H vs Q E hr h => ?_
  · obtain ⟨p, c, xs, G, rfl, _⟩ := h
    rfl
  · obtain ⟨p, c, xs, G, rfl, hp, hT, hG, hGl, hne, q⟩ := h
    have hu := hr.units
    have hl : xs.length = G.length := hT.len
    refine ⟨_, pss_one (ps_ret (pe_callTy (tupQ K) (by rfl) B.tuple bt_tuple (pa_cons (pe_callB (sortQ K hu) (by rfl) B.sorted bt_sorted (pa_cons
      (pe_lc (own := [("_law_entry", 2)]) (g := gName 2) (tt := tYes) rfl sc_law_less.nd (pi_list (pv 0)) (blkOk_by (N := n_law_less) (sc := defScope s_law_less) (by decide +kernel)) (fun _ _ _ _ _ => pg_name (i := 2) sc_law_less.nd rfl (Or.inl rfl)) (fun _ _ _ _ _ => pts_nil)
        (fun _ _ _ _ _ => pe_callTy (tupQ K) (by rfl) B.tuple bt_tuple (pa_cons
          (pe_lc (own := [("_law_pair", 3)]) (g := gName 3) (wi := iTup K (tVar 2)) rfl sc_law_less.nd (pi_tup (pv 2)) (blk_in (N := n_law_less) (sc := defScope s_law_less) rfl rfl (by decide +kernel)) (fun _ _ _ _ _ => pg_name (i := 3) sc_law_less.nd rfl (Or.inl rfl))
            (fun _ _ _ _ _ => pts_one (pt_cmpR op_ne (pe_ix (ixT K) (pv 3) pe_int (fun _ _ => rfl)) (pv 1) (nomark _))) (fun _ _ _ _ _ => pv 3)) pa_nil))) pa_nil)) pa_nil))), ?_⟩
    refine ⟨_, rfl, p, rfl, ⟨xs, hp⟩, fun D1 n1 => ?_⟩
    refine lc_acc (walk_list (xs := xs)) n1 (S := Nil) (fun z => z) (by omega) (fun i H ys => TvAll H ys (((G.take i).map (drop c)).map encL)) .nil (fun _ _ _ _ e t => TvAll.atD e t) (fun _ k => k.sql hp fun z => z) (fun i x H2 H2' ys hi k2 e2 a2 y Kt Kf ht hf => ?_) fun H2 ys k2 e2 a2 => ?_
    · obtain ⟨rfl, hx⟩ := y
      obtain ⟨l, hl1, tv⟩ := hT.at hx
      obtain ⟨al, ps, rfl, hpl, hTl⟩ := (tv.keep k2).tuple
      have hps : ps.length = l.length := hTl.len
      have hll := hGl l (List.mem_of_getElem? hl1)
      refine ⟨rfl, yes_go ⟨_, rfl, al, rfl, ⟨ps, hpl.sqt⟩, fun D2 n2 => ?_⟩⟩
      refine lc_acc (walk_tup (xs := ps)) n2 (S := Nil) (fun z => z) (by omega) (fun i H zs => TvAll H zs (((l.take i).filter fun p : Pr => decide (p.1 ≠ c)).map encP)) .nil (fun _ _ _ _ e t => TvAll.atD e t) (fun _ k => (hpl.keep k).sqt) (fun j x H3 H3' zs hj k3 e3 a3 y Lt Lf gt gf => ?_) fun H3 zs k3 e3 a3 => ?_
      · obtain ⟨rfl, hx⟩ := y
        obtain ⟨⟨c', v'⟩, hpr, tvp⟩ := hTl.at hx
        have tv3 := tvp.keep k3
        obtain ⟨bp, rfl, hbp⟩ := TvAll.inv_pairs tv3
        have st := filter_snoc (p := fun p : Pr => decide (p.1 ≠ c)) hpr
        refine ⟨rfl, _, rfl, bp, _, 0, _, rfl, rfl, hbp.sqt, atI_0, _, rfl, rfl, _, rfl, ite2 (fun hb => ?_) (fun hb => ?_)⟩
        · have hb : decide (c' ≠ c) = true := by
            have : ¬ (V.str c' = V.str c) := by simpa using hb
            exact decide_eq_true fun e => this (by rw [e])
          refine ⟨_, rfl, gt _ _ Kp.refl ?_⟩
          rw [st, if_pos hb, List.map_append]
          exact a3.snoc tv3
        · have hb : ¬ decide (c' ≠ c) = true := by
            have : V.str c' = V.str c := by simpa using hb
            injection this with this
            simp [this]
          refine gf _ Kp.refl ?_
          rw [st, if_neg hb, List.append_nil]
          exact a3
      · rw [hps, List.take_length] at a3
        refine ⟨D2, zs, rfl, SqL.of e3, fun r o nr hc hd => ht _ _ (k3.trans (Kp.new Kp.refl nr)) ?_⟩
        have kr : Kp Nil H3 (upd H3 r (.frz o (.tup zs))) := Kp.new Kp.refl nr
        rw [take_snoc hl1, List.map_append, List.map_append]
        exact ((a2.keep k3).keep kr).snoc (.tup (Pt.new hc hd) (a3.keep kr))
    · rw [hl, List.take_length] at a2
      refine ⟨D1, ys, _, rfl, .inl (SqL.of e2), a2, sortOk_logs _ (by rw [List.length_map, sizeLine_eq]; omega) hne, fun sp zs nsp tz => ⟨sp, zs, rfl, SqL.of upd_same, fun r o nr hc hd => ?_⟩⟩
      rw [sort_map] at tz
      have kk : Kp Nil H2 (upd (upd H2 sp (.lst zs)) r (.frz o (.tup zs))) := (Kp.new Kp.refl nsp).new nr
      exact q _ _ _ (k2.trans kk) (.tup (Pt.new hc hd) (tz.keep kk)) (List.mergeSort_perm _ _)
end
end Ro

/-! RoLaw7: _law_sum. -/
namespace Ro
open PySem PySem.Spec PyProof.Rows L2

theorem eqv_one {F : Fm} (hne : F ≠ []) (h : F ≠ [[]]) : PyData.eqv (encF F) (.tuple [.tuple []]) = false := by
  match F, hne, h with
  | [l], _, h =>
    have hl : l ≠ [] := fun e => h (by rw [e])
    obtain ⟨p, r, e⟩ := List.exists_cons_of_ne_nil hl
    subst e
    have := eqv_cons (encP p) (r.map encP)
    show PyData.eqv (.tuple [.tuple (encP p :: r.map encP)]) (.tuple [.tuple []]) = false
    rw [PyData.eqv, PyData.eqvAll, this]; rfl
  | l :: m :: r, _, _ =>
    show PyData.eqv (.tuple (encL l :: encL m :: r.map encL)) (.tuple [.tuple []]) = false
    simp [PyData.eqv, PyData.eqvAll]
theorem eqv_one' : PyData.eqv (encF [[]]) (.tuple [.tuple []]) = true := by
  show PyData.eqv (.tuple [.tuple []]) (.tuple [.tuple []]) = true
  simp [PyData.eqv, PyData.eqvAll]
theorem shaped_one : SeqAt.shaped (.tuple [.tuple []]) = true := by decide
/-- the part of a good family without its cell -/
theorem less_ok {F : Fm} (h : GOk F) {c : Str} {v : Int} (hne : part F c v ≠ []) {G : Fm} (hp : G.Perm ((part F c v).map (drop c))) : GOk G := by
  refine ⟨⟨fun e => ?_, ?_, fun l hl => ?_⟩, (h.good.less c v).perm hp.symm⟩
  · rw [e] at hp
    exact hne (List.map_eq_nil_iff.mp (List.nil_perm.mp hp))
  · rw [hp.length_eq, List.length_map]
    exact Nat.le_trans (List.length_filter_le _ _) h.fm.le
  · obtain ⟨m, hm, rfl⟩ := List.mem_map.mp (hp.mem_iff.mp hl)
    obtain ⟨h1, h2, h3⟩ := h.fm.wf m (mem_part.mp hm).1
    exact ⟨by rw [cells_drop]; exact h1.filter _, Nat.le_trans (List.length_filter_le _ _) h2, fun p hp => h3 p (List.mem_filter.mp hp).1⟩
theorem less_ne {F : Fm} (h : GOk F) (c : Str) (v : Int) : (∀ l ∈ (part F c v).map (drop c), l ≠ []) ∨ ((part F c v).map (drop c)).length < 2 := by
  by_cases h2 : 2 ≤ ((part F c v).map (drop c)).length
  · obtain ⟨x, hx, _⟩ := (h.good.less c v).splits h2
    refine .inl fun l hl e => ?_
    have := hx l hl
    rw [e] at this; cases this
  · exact .inr (by omega)
/-- what a part gives -/
def gC (F : Fm) (c : Str) (v : Int) : Nat := C 16 ((part F c v).map (drop c)) []
theorem gC_eq (F : Fm) (c : Str) (v : Int) : gC F c v = C 16 (part F c v) ([] ++ [c]) := C_drop 16 c (part F c v) []
def termC (F : Fm) (c : Str) : Nat := prod ((vals F c).map (gC F c))
theorem sum_terms {F : Fm} (h : FmOk F) (hne : F ≠ [[]]) : ((shared F).map (termC F)).sum = C 16 F [] :=
  law_sum h.nd h.len hne (vals F) (fun c _ => vals_is F c) (fun c v => (part F c v).map (drop c)) fun _ _ _ _ => List.Perm.refl _
section
variable {P : Program} {w : World} {K : PySem.W.Frag} {mg : Str → Option Value} {base : Heap}
theorem kvP_at {es : List (Int × Addr)} {i : Nat} {k : Key} {v : V} (h : (kvP es)[i]? = some (k, v)) : ∃ e, es[i]? = some e ∧ k = Sum.inl e.1 ∧ v = .ref e.2 := by
  unfold kvP at h
  rw [List.getElem?_map] at h
  cases e : es[i]? with
  | none => rw [e] at h; cases h
  | some x =>
    rw [e] at h
    have h := Option.some.inj h
    injection h with h1 h2
    exact ⟨x, rfl, h1.symm, h2.symm⟩
theorem ok_law_sum (D : Df K mg "_law_sum" s_law_sum p_law_sum) (B : Bu mg) (os : Ok P w K mg base 1 "_law_shared" p_law_shared spLShared) (op : Ok P w K mg base 1 "_law_parts" p_law_parts spLParts) (ol : Ok P w K mg base 1 "_law_less" p_law_less (spLess K))
    (oc : Ok P w K mg base 28 "count_readers" p_count_readers spCount) : Ok P w K mg base 29 "_law_sum" p_law_sum spCount := by
  refine D.ok sc_law_sum (fun vs H Q E h => ?_) fun f cdv A outer s H vs Q E hr h => ?_
  · obtain ⟨v, F, U, rfl, _⟩ := h
    rfl
  · obtain ⟨v, F, U, rfl, hv, hF, hU, hUl, q⟩ := h
    have hu := hr.units
    have hR := root_of hF hU hUl
    refine ⟨_, pss_cons (ps_set (i := 1) sc_law_sum.nd rfl (.inl rfl) pe_int)
      (pss_cons (ps_for PassesOwn.never rfl (pi_list (pe_cl os (hr.mono (by decide)) (pa_cons (pv 0) (pa_cons (pe_tupP pa_nil) pa_nil)))) (pg_name (i := 2) sc_law_sum.nd rfl (.inl rfl))
        (pss_cons (ps_par (i := 3) (j := 4) rfl sc_law_sum.nd rfl rfl (by decide) rfl rfl (pa_cons (pe_cl op (hr.mono (by decide)) (pa_cons (pv 0) (pa_cons (pv 2) pa_nil))) (pa_cons pe_int pa_nil)) (by rfl))
        (pss_cons (ps_lock (ps_for PassesOwn.never rfl (pi_keys (pv 3)) (pg_name (i := 5) sc_law_sum.nd rfl (.inl rfl))
          (pss_one (ps_set (i := 4) sc_law_sum.nd rfl (.inl rfl) (pe_op op_mulW (pv 4) (pe_cl oc hr (pa_cons (pe_cl ol (hr.mono (by decide)) (pa_cons (pe_dget (hu_of hr) (pv 3) (pv 5) (fun _ _ => rfl)) (pa_cons (pv 2) pa_nil))) pa_nil)))))))
        (pss_one (ps_set (i := 1) sc_law_sum.nd rfl (.inl rfl) (pe_op op_add (pv 1) (pv 4)))))))
      (pss_one (ps_ret (pe_ifExp (pt_cmpR (op_neD hu) (pv 0) (pe_tupP (pa_cons (pe_tupP pa_nil) pa_nil)) (nomark _)) (pv 1) pe_int)))), ?_⟩
    refine ⟨_, rfl, Nat.zero_le _, fun t0 o0 n0 hc0 hd0 => ?_⟩
    have kt0 : Kp Nil H (upd H t0 (.frz o0 (.tup []))) := Kp.new Kp.refl n0
    refine ⟨v, F, t0, rfl, hv.keep kt0, hF.fm, Pt.new hc0 hd0, fun sp H1 k1 n1 e1 => ?_⟩
    have kH1 := kt0.trans k1
    have hsl := shared_len hF.fm
    refine ⟨sp, rfl, ⟨_, SqL.of e1⟩, for_it (walk_list (xs := (shared F).map V.str)) (fun i σ H2 => (∃ y2 y3 y4 y5, σ = [some v, some (.int ((((shared F).take i).map (termC F)).sum : Nat)), y2, y3, y4, y5]) ∧ Kp Nil H1 H2) ⟨⟨none, none, none, none, rfl⟩, Kp.refl⟩ (fun _ _ _ _ h => SqL.of (h.2.keep _ _ e1 fun z => z)) (fun io x σ H2 H2' hio hP y => ?_) fun σ H2 hP => ?_⟩
    · obtain ⟨rfl, hx⟩ := y
      obtain ⟨c, hc, rfl⟩ := strs_at hx
      obtain ⟨⟨y2, y3, y4, y5, rfl⟩, k2⟩ := hP
      have hcs : c ∈ shared F := List.mem_of_getElem? hc
      have hcc := mem_shared' hcs
      have hcu : c ∈ unread F [] := by rw [unread_start]; exact hcs
      have kH2 := kH1.trans k2
      refine ⟨_, rfl, _, rfl, v, c, F, rfl, hv.keep kH2, hF.fm, hcc, fun d H3 es k3 nd Pa => ⟨_, _, rfl, ?_⟩⟩
      have hel := Pa.length
      have iv := Pa.vals
      have hle := hF.fm.le
      refine ⟨d, .dK (kvP es), Pa.at_, trivial, fun od => ?_⟩
      have hnf : ∀ o u, (HO.dK (kvP es)) ≠ .frz o u := fun o u e => by cases e
      have klock : Kp (One d) H3 (upd H3 d (.frz od (.dK (kvP es)))) := Kp.lock (S := Nil) Pa.at_ hnf
      have hlist : ∀ e ∈ es, ∃ ys, (upd H3 d (.frz od (.dK (kvP es)))) e.2 = some (.lst ys) ∧ TvAll (upd H3 d (.frz od (.dK (kvP es)))) ys ((part F c e.1).map encL) := fun e he => by
        obtain ⟨_, ys, h1, h2⟩ := Pa.lists e he
        exact ⟨ys, klock.keep _ _ h1 (ne_of h1 Pa.at_ (by intro z; cases z)), h2.keep klock⟩
      have hd4 : (upd H3 d (.frz od (.dK (kvP es)))) d = some (.frz od (.dK (kvP es))) := upd_same
      generalize hH4 : upd H3 d (.frz od (.dK (kvP es))) = H4 at hlist hd4
      have hpr : ∀ i, prod ((es.take i).map fun e => gC F c e.1) = prod (((es.map (·.1)).take i).map fun v => C 16 (part F c v) ([] ++ [c])) := fun i => by
        rw [← List.map_take, List.map_map]
        congr 1
        exact List.map_congr_left fun e _ => gC_eq F c e.1
      have up : (2 : Nat) ^ 1800 ≤ 2 ^ 3000 := Nat.pow_le_pow_right (by decide) (by decide)
      have hsm : ∀ i, prod ((es.take i).map fun e => gC F c e.1) < 2 ^ 3000 := fun i => by
        rw [hpr]
        exact Nat.lt_of_lt_of_le (node_small (n := 11) hR.node hcu iv i) up
      refine ⟨_, rfl, d, od, rfl, .inl ⟨kvP es, hd4, ?_⟩⟩
      refine for_it (walk_keys (d := d) (o := od) (kvs := kvP es)) (fun i σ H5 => (∃ y5, σ = [some v, some (.int ((((shared F).take io).map (termC F)).sum : Nat)), some (.str c), some (.ref d), some (.int (prod ((es.take i).map fun e => gC F c e.1) : Nat)), y5]) ∧ Kp Nil H4 H5) ⟨⟨_, rfl⟩, Kp.refl⟩ (fun _ _ _ _ h => h.2.frz _ _ _ hd4) (fun i x σ H5 H5' hi hP y => ?_) fun σ H5 hP => ?_
      · obtain ⟨rfl, k, vv, hkv, rfl⟩ := y
        obtain ⟨⟨y5, rfl⟩, k5⟩ := hP
        obtain ⟨⟨val, pa⟩, he, rfl, rfl⟩ := kvP_at hkv
        have hem := List.mem_of_getElem? he
        obtain ⟨ys, hys, tys⟩ := hlist _ hem
        have hvm : val ∈ es.map (·.1) := List.mem_map.mpr ⟨_, hem, rfl⟩
        obtain ⟨l0, hl0, e0⟩ := (iv.2 val).mp hvm
        have hpne : part F c val ≠ [] := List.ne_nil_of_mem (mem_part.mpr ⟨hl0, e0⟩)
        have hg : DGet H5' d (kV (Sum.inl val)) (some (.ref pa)) := .inl ⟨kvP es, Sum.inl val, .inr ⟨od, k5.frz _ _ _ hd4⟩, rfl, (kvP_some Pa.nk hem).symm⟩
        refine ⟨_, rfl, _, rfl, _, rfl, d, _, rfl, hg, _, rfl, pa, c, ys, part F c val, rfl, SqL.of (k5.keep _ _ hys fun z => z), tys.keep k5, Nat.le_trans (List.length_filter_le _ _) hle, fun l hl => hF.fm.len l (mem_part.mp hl).1, less_ne hF c val, fun u6 H6 G k6 t6 pG => ?_⟩
        have hGok := less_ok hF hpne pG
        have hUG : ∀ l ∈ G, ∀ x ∈ cells l, x ∈ U := fun l hl x hx => by
          obtain ⟨m, hm, rfl⟩ := List.mem_map.mp (pG.mem_iff.mp hl)
          exact hU m (mem_part.mp hm).1 x (mem_cells_drop.mp hx).1
        refine ⟨u6, G, U, rfl, t6, hGok, hUG, hUl, fun H7 k7 => ?_⟩
        have eG : C 16 G [] = gC F c val := C_perm 16 _ _ [] hGok.fm.nd pG
        rw [eG]
        have sm2 : gC F c val < 2 ^ 3000 := by
          rw [gC_eq]
          have NP := hR.node.part (n := 11) hcu iv hvm
          exact Nat.lt_of_lt_of_le (Nat.lt_of_le_of_lt NP.small (pow_small NP.fm.le)) up
        refine ⟨_, _, rfl, rfl, mulW_nat (hsm i) sm2, ?_, (k5.trans k6).trans k7⟩
        have ep : ((prod ((es.take i).map fun e => gC F c e.1) : Nat) : Int) * ((gC F c val : Nat) : Int) = ((prod ((es.take (i + 1)).map fun e => gC F c e.1) : Nat) : Int) := by
          rw [take_snoc he, List.map_append, prod_append, ← Int.natCast_mul]
          congr 1
          show _ = _ * (_ * 1)
          rw [Nat.mul_one]
        rw [← ep]
        exact ⟨_, rfl⟩
      · obtain ⟨⟨y5, rfl⟩, k5⟩ := hP
        have hkl : (kvP es).length = es.length := by unfold kvP; rw [List.length_map]
        rw [hkl, List.take_length]
        have eprod : prod (es.map fun e => gC F c e.1) = termC F c := by
          have : es.map (fun e => gC F c e.1) = (es.map (·.1)).map (gC F c) := by rw [List.map_map]; rfl
          rw [this]
          exact prod_vals iv (gC F c)
        rw [eprod]
        have kun : Kp Nil H3 (upd H5 d (.dK (kvP es))) := Kp.unlock Pa.at_ hnf (by rw [hH4]; exact k5)
        refine ⟨k5.frz _ _ _ hd4, _, rfl, _, rfl, _, _, rfl, rfl, ?_, (k2.trans k3).trans kun⟩
        have es' : (((((shared F).take io).map (termC F)).sum : Nat) : Int) + ((termC F c : Nat) : Int) = (((((shared F).take (io + 1)).map (termC F)).sum : Nat) : Int) := by
          rw [take_snoc hc, List.map_append, List.sum_append, ← Int.natCast_add]
          congr 1
        rw [← es']
        exact ⟨_, _, _, _, rfl⟩
    · obtain ⟨⟨y2, y3, y4, y5, rfl⟩, k2⟩ := hP
      rw [List.length_map, List.take_length]
      have kH2 := kH1.trans k2
      refine ⟨_, rfl, Nat.zero_le _, fun t1 o1 n1 hc1 hd1 => ⟨by show 1 ≤ sizeLine; rw [sizeLine_eq]; decide, fun t2 o2 n2 hc2 hd2 => ?_⟩⟩
      have kt1 : Kp Nil H2 (upd H2 t1 (.frz o1 (.tup []))) := Kp.new Kp.refl n1
      have kt2 : Kp Nil (upd H2 t1 (.frz o1 (.tup []))) (upd (upd H2 t1 (.frz o1 (.tup []))) t2 (.frz o2 (.tup [.ref t1]))) := Kp.new Kp.refl n2
      have kall := (kH2.trans kt1).trans kt2
      refine ⟨encF F, .tuple [.tuple []], (hv.keep kall).dp, (Tv.tup (Pt.new hc2 hd2) (.cons (.tup ((Pt.new hc1 hd1).keep kt2) .nil) .nil)).dp, hF.fm.shaped, shaped_one, _, rfl, ?_⟩
      by_cases h1 : F = [[]]
      · rw [h1, eqv_one']
        refine iteF ?_
        have := q _ kall
        rw [h1, C_empty] at this
        exact this
      · rw [eqv_one hF.fm.ne h1]
        refine iteT ⟨_, rfl, ?_⟩
        rw [sum_terms hF.fm h1]
        exact q _ kall
end
end Ro

/-! RoLaw8: _law_fan_right. -/
namespace Ro
open PySem PySem.Spec PyProof.Rows L2

/-! ### plain -/
theorem cut_from' (xs : List V) (k : Nat) : cutV xs (some (k : Int)) none = xs.drop k := cut_from xs k
theorem cut_mid (xs : List V) (a b : Nat) (h : a ≤ b) (hb : b ≤ xs.length) : cutV xs (some (a : Int)) (some (b : Int)) = (xs.drop a).take (b - a) := by
  unfold cutV
  rw [HT.sIx_nat, HT.sIx_nat, Nat.min_eq_left hb, Nat.min_eq_left (Nat.le_trans h hb)]
/-- the i-th log of the fan -/
structure FanLog (c0 : Str) (S free : List Str) (i : Nat) (l : Lg) : Prop where
  ex : ∃ sm : Lg, l = ((c0, (i : Int)) :: S.map fun c => (c, (3 : Int))) ++ sm ∧ (cells sm).Nodup ∧ ∀ p ∈ sm, p.1 ∈ free ∧ free[i % free.length]? ≠ some p.1 ∧ 0 ≤ p.2 ∧ p.2 ≤ 2
structure FanFam (c0 : Str) (S free : List Str) (F : Fm) : Prop where
  logs : ∀ i l, F[i]? = some l → FanLog c0 S free i l
theorem get_app {a b : Lg} {c : Str} : get (a ++ b) c = (get a c).or (get b c) := by
  induction a with
  | nil => rfl
  | cons p r ih =>
    obtain ⟨k, v⟩ := p
    have e : ∀ q : Lg, get ((k, v) :: q) c = if k = c then some v else get q c := fun q => rfl
    rw [List.cons_append, e, e]
    by_cases h : k = c
    · rw [if_pos h, if_pos h]; rfl
    · rw [if_neg h, if_neg h]; exact ih
theorem get_threes {S : List Str} {c : Str} (h : c ∈ S) : get (S.map fun c => (c, (3 : Int))) c = some 3 := by
  induction S with
  | nil => cases h
  | cons s r ih =>
    rw [List.map_cons]
    unfold get
    by_cases e : s = c
    · rw [if_pos e]
    · rw [if_neg e]
      exact ih ((List.mem_cons.mp h).resolve_left (Ne.symm e))
section
variable {c0 : Str} {S free : List Str} (hn : (c0 :: (S ++ free)).Nodup)
include hn
theorem FanLog.nd {i : Nat} {l : Lg} (h : FanLog c0 S free i l) : (cells l).Nodup ∧ l.length ≤ 1 + S.length + free.length ∧ (∀ c ∈ cells l, c ∈ c0 :: (S ++ free)) ∧ 1 + S.length ≤ l.length := by
  obtain ⟨sm, rfl, h1, h2⟩ := h.ex
  have e : cells (((c0, (i : Int)) :: S.map fun c => (c, (3 : Int))) ++ sm) = c0 :: (S ++ cells sm) := by
    unfold cells
    rw [List.map_append, List.map_cons, List.map_map]
    show c0 :: (S.map id ++ _) = _
    rw [List.map_id]
  have hsub : ∀ c ∈ cells sm, c ∈ free := fun c hc => by
    obtain ⟨p, hp, rfl⟩ := List.mem_map.mp hc
    exact (h2 p hp).1
  obtain ⟨n1, n2⟩ := List.nodup_cons.mp hn
  obtain ⟨n3, n4, n5⟩ := List.nodup_append.mp n2
  have hlen : sm.length ≤ free.length := by
    have := len_le_of_sub h1 hsub
    rw [List.length_map] at this
    exact this
  refine ⟨?_, ?_, fun c hc => ?_, ?_⟩
  · rw [e]
    refine List.nodup_cons.mpr ⟨fun z => ?_, List.nodup_append.mpr ⟨n3, h1, fun a ha b hb => n5 a ha b (hsub b hb)⟩⟩
    rcases List.mem_append.mp z with z | z
    · exact n1 (List.mem_append_left _ z)
    · exact n1 (List.mem_append_right _ (hsub _ z))
  · rw [List.length_append, List.length_cons, List.length_map]; omega
  · rw [e] at hc
    rcases List.mem_cons.mp hc with rfl | hc
    · exact List.mem_cons_self
    · rcases List.mem_append.mp hc with hc | hc
      · exact List.mem_cons_of_mem _ (List.mem_append_left _ hc)
      · exact List.mem_cons_of_mem _ (List.mem_append_right _ (hsub c hc))
  · rw [List.length_append, List.length_cons, List.length_map]; omega
theorem FanLog.head {i : Nat} {l : Lg} (h : FanLog c0 S free i l) : get l c0 = some (i : Int) := by
  obtain ⟨sm, rfl, h1, h2⟩ := h.ex
  show get ((c0, (i : Int)) :: _) c0 = _
  unfold get
  rw [if_pos rfl]
theorem FanLog.threes {i : Nat} {l : Lg} (h : FanLog c0 S free i l) {s : Str} (hs : s ∈ S) : get l s = some 3 := by
  obtain ⟨sm, rfl, h1, h2⟩ := h.ex
  obtain ⟨n1, n2⟩ := List.nodup_cons.mp hn
  rw [get_app]
  have ne : c0 ≠ s := fun e => n1 (e ▸ List.mem_append_left _ hs)
  have : get ((c0, (i : Int)) :: S.map fun c => (c, (3 : Int))) s = some 3 := by
    unfold get
    rw [if_neg ne]
    exact get_threes hs
  rw [this]; rfl
theorem FanFam.fan {F : Fm} (h : FanFam c0 S free F) (h2 : 2 ≤ F.length) (hf : free.length ≤ F.length) : Fan F c0 S := by
  have at_ : ∀ l ∈ F, ∃ i, F[i]? = some l ∧ FanLog c0 S free i l := fun l hl => by
    obtain ⟨i, hi⟩ := List.mem_iff_getElem?.mp hl
    exact ⟨i, hi, h.logs i l hi⟩
  refine ⟨h2, fun l hl => ?_, fun l hl => ?_, ?_, fun s hs l hl => ?_, fun c hc => ?_, ?_⟩
  · obtain ⟨i, _, q⟩ := at_ l hl
    exact (q.nd hn).1
  · obtain ⟨i, _, q⟩ := at_ l hl
    rw [← get_isSome, q.head hn]; rfl
  · refine List.pairwise_iff_getElem.mpr fun i j hi hj hij => ?_
    rw [(h.logs i _ (List.getElem?_eq_getElem hi)).head hn, (h.logs j _ (List.getElem?_eq_getElem hj)).head hn]
    intro e
    injection e with e
    omega
  · obtain ⟨i, _, q⟩ := at_ l hl
    exact q.threes hn hs
  · have h0 : 0 < F.length := by omega
    have hc0 := hc F[0] (List.getElem_mem h0)
    have q0 := (h.logs 0 _ (List.getElem?_eq_getElem h0)).nd hn
    rcases List.mem_cons.mp (q0.2.2.1 c hc0) with e | e
    · exact .inl e
    · rcases List.mem_append.mp e with e | e
      · exact .inr e
      · exfalso
        obtain ⟨k, hk⟩ := List.mem_iff_getElem?.mp e
        have hkl : k < free.length := (List.getElem?_eq_some_iff.mp hk).1
        have hkF : k < F.length := by omega
        have hck := hc F[k] (List.getElem_mem hkF)
        obtain ⟨sm, el, h1, h2⟩ := (h.logs k _ (List.getElem?_eq_getElem hkF)).ex
        rw [el] at hck
        have e2 : cells (((c0, (k : Int)) :: S.map fun c => (c, (3 : Int))) ++ sm) = c0 :: (S ++ cells sm) := by
          unfold cells
          rw [List.map_append, List.map_cons, List.map_map]
          show c0 :: (S.map id ++ _) = _
          rw [List.map_id]
        rw [e2] at hck
        obtain ⟨n1, n2⟩ := List.nodup_cons.mp hn
        obtain ⟨n3, n4, n5⟩ := List.nodup_append.mp n2
        rcases List.mem_cons.mp hck with q | q
        · exact n1 (q ▸ List.mem_append_right _ e)
        · rcases List.mem_append.mp q with q | q
          · exact n5 c q c e rfl
          · obtain ⟨p, hp, rfl⟩ := List.mem_map.mp q
            have := (h2 p hp).2.1
            rw [Nat.mod_eq_of_lt hkl] at this
            exact this hk
  · obtain ⟨n1, n2⟩ := List.nodup_cons.mp hn
    exact List.nodup_cons.mpr ⟨fun z => n1 (List.mem_append_left _ z), (List.nodup_append.mp n2).1⟩
end
section
variable {P : Program} {w : World} {K : PySem.W.Frag} {mg : Str → Option Value} {base : Heap}
def spFan : Sp := fun vs H Q _ => ∃ (b : Addr) (n : Nat), vs = [.ref b] ∧ BoxAt H b n ∧ n ≤ 2 ^ 28 ∧ ∀ (H' : Hp), Kp (One b) H H' → Q (.bl true) H'
theorem ok_law_fan_right (D : Df K mg "_law_fan_right" s_law_fan_right p_law_fan_right) (B : Bu mg) (ot : Ok P w K mg base 1 "_law_take" p_law_take spTake) (oc : Ok P w K mg base 3 "_law_cells" p_law_cells spCells) (ocr : Ok P w K mg base 28 "count_readers" p_count_readers spCount) :
    Ok P w K mg base 29 "_law_fan_right" p_law_fan_right spFan := by
  refine D.ok sc_law_fan_right (fun vs H Q E h => ?_) fun f cdv A outer s H vs Q E hr h => ?_
  · obtain ⟨b, n, rfl, _⟩ := h
    rfl
  · obtain ⟨b, n, rfl, hB, hn, q⟩ := h
    have hu := hr.units
    refine ⟨_, pss_cons (ps_par (i := 1) (j := 2) rfl sc_law_fan_right.nd rfl rfl (by decide) rfl rfl (pa_cons (pe_callB (sortQ K hu) (by rfl) B.sorted bt_sorted (pa_cons (pe_cl oc (hr.mono (by decide)) (pa_cons (pv 0) (pa_cons pe_int pa_nil))) pa_nil)) (pa_cons (pe_cl ot (hr.mono (by decide)) (pa_cons (pv 0) (pa_cons pe_int pa_nil))) pa_nil)) (by rfl))
      (pss_cons (ps_asg (pe_tup (pa_cons (pe_lst pa_nil) (pa_cons (pe_slice sl_list (pv 1) (po_some (pe_op op_add pe_int (pv 2))) po_none) (pa_cons pe_int (pa_cons pe_int pa_nil)))))
        (pg_tup rfl (pgs_cons (pg_name (i := 3) sc_law_fan_right.nd rfl (.inl rfl)) (pgs_cons (pg_name (i := 4) sc_law_fan_right.nd rfl (.inr rfl)) (pgs_cons (pg_name (i := 5) sc_law_fan_right.nd rfl (.inl rfl)) (pgs_cons (pg_name (i := 6) sc_law_fan_right.nd rfl (.inl rfl)) pgs_nil))))))
      (pss_cons (ps_for PassesOwn.never rfl (pi_range1 (by rfl) B.range (pa_cons pe_int pa_nil)) (pg_name (i := 7) sc_law_fan_right.nd rfl (.inr rfl))
        (pss_cons (ps_setLc (i := 8) (own := [("_law_name", 14)]) (g := gName 14) (tt := tYes) rfl sc_law_fan_right.nd rfl rfl (sw_true rfl rfl rfl (by decide +kernel)) (pi_list (pe_slice sl_list (pv 1) (po_some pe_int) (po_some (pe_op op_add pe_int (pv 2))))) (blkOk_by (N := n_law_fan_right) (sc := defScope s_law_fan_right) (by decide +kernel))
            (fun _ _ _ _ _ => pg_name (i := 14) sc_law_fan_right.nd rfl (.inl rfl)) (fun _ _ _ _ _ => pts_nil) (fun _ _ _ _ _ => pe_tupP (pa_cons (pv 14) (pa_cons pe_int pa_nil))))
        (pss_cons (ps_setLc (i := 9) (own := [("_law_name", 14)]) (g := gName 14) rfl sc_law_fan_right.nd rfl rfl (sw_true rfl rfl rfl (by decide +kernel)) (pi_list (pv 4)) (blkOk_by (N := n_law_fan_right) (sc := defScope s_law_fan_right) (by decide +kernel))
            (fun _ _ _ _ _ => pg_name (i := 14) sc_law_fan_right.nd rfl (.inl rfl))
            (fun _ _ _ _ _ => pts_one (PW.pt (pw_and (pt_cmpR op_eq (pe_cl ot (hr.mono (by decide)) (pa_cons (pv 0) (pa_cons pe_int pa_nil))) pe_int (nomark _)) (pw_and1 (pt_cmpR op_ne (pv 14) (pe_ix (ixL K) (pv 4) (pe_op op_mod (pv 7) (pe_callB (lenQ K) (by rfl) B.len bt_len (pa_cons (pv 4) pa_nil))) (fun _ _ => rfl)) (nomark _))))))
            (fun _ _ _ _ _ => pv 14))
        (pss_one (ps_expr (pe_bm PySem.F.plainAttrs_list PySem.F.slot_list_append PySem.F.type_list_append mt_append (pv 3) (pa_cons
          (pe_op op_catPt (pe_op op_catPt (pe_tupP (pa_cons (pe_tupP (pa_cons (pe_ix (ixL K) (pv 1) pe_int (fun _ _ => rfl)) (pa_cons (pv 7) pa_nil))) pa_nil)) (pe_callTy (tupQ K) (by rfl) B.tuple bt_tuple (pa_cons (pv 8) pa_nil)))
            (pe_callTy (tupQ K) (by rfl) B.tuple bt_tuple (pa_cons
              (pe_lc (own := [("_law_name", 14)]) (g := gName 14) (tt := tYes) rfl sc_law_fan_right.nd (pi_list (pv 9)) (blkOk_by (N := n_law_fan_right) (sc := defScope s_law_fan_right) (by decide +kernel))
                (fun _ _ _ _ _ => pg_name (i := 14) sc_law_fan_right.nd rfl (.inl rfl)) (fun _ _ _ _ _ => pts_nil) (fun _ _ _ _ _ => pe_tupP (pa_cons (pv 14) (pa_cons (pe_cl ot (hr.mono (by decide)) (pa_cons (pv 0) (pa_cons pe_int pa_nil))) pa_nil)))) pa_nil))) pa_nil)))))))
      (pss_cons (ps_for PassesOwn.never rfl (pi_range1 (by rfl) B.range (pa_cons (pe_op op_add (pv 2) pe_int) pa_nil)) (pg_name (i := 10) sc_law_fan_right.nd rfl (.inl rfl))
        (pss_cons (ps_set (i := 11) sc_law_fan_right.nd rfl (.inl rfl) (pv 6))
        (pss_cons (ps_for PassesOwn.never rfl (pi_list (pv 3)) (pg_name (i := 12) sc_law_fan_right.nd rfl (.inl rfl))
          (pss_one (ps_for PassesOwn.never rfl (pi_range2 (by rfl) B.range (pa_cons pe_int (pa_cons (pe_op op_sub (pe_callB (lenQ K) (by rfl) B.len bt_len (pa_cons (pv 12) pa_nil)) (pv 10)) pa_nil))) (pg_name (i := 13) sc_law_fan_right.nd rfl (.inl rfl))
            (pss_one (ps_set (i := 11) sc_law_fan_right.nd rfl (.inl rfl) (pe_op op_mul (pv 11) (pv 13)))))))
        (pss_one (ps_par (i := 5) (j := 6) rfl sc_law_fan_right.nd rfl rfl (by decide) rfl rfl (pa_cons (pe_op op_add (pv 5) (pv 11)) (pa_cons (pe_op op_mul (pv 6) (pe_op op_sub (pv 2) (pv 10))) pa_nil)) (by rfl))))))
      (pss_one (ps_ret (pe_cmpR op_eq (pe_callB SkE.call_repr_int (by rfl) B.repr bt_repr (pa_cons (pe_cl ocr hr (pa_cons (pe_callTy (tupQ K) (by rfl) B.tuple bt_tuple (pa_cons (pv 3) pa_nil)) pa_nil)) pa_nil)) (pe_callB SkE.call_repr_int (by rfl) B.repr bt_repr (pa_cons (pv 5) pa_nil)) (nomark _))))))), ?_⟩
    refine ⟨_, rfl, b, 12, n, rfl, by decide, hB, by omega, fun p0 H1 L k1 np0 e1 hL hB1 => ?_⟩
    refine ⟨p0, _, L.map .str, rfl, .inl (SqL.of e1), TvAll.strs L, sortOk_strs L (by rw [hL.len, sizeLine_eq]; decide), fun sp zs nsp tz => ?_⟩
    rw [sort_map] at tz
    have ez := tz.inv_strs
    subst ez
    have pm := sd_perm L
    have hNn : (sd L).Nodup := pm.nodup_iff.mpr hL.nd
    have hNl : (sd L).length = 12 := by rw [pm.length_eq]; exact hL.len
    have hNo : ∀ c ∈ sd L, CellOk c := fun c hc => hL.ok c (pm.mem_iff.mp hc)
    show _
    have esd : L.mergeSort (PySem.W.dataLe false PyData.str) = sd L := rfl
    rw [esd]
    obtain ⟨ob1, hob1⟩ := hB1.there
    have spb : sp ≠ b := fun z => by rw [z, hob1] at nsp; cases nsp
    have ksp : Kp Nil H1 (upd H1 sp (.lst ((sd L).map V.str))) := Kp.new Kp.refl nsp
    refine ⟨_, rfl, b, 4, n + 20, rfl, by decide, by decide, hB1.keep0 ksp, by omega, fun r H2 r0 r1 k2 hB2 => ⟨_, _, rfl, ?_⟩⟩
    have esp2 := k2.keep _ _ (upd_same (H := H1) (a := sp) (o := .lst ((sd L).map V.str))) spb
    have kH2 : Kp (One b) H H2 := (k1.trans ksp.nil).trans k2
    obtain ⟨sh, rfl⟩ : ∃ sh : Nat, r = (sh : Int) := ⟨r.toNat, by omega⟩
    have hsh : sh ≤ 3 := by omega
    generalize sd L = NL at hNn hNl hNo esp2 ⊢
    obtain ⟨c0, rest, rfl⟩ : ∃ c0 rest, NL = c0 :: rest := by
      cases NL with
      | nil => cases hNl
      | cons a r => exact ⟨a, r, rfl⟩
    have hrl : rest.length = 11 := by simpa using hNl
    have hsplit : rest.take sh ++ rest.drop sh = rest := List.take_append_drop sh rest
    have hSl : (rest.take sh).length = sh := by rw [List.length_take]; omega
    have hfl : (rest.drop sh).length = 11 - sh := by rw [List.length_drop, hrl]
    have hn0 : (c0 :: (rest.take sh ++ rest.drop sh)).Nodup := by rw [hsplit]; exact hNn
    have hcut1 : cutV ((c0 :: rest).map V.str) (some ((1 : Int) + (sh : Int))) none = (rest.drop sh).map V.str := by
      have e : (1 : Int) + (sh : Int) = ((sh + 1 : Nat) : Int) := by omega
      rw [e, cut_from', ← List.map_drop]; rfl
    have hcut2 : cutV ((c0 :: rest).map V.str) (some (1 : Int)) (some ((1 : Int) + (sh : Int))) = (rest.take sh).map V.str := by
      have e : (1 : Int) + (sh : Int) = ((sh + 1 : Nat) : Int) := by omega
      rw [e]
      have := cut_mid ((c0 :: rest).map V.str) 1 (sh + 1) (by omega) (by rw [List.length_map, List.length_cons]; omega)
      rw [show ((1 : Nat) : Int) = (1 : Int) from rfl] at this
      rw [this, Nat.add_sub_cancel, ← List.map_drop, ← List.map_take]; rfl
    refine ⟨Nat.zero_le _, fun fo nf => ⟨_, rfl, _, rfl, _, _, rfl, rfl, _, rfl, sp, _, rfl, SqL.of ((Kp.new (S := Nil) Kp.refl nf).keep _ _ esp2 fun z => z), fun fr nfr => ⟨by show 4 ≤ sizeLine; rw [sizeLine_eq]; decide, fun tp ntp => ⟨tp, _, rfl, SqT.of upd_same, rfl, _, _, rfl, _, _, rfl, _, _, rfl, _, _, rfl, rfl, ?_⟩⟩⟩⟩
    have kfo : Kp Nil H2 (upd H2 fo (.lst [])) := Kp.new Kp.refl nf
    have kfr : Kp Nil (upd H2 fo (.lst [])) (upd (upd H2 fo (.lst [])) fr (.lst ((rest.drop sh).map V.str))) := Kp.new Kp.refl nfr
    rw [hcut1]
    have nfr : (upd H2 fo (.lst [])) fr = none := nfr
    have e2fo : (upd H2 fo (.lst [])) fo = some (.lst []) := upd_same
    have hfrfo : fo ≠ fr := ne_of_none e2fo nfr
    obtain ⟨ob2, hob2⟩ := hB2.there
    have fob : fo ≠ b := fun z => by rw [z, hob2] at nf; cases nf
    have fosp : fo ≠ sp := fun z => by rw [z, esp2] at nf; cases nf
    have hob2' := kfo.keep _ _ hob2 fun z => z
    have frb : fr ≠ b := fun z => by rw [z, hob2'] at nfr; cases nfr
    have nfoH : H fo = none := kH2.fresh' nf fun z => fob z
    have ktp : Kp Nil (upd (upd H2 fo (.lst [])) fr (.lst ((rest.drop sh).map V.str))) (upd (upd (upd H2 fo (.lst [])) fr (.lst ((rest.drop sh).map V.str))) tp (.tup [.ref fo, .ref fr, .int 0, .int 1])) := Kp.new Kp.refl (by rw [← hcut1]; exact ntp)
    obtain ⟨H3, eH3, kH3, hB3, esp, efr, efo⟩ : ∃ H3, H3 = upd (upd (upd H2 fo (.lst [])) fr (.lst ((rest.drop sh).map V.str))) tp (.tup [.ref fo, .ref fr, .int 0, .int 1]) ∧ Kp (One b) H H3 ∧ BoxAt H3 b (n + 21) ∧ H3 sp = some (.lst ((c0 :: rest).map V.str)) ∧ H3 fr = some (.lst ((rest.drop sh).map V.str)) ∧ H3 fo = some (.lst []) :=
      ⟨_, rfl, ((kH2.trans kfo.nil).trans kfr.nil).trans ktp.nil, ((hB2.keep0 kfo).keep0 kfr).keep0 ktp, ((kfo.trans kfr).trans ktp).keep _ _ esp2 fun z => z, ktp.keep _ _ upd_same fun z => z, (kfr.trans ktp).keep _ _ e2fo fun z => z⟩
    rw [← eH3]
    refine ⟨40, rfl, by decide, by decide, ?_⟩
    refine for_range (lo := 0) (n := 40) (fun t σ H4 => (∃ y7 y8 y9, σ = [some (.ref b), some (.ref sp), some (.int (sh : Int)), some (.ref fo), some (.ref fr), some (.int 0), some (.int 1), y7, y8, y9, none, none, none, none, none]) ∧ Kp (fun x => One b x ∨ One fo x) H3 H4 ∧ ∃ (F : Fm) (ys : List V), H4 fo = some (.lst ys) ∧ TvAll H4 ys (F.map encL) ∧ F.length = t ∧ FanFam c0 (rest.take sh) (rest.drop sh) F ∧ BoxAt H4 b (n + 21 + t * 30))
      ⟨⟨none, none, none, rfl⟩, Kp.refl, [], [], efo, .nil, rfl, ⟨fun i l h => by simp at h⟩, hB3⟩ (fun t σ H4 ht hP => ?_) fun σ H4 hP => ?_
    · obtain ⟨⟨y7, y8, y9, rfl⟩, k4, F, ys, e4, t4, hFl, hFF, hB4⟩ := hP
      have ht : t < 40 := ht
      have esp4 := k4.keep _ _ esp fun z => z.elim spb fun z => fosp z.symm
      have efr4 := k4.keep _ _ efr fun z => z.elim frb fun z => hfrfo z.symm
      -- pairs
      refine ⟨_, rfl, _, rfl, _, rfl, _, _, rfl, rfl, _, rfl, sp, _, rfl, SqL.of esp4, fun pl npl => ?_⟩
      rw [hcut2]
      refine ⟨pl, rfl, ⟨_, SqL.of upd_same⟩, fun D1 n1 => ?_⟩
      have kpl : Kp Nil H4 (upd H4 pl (.lst ((rest.take sh).map V.str))) := Kp.new Kp.refl npl
      have epl : (upd H4 pl (.lst ((rest.take sh).map V.str))) pl = some (.lst ((rest.take sh).map V.str)) := upd_same
      generalize upd H4 pl (.lst ((rest.take sh).map V.str)) = H5 at kpl epl n1 ⊢
      refine lc_acc (walk_list (xs := (rest.take sh).map V.str)) n1 (S := Nil) (fun z => z) (by rw [List.length_map]; omega) (fun i H ys => TvAll H ys ((((rest.take sh).take i).map fun c => (c, (3 : Int))).map encP)) .nil (fun _ _ _ _ e t => TvAll.atD e t) (fun _ k => SqL.of (k.keep _ _ epl fun z => z)) (fun i x H6 H6' zs hi k6 e6 a6 y Kt Kf ht' hf => ?_) fun H6 zs1 k6 e6 a6 => ?_
      · obtain ⟨rfl, hx⟩ := y
        obtain ⟨c, hc, rfl⟩ := strs_at hx
        refine ⟨rfl, yes_go ⟨_, rfl, by show 2 ≤ sizeLine; rw [sizeLine_eq]; decide, fun p o np hc' hd => ht' _ _ (Kp.new Kp.refl np) ?_⟩⟩
        have kp : Kp Nil H6' (upd H6' p (.frz o (.tup [.str c, .int 3]))) := Kp.new Kp.refl np
        rw [take_snoc hc, List.map_append, List.map_append]
        exact (a6.keep kp).snoc (Tv.pair (Pt.new hc' hd))
      have a6 : TvAll H6 zs1 (((rest.take sh).map fun c => (c, (3 : Int))).map encP) := by
        rw [List.length_map, List.take_length] at a6
        exact a6
      -- some
      have k46 : Kp Nil H4 H6 := kpl.trans k6
      have efr6 := k46.keep _ _ efr4 fun z => z
      have esp6 := k46.keep _ _ esp4 fun z => z
      have e46 := k46.keep _ _ e4 fun z => z
      have hB6 : BoxAt H6 b (n + 21 + t * 30) := hB4.keep0 k46
      have hfl0 : 0 < (rest.drop sh).length := by omega
      have hmod : t % (rest.drop sh).length < (rest.drop sh).length := Nat.mod_lt _ hfl0
      obtain ⟨ex, hex⟩ : ∃ ex, (rest.drop sh)[t % (rest.drop sh).length]? = some ex := ⟨_, List.getElem?_eq_getElem hmod⟩
      have hexi : atI ((rest.drop sh).map V.str) (((0 : Int) + (t : Int)) % (((rest.drop sh).map V.str).length : Int)) = some (.str ex) := by
        have e : ((0 : Int) + (t : Int)) % (((rest.drop sh).map V.str).length : Int) = ((t % (rest.drop sh).length : Nat) : Int) := by
          rw [List.length_map, Int.zero_add]; rfl
        rw [e]
        exact atI_nat (by rw [List.getElem?_map, hex]; rfl)
      refine ⟨_, rfl, fr, rfl, ⟨_, SqL.of efr6⟩, fun D2 n2 => ?_⟩
      have D2b : ¬ One b D2 := fun z => by
        have z : D2 = b := z
        obtain ⟨o, h⟩ := hB6.there
        rw [z, h] at n2; cases n2
      have hfn : (rest.drop sh).Nodup := (List.nodup_append.mp (List.nodup_cons.mp hn0).2).2.1
      refine lc_acc (walk_list (xs := (rest.drop sh).map V.str)) n2 (S := One b) D2b (by rw [List.length_map]; omega) (fun i H zs => BoxAt H b (n + 21 + t * 30 + i) ∧ ∃ sm : List Str, zs = sm.map V.str ∧ sm.Nodup ∧ ∀ c ∈ sm, c ∈ (rest.drop sh).take i ∧ c ≠ ex) ⟨hB6.keep0 (Kp.new Kp.refl n2), [], rfl, List.nodup_nil, fun c hc => by cases hc⟩
        (fun _ _ _ _ e h => ⟨h.1.atD e fun z => D2b z.symm, h.2⟩) (fun _ k => SqL.of (k.keep _ _ efr6 frb)) (fun i x H7 H7' zs hi k7 e7 a7 y Kt Kf ht' hf => ?_) fun H7 zs2 k7 e7 a7 => ?_
      · obtain ⟨rfl, hx⟩ := y
        obtain ⟨c, hc, rfl⟩ := strs_at hx
        obtain ⟨hB7, sm, rfl, hsn, hso⟩ := a7
        have hi2 : i < 11 := by rw [List.length_map] at hi; omega
        have mono : ∀ c' ∈ sm, c' ∈ (rest.drop sh).take (i + 1) ∧ c' ≠ ex := fun c' h' => ⟨by rw [take_snoc hc]; exact List.mem_append_left _ (hso c' h').1, (hso c' h').2⟩
        refine ⟨rfl, _, rfl, b, 2, n + 21 + t * 30 + i, rfl, by decide, by decide, hB7, by omega, fun r8 H8 r80 r81 k8 hB8 => ⟨rfl, _, rfl, ?_⟩⟩
        refine ite2 (fun hb => ?_) (fun hb => ?_)
        · have efr8 : H8 fr = some (.lst ((rest.drop sh).map V.str)) := k8.keep _ _ (k7.keep _ _ efr6 frb) frb
          refine ⟨_, rfl, _, rfl, _, rfl, _, rfl, fr, _, rfl, .inl (SqL.of efr8), _, _, rfl, rfl, by rw [List.length_map]; omega, fr, _, _, _, rfl, rfl, SqL.of efr8, hexi, rfl, _, rfl, ?_⟩
          refine ite2 (fun hb2 => ?_) (fun hb2 => ?_)
          · have hne : c ≠ ex := fun e => by rw [e] at hb2; simp at hb2
            refine ⟨_, rfl, ht' _ _ k8 ⟨hB8, sm ++ [c], by rw [List.map_append]; rfl, nd_snoc hsn fun z => ?_, fun c' h' => ?_⟩⟩
            · have h1 := (hso c z).1
              obtain ⟨j, hj⟩ := List.mem_iff_getElem?.mp h1
              have hji : j < i := by
                have := (List.getElem?_eq_some_iff.mp hj).1
                rw [List.length_take] at this; omega
              rw [List.getElem?_take_of_lt hji] at hj
              have := nd_ix hfn hj hc
              omega
            · rcases List.mem_append.mp h' with h' | h'
              · exact mono c' h'
              · rw [List.mem_singleton.mp h']
                exact ⟨by rw [take_snoc hc]; simp, hne⟩
          · exact hf _ k8 ⟨hB8, sm, rfl, hsn, mono⟩
        · exact iteF (hf _ k8 ⟨hB8, sm, rfl, hsn, mono⟩)
      obtain ⟨hB7, sm, rfl, hsn, hso⟩ := a7
      rw [List.length_map, List.take_length] at hso
      rw [List.length_map] at hB7
      have hB7 : BoxAt H7 b (n + 21 + t * 30 + 11) := hB7.le (by omega)
      have e67 := k7.keep _ _ e46 fob
      have esp7 := k7.keep _ _ esp6 spb
      have D1b : D1 ≠ b := fun z => by
        obtain ⟨o, h⟩ := hB6.there
        have := kpl.keep _ _ ((hB4.there).choose_spec) fun z => z
        rw [z, this] at n1; cases n1
      have eD1 := k7.keep _ _ e6 D1b
      have a7 := a6.keep k7
      have hsml : sm.length ≤ 11 := by
        have := len_le_of_sub hsn fun c hc => (hso c hc).1
        omega
      refine ⟨_, rfl, .inl ⟨rfl, _, SqL.of e67⟩, _, rfl, sp, _, 0, _, rfl, rfl, SqL.of esp7, atI_0, _, rfl, by show 2 ≤ sizeLine; rw [sizeLine_eq]; decide, fun p1 o1 np1 hc1 hd1 => ⟨by show 1 ≤ sizeLine; rw [sizeLine_eq]; decide, fun p2 o2 np2 hc2 hd2 => ?_⟩⟩
      have kp1 : Kp Nil H7 (upd H7 p1 (.frz o1 (.tup [.str c0, .int (0 + (t : Int))]))) := Kp.new Kp.refl np1
      have kp2 : Kp Nil (upd H7 p1 (.frz o1 (.tup [.str c0, .int (0 + (t : Int))]))) (upd (upd H7 p1 (.frz o1 (.tup [.str c0, .int (0 + (t : Int))]))) p2 (.frz o2 (.tup [.ref p1]))) := Kp.new Kp.refl np2
      have kp12 := kp1.trans kp2
      have eD1' := kp12.keep _ _ eD1 fun z => z
      refine ⟨_, rfl, D1, _, rfl, SqL.of eD1', fun p3 o3 np3 hc3 hd3 => ?_⟩
      have kp3 : Kp Nil (upd (upd H7 p1 (.frz o1 (.tup [.str c0, .int (0 + (t : Int))]))) p2 (.frz o2 (.tup [.ref p1]))) (upd (upd (upd H7 p1 (.frz o1 (.tup [.str c0, .int (0 + (t : Int))]))) p2 (.frz o2 (.tup [.ref p1]))) p3 (.frz o3 (.tup zs1))) := Kp.new Kp.refl np3
      have hzs1 : zs1.length = sh := by rw [a6.len, List.length_map]; exact hSl
      have kp123 := kp12.trans kp3
      have tp1 : Tv (upd (upd (upd H7 p1 (.frz o1 (.tup [.str c0, .int (0 + (t : Int))]))) p2 (.frz o2 (.tup [.ref p1]))) p3 (.frz o3 (.tup zs1))) (.ref p1) (encP (c0, (0 : Int) + (t : Int))) := ((Tv.pair (Pt.new hc1 hd1)).keep kp2).keep kp3
      refine ⟨p2, p3, [.ref p1], zs1, rfl, rfl, (Pt.new hc2 hd2).keep kp3, Pt.new hc3 hd3, by rw [hzs1, sizeLine_eq]; show 1 + sh ≤ _; omega, fun p4 H8 k8 hp4 => ?_⟩
      have k78 := kp123.trans k8
      have t4' : TvAll H8 ([.ref p1] ++ zs1) ((((c0, (0 : Int) + (t : Int)) :: (rest.take sh).map fun c => (c, (3 : Int))) : Lg).map encP) := .cons (tp1.keep k8) ((a7.keep kp123).keep k8)
      have hB8 : BoxAt H8 b (n + 21 + t * 30 + 11) := hB7.keep0 k78
      have e8D2 := k78.keep _ _ e7 fun z => z
      have e8fo := k78.keep _ _ e67 fun z => z
      refine ⟨_, rfl, D2, rfl, ⟨_, SqL.of e8D2⟩, fun D3 n3 => ?_⟩
      have D3b : ¬ One b D3 := fun z => by
        have z : D3 = b := z
        obtain ⟨o, h⟩ := hB8.there
        rw [z, h] at n3; cases n3
      have D2nb : D2 ≠ b := D2b
      refine lc_acc (walk_list (xs := sm.map V.str)) n3 (S := One b) D3b (by rw [List.length_map]; omega) (fun i H zs => BoxAt H b (n + 21 + t * 30 + 11 + i) ∧ ∃ prs : Lg, TvAll H zs (prs.map encP) ∧ prs.map (·.1) = sm.take i ∧ ∀ p ∈ prs, 0 ≤ p.2 ∧ p.2 ≤ 2) ⟨hB8.keep0 (Kp.new Kp.refl n3), [], .nil, rfl, fun p hp => by cases hp⟩
        (fun _ _ _ _ e h => ⟨h.1.atD e fun z => D3b z.symm, let ⟨prs, h1, h2⟩ := h.2; ⟨prs, h1.atD e, h2⟩⟩) (fun _ k => SqL.of (k.keep _ _ e8D2 D2nb)) (fun i x H9 H9' zs hi k9 e9 a9 y Kt Kf ht' hf => ?_) fun H9 zs3 k9 e9 a9 => ?_
      · obtain ⟨rfl, hx⟩ := y
        obtain ⟨c, hc, rfl⟩ := strs_at hx
        obtain ⟨hB9, prs, tprs, hprs, hpo⟩ := a9
        have hi2 : i < 11 := by rw [List.length_map] at hi; omega
        refine ⟨rfl, yes_go ⟨_, rfl, _, rfl, b, 3, n + 21 + t * 30 + 11 + i, rfl, by decide, by decide, hB9, by omega, fun r10 H10 r100 r101 k10 hB10 => ⟨by show 2 ≤ sizeLine; rw [sizeLine_eq]; decide, fun p o np hc' hd => ?_⟩⟩⟩
        have kp : Kp Nil H10 (upd H10 p (.frz o (.tup [.str c, .int r10]))) := Kp.new Kp.refl np
        refine ht' _ _ (k10.trans kp.nil) ⟨hB10.keep0 kp, prs ++ [(c, r10)], ?_, ?_, fun q hq => ?_⟩
        · rw [List.map_append]
          exact ((tprs.keep k10).keep kp).snoc (Tv.pair (Pt.new hc' hd))
        · rw [List.map_append, hprs, take_snoc hc]; rfl
        · rcases List.mem_append.mp hq with hq | hq
          · exact hpo q hq
          · rw [List.mem_singleton.mp hq]; exact ⟨r100, by show r10 ≤ 2; omega⟩
      obtain ⟨hB9, prs, tprs, hprs, hpo⟩ := a9
      rw [List.length_map, List.take_length] at hprs
      rw [List.length_map] at hB9
      have hzs3 : zs3.length = sm.length := by rw [tprs.len, ← hprs, List.length_map]
      refine ⟨D3, _, rfl, SqL.of e9, fun p5 o5 np5 hc5 hd5 => ?_⟩
      have kp5 : Kp Nil H9 (upd H9 p5 (.frz o5 (.tup zs3))) := Kp.new Kp.refl np5
      refine ⟨p4, p5, _, zs3, rfl, rfl, (hp4.keep k9).keep kp5, Pt.new hc5 hd5, by rw [List.length_append, hzs1, hzs3, sizeLine_eq]; show 1 + sh + _ ≤ _; omega, fun p6 H10 k10 hp6 => ?_⟩
      have k910 := kp5.trans k10
      have e10fo := k910.keep _ _ (k9.keep _ _ e8fo fob) fun z => z
      have hys : ys.length = t := by rw [t4.len]; exact hFl
      refine ⟨fo, ys, _, rfl, rfl, e10fo, by rw [sizeLine_eq]; omega, ?_⟩
      have ka : Kp (One fo) H10 (upd H10 fo (.lst (ys ++ [.ref p6]))) := Kp.atD e10fo
      have tlog : Tv H10 (.ref p6) (encL (((c0, (0 : Int) + (t : Int)) :: (rest.take sh).map fun c => (c, (3 : Int))) ++ prs)) := by
        refine .tup hp6 ?_
        rw [List.map_append]
        exact ((t4'.keep k9).keep k910).append (tprs.keep k910)
      have kH : Kp (fun x => One b x ∨ One fo x) H4 H10 := (((k46.nil.trans k7).trans k78.nil).trans k9 |>.trans k910.nil).wide fun _ z => .inl z
      refine ⟨⟨_, _, _, rfl⟩, (k4.trans kH).trans (ka.wide fun _ z => .inr z), F ++ [((c0, (0 : Int) + (t : Int)) :: (rest.take sh).map fun c => (c, (3 : Int))) ++ prs], _, upd_same, ?_, by rw [List.length_append, hFl]; rfl, ⟨fun i l h => ?_⟩, ?_⟩
      · rw [List.map_append]
        exact ((t4.keep kH).keep ka).snoc (tlog.keep ka)
      · by_cases hi : i < F.length
        · rw [List.getElem?_append_left hi] at h
          exact hFF.logs i l h
        · have hil := (List.getElem?_eq_some_iff.mp h).1
          rw [List.length_append, List.length_singleton] at hil
          have hie : i = F.length := by omega
          rw [hie, List.getElem?_append_right (Nat.le_refl _), Nat.sub_self] at h
          have h := Option.some.inj h
          subst h
          rw [hie, hFl]
          refine ⟨prs, by rw [Int.zero_add], ?_, fun p hp => ?_⟩
          · show (prs.map (·.1)).Nodup
            rw [hprs]; exact hsn
          · have hpm : p.1 ∈ sm := by rw [← hprs]; exact List.mem_map.mpr ⟨p, hp, rfl⟩
            obtain ⟨q1, q2⟩ := hso _ hpm
            refine ⟨q1, fun e => ?_, (hpo p hp).1, (hpo p hp).2⟩
            rw [hex] at e
            exact q2 (Option.some.inj e).symm
      · exact (((hB9.keep0 k910).atD e10fo (Ne.symm fob))).le (by omega)
    · obtain ⟨⟨y7, y8, y9, rfl⟩, k4, F, ys, e4, t4, hFl, hFF, hB4⟩ := hP
      have hFl : F.length = 40 := hFl
      have fan := hFF.fan hn0 (by omega) (by omega)
      have hys : ys.length = 40 := by rw [t4.len]; exact hFl
      have kH4 : Kp (One b) H H4 := ((kH3.wide fun _ z => .inl z).trans k4).less nfoH
      have atF : ∀ l ∈ F, ∃ i, i < 40 ∧ FanLog c0 (rest.take sh) (rest.drop sh) i l := fun l hl => by
        obtain ⟨i, hi⟩ := List.mem_iff_getElem?.mp hl
        exact ⟨i, by have := (List.getElem?_eq_some_iff.mp hi).1; omega, hFF.logs i l hi⟩
      have hlens : ∀ l ∈ F, l.length ≤ 12 ∧ 1 + sh ≤ l.length := fun l hl => by
        obtain ⟨i, _, q⟩ := atF l hl
        have := (q.nd hn0).2.1
        have := (q.nd hn0).2.2.2
        omega
      have hFm : FmOk F := by
        refine ⟨fun e => (by rw [e] at hFl; cases hFl), by omega, fun l hl => ?_⟩
        obtain ⟨i, hi, q⟩ := atF l hl
        refine ⟨(q.nd hn0).1, by have := (hlens l hl).1; omega, fun p hp => ⟨?_, ?_⟩⟩
        · have := (q.nd hn0).2.2.1 p.1 (List.mem_map.mpr ⟨p, hp, rfl⟩)
          rw [hsplit] at this
          exact hNo _ this
        · obtain ⟨smx, el, _, h2⟩ := q.ex
          rw [el] at hp
          rcases List.mem_append.mp hp with hp | hp
          · rcases List.mem_cons.mp hp with rfl | hp
            · exact ⟨by show (0 : Int) ≤ (i : Int); omega, by show (i : Int) ≤ 1000000000; omega⟩
            · obtain ⟨c, _, rfl⟩ := List.mem_map.mp hp
              exact ⟨by show (0 : Int) ≤ 3; decide, by show (3 : Int) ≤ 1000000000; decide⟩
          · have := h2 p hp
            exact ⟨this.2.2.1, by have := this.2.2.2; omega⟩
      have hU : ∀ l ∈ F, ∀ c ∈ cells l, c ∈ c0 :: rest := fun l hl c hc => by
        obtain ⟨i, _, q⟩ := atF l hl
        have := (q.nd hn0).2.2.1 c hc
        rw [hsplit] at this
        exact this
      have hG : GOk F := ⟨hFm, fan.good⟩
      have hall : C 16 F [] = fanv (fanQ F) 0 sh := by
        have := fan.all (n := 16) fun l hl => by have := (hlens l hl).1; omega
        rw [hSl] at this
        exact this
      have en : ((sh : Int) + 1).toNat = sh + 1 := by omega
      refine ⟨_, rfl, _, _, rfl, rfl, (sh : Int) + 1, rfl, by omega, by omega, ?_⟩
      refine for_range (lo := 0) (n := ((sh : Int) + 1).toNat) (fun e σ H5 => (∃ (tt aa : Int) (y10 y11 y12 y13 : Option V), σ = [some (.ref b), some (.ref sp), some (.int (sh : Int)), some (.ref fo), some (.ref fr), some (.int tt), some (.int aa), y7, y8, y9, y10, y11, y12, y13, none] ∧
          ∃ total ahead : Nat, tt = (total : Int) ∧ aa = (ahead : Int) ∧ (e ≤ sh → total + ahead * fanv (fanQ F) e (sh - e) = fanv (fanQ F) 0 sh) ∧ (e = sh + 1 → total = fanv (fanQ F) 0 sh)) ∧ H5 = H4)
        ⟨⟨0, 1, _, _, _, _, rfl, 0, 1, rfl, rfl, fun _ => by rw [Nat.zero_add, Nat.one_mul, Nat.sub_zero], fun h => by omega⟩, rfl⟩ (fun e σ H5 he hP => ?_) fun σ H5 hP => ?_
      · obtain ⟨⟨tt, aa, y10, y11, y12, y13, rfl, total, ahead, rfl, rfl, hinv, _⟩, rfl⟩ := hP
        have hes : e ≤ sh := by omega
        have hinv := hinv hes
        refine ⟨_, rfl, _, rfl, fo, rfl, ⟨ys, SqL.of e4⟩, for_it (walk_list (xs := ys)) (fun i σ H6 => (∃ (ff : Int) (y12 y13 : Option V), σ = [some (.ref b), some (.ref sp), some (.int (sh : Int)), some (.ref fo), some (.ref fr), some (.int (total : Int)), some (.int (ahead : Int)), y7, y8, y9, some (.int (0 + (e : Int))), some (.int ff), y12, y13, none] ∧
            ff = ((ahead * prod ((F.take i).map fun l => fact (l.length - e - 1)) : Nat) : Int)) ∧ H6 = H5) ⟨⟨_, _, _, rfl, by show _ = ((ahead * 1 : Nat) : Int); rw [Nat.mul_one]⟩, rfl⟩ (fun _ _ _ _ h => h.2 ▸ SqL.of e4) (fun i x σ H6 H6' hi hP yy => ?_) fun σ H6 hP => ?_⟩
        · obtain ⟨rfl, hx⟩ := yy
          obtain ⟨⟨ff, y12, y13, rfl, hff⟩, rfl⟩ := hP
          obtain ⟨l, hl1, tv⟩ := t4.at hx
          obtain ⟨al, ps, rfl, hpl, hTl⟩ := tv.tuple
          have hps : ps.length = l.length := hTl.len
          have hlb := hlens l (List.mem_of_getElem? hl1)
          have en3 : (((l.length : Int) - (0 + (e : Int))) - 2).toNat = (l.length - e - 1) - 1 := by omega
          refine ⟨_, rfl, al, ps, rfl, .inr hpl.sqt, _, rfl, _, _, rfl, rfl, 2, _, rfl, ⟨by decide, by decide, by omega, by omega⟩, ?_⟩
          rw [hps]
          refine for_range (lo := 2) (n := ((((l.length : Nat) : Int) - (0 + (e : Int))) - 2).toNat) (fun j σ H7 => (∃ (gg : Int) (y13 : Option V), σ = [some (.ref b), some (.ref sp), some (.int (sh : Int)), some (.ref fo), some (.ref fr), some (.int (total : Int)), some (.int (ahead : Int)), y7, y8, y9, some (.int (0 + (e : Int))), some (.int gg), some (.ref al), y13, none] ∧
              gg = ff * ((fact (j + 1) : Nat) : Int)) ∧ H7 = H6') ⟨⟨ff, _, rfl, by show ff = ff * 1; rw [Int.mul_one]⟩, rfl⟩ (fun j σ H7 hj hP => ?_) fun σ H7 hP => ?_
          · obtain ⟨⟨gg, y13, rfl, hgg⟩, rfl⟩ := hP
            rw [en3] at hj
            refine ⟨_, rfl, _, rfl, _, _, rfl, rfl, .inr ⟨by omega, by omega⟩, ⟨_, _, rfl, ?_⟩, rfl⟩
            rw [hgg, Int.mul_assoc]
            congr 1
            rw [show (2 : Int) + (j : Int) = ((j + 2 : Nat) : Int) by omega, ← Int.natCast_mul]
            congr 1
            show _ = (j + 1 + 1) * fact (j + 1)
            rw [Nat.mul_comm]
          · obtain ⟨⟨gg, y13, rfl, hgg⟩, rfl⟩ := hP
            refine ⟨⟨gg, _, _, rfl, ?_⟩, rfl⟩
            rw [en3] at hgg
            have hfac : fact (l.length - e - 1 - 1 + 1) = fact (l.length - e - 1) := by
              match hm : l.length - e - 1 with
              | 0 => rfl
              | m + 1 => rfl
            rw [hgg, hff, hfac, take_snoc hl1, List.map_append, prod_append, ← Int.natCast_mul]
            congr 1
            rw [Nat.mul_assoc]
            congr 1
            show _ = _ * (_ * 1)
            rw [Nat.mul_one]
        · obtain ⟨⟨ff, y12, y13, rfl, hff⟩, rfl⟩ := hP
          rw [hys, ← hFl, List.take_length] at hff
          have hQ : prod (F.map fun l => fact (l.length - e - 1)) = fanQ F e := rfl
          rw [hQ] at hff
          refine ⟨_, rfl, _, rfl, _, _, rfl, rfl, _, rfl, _, rfl, _, rfl, _, _, rfl, rfl, _, _, rfl, rfl, .inr ⟨by omega, by omega⟩, _, _, rfl, ⟨_, _, _, _, _, _, rfl, total + ahead * fanQ F e, ahead * (sh - e), ?_, ?_, fun h => ?_, fun h => ?_⟩, rfl⟩
          · rw [hff]; exact (Int.natCast_add _ _).symm
          · rw [show (sh : Int) - (0 + (e : Int)) = ((sh - e : Nat) : Int) by omega, ← Int.natCast_mul]
          · exact fanv_turn (fanQ F) (by omega) hinv
          · have he2 : e = sh := by omega
            subst he2
            exact fanv_last (fanQ F) hinv
      · obtain ⟨⟨tt, aa, y10, y11, y12, y13, rfl, total, ahead, rfl, rfl, _, hfin⟩, rfl⟩ := hP
        have htot := hfin en
        refine ⟨_, rfl, fo, ys, rfl, SqL.of e4, fun p o np hc hd => ?_⟩
        have kp : Kp Nil H5 (upd H5 p (.frz o (.tup ys))) := Kp.new Kp.refl np
        refine ⟨_, F, c0 :: rest, rfl, .tup (Pt.new hc hd) (t4.keep kp), hG, hU, by omega, fun H6 k6 => ?_⟩
        have hsm : C 16 F [] < 2 ^ 1800 := Nat.lt_of_le_of_lt (root_of hG hU (by omega)).node.small (pow_small hFm.le)
        have hlog : (((C 16 F [] : Nat) : Int)).natAbs.log2 < 1920 := by
          rw [Int.natAbs_natCast]
          exact Nat.lt_of_lt_of_le (PySem.Flt.log2_lt_of (by decide) hsm) (by decide)
        refine ⟨_, rfl, hlog, _, rfl, _, rfl, by rw [htot, ← hall]; exact hlog, rfl, ?_⟩
        rw [htot, ← hall, decide_eq_true rfl]
        exact q H6 ((kH4.trans kp.nil).trans k6.nil)
end
end Ro

/-! RoGuard: promises of defs that are entered with no guard around (a list's repr asks for it), their calls, and the law's call. -/
namespace Ro
open PySem PySem.Spec PyProof.Rows L2
section
variable {P : Program} {w : World} {K : PySem.W.Frag} {mg : Str → Option Value} {base : Heap}
structure FnOkG (P : Program) (w : World) (K : PySem.W.Frag) (mg : Str → Option Value) (base : Heap) (k : Nat) (f : Addr) (fd : FuncData) (ps : List Str) (sp : Sp) : Prop where
  arity : ∀ vs H Q E, sp vs H Q E → vs.length = ps.length
  go : ∀ (A : Around) (outer : List Env) (s : Shared) (H : Hp) (args : Args) (us : List Value) (vs : List V) (Q : VK) (E : XK), Room k A → A.guards = some [] → Env0 P w K mg base A outer s H → BindsTo s fd args (ps.zip us) → Vals vs us →
    sp vs H Q E → codeAny (model P w) A (.call (.ref f) args) (CR CX0 outer P w H s Q E) s
def OkG (P : Program) (w : World) (K : PySem.W.Frag) (mg : Str → Option Value) (base : Heap) (k : Nat) (x : Str) (ps : List Str) (sp : Sp) : Prop :=
  ∃ f fd, FnOkG P w K mg base k f fd ps sp ∧ mg x = some (.ref f) ∧ PySem.W.keepIn K (.ref f) = true ∧ Binds K fd ps [] ∧ ∃ oc od osl, K.lookup f = some ⟨oc, od, .func fd, osl⟩
theorem Df.okG {x : String} {st : Stmt} {N ps : List Str} {k : Nat} {sp : Sp} (D : Df K mg x st ps) (S : FnScope N ps (defScope st)) (len : ∀ vs H Q E, sp vs H Q E → vs.length = ps.length)
    (hbody : ∀ (f : Addr) (cdv : Value) (A : Around) (outer : List Env) (s : Shared) (H : Hp) (vs : List V) (Q : VK) (E : XK), Room k (A.deeper (envOfC (Str.ofString x) (defScope st) s.heap.objs.size f cdv)) →
      (A.deeper (envOfC (Str.ofString x) (defScope st) s.heap.objs.size f cdv)).guards = some [] → sp vs H Q E →
      ∃ t, PSs (cxOf CX0 P w K mg base N (Str.ofString x) (defScope st) f cdv A outer s H E).nox (defBody st) t ∧ t { nx := fun _ H' => Q .non H', rt := Q } (start N vs) H) :
    OkG P w K mg base (k + 1) (Str.ofString x) ps sp := by
  obtain ⟨f, fd, F, hm, hb⟩ := D.ex
  refine ⟨f, fd, ⟨len, fun A outer s H args us vs Q E hr hg e0 bt r hsp => ?_⟩, hm, F.kp, hb, F.ex.elim fun oc h => h.elim fun od h => h.elim fun _ h => h.elim fun _ h => h.elim fun _ h => h.elim fun _ h => h.elim fun _ h => h.elim fun _ h => h.elim fun osl h => ⟨oc, od, osl, h.2.1⟩⟩
  obtain ⟨oc, od, kV, doc, pm, an, cdv, ct, osl, rfl, lk, hcd⟩ := F.ex
  have hl := len _ _ _ _ hsp
  refine Att.call_fn (e0.mod.kin.keeps fun b o e => (e0.bs b o e).1) (e0.mod.nolimit.keeps fun b o e => (e0.bs b o e).1) lk hcd hr.depth bt ?_ (fun s1 y => ?_) S.co S.gen S.kind
  · refine List.all_eq_true.mpr fun ⟨n, v⟩ hy => ?_
    rcases S.par n (List.of_mem_zip hy).1 with q | q
    · show ((defScope st).names.lookup n == some .local || _) = true
      rw [q]; rfl
    · show (_ || (defScope st).names.lookup n == some .cell) = true
      rw [q]; rfl
  · obtain ⟨t, ht, hq⟩ := hbody f cdv A outer s H vs Q E (hr.deeper _) hg hsp
    have I := inv_start (CX := CX0) (P := P) (w := w) (K := K) (mg := mg) (base := base) (E := E) S hr.hd e0 hl r y
    have fin : ∀ {σ' : L2.St} {H' : Hp} {v : V} {u : Value} {s' : Shared}, Inv (cxOf CX0 P w K mg base N (Str.ofString x) (defScope st) f cdv A outer s H E) [] σ' H' s' → RelV v u → Q v H' → CE outer P w H s Q u s' :=
      fun {σ' H' v u s'} J rv q => ⟨v, H', J.os, J.bare, J.base, J.hok, rv, q⟩
    refine wpAny_mono (ht.nox.run [] s1 (start N vs) H _ I hq) (fun fl s' hs => ?_) fun e s' hs => hs
    cases fl with
    | ret u =>
      obtain ⟨v, σ', H', J, rv, q⟩ := hs
      exact fin J rv q
    | next =>
      obtain ⟨σ', H', J, q⟩ := hs
      exact fin (v := V.non) (u := Value.none) J rfl q
    | brk => exact hs.elim fun _ ⟨_, _, z⟩ => z.elim
    | cont => exact hs.elim fun _ ⟨_, _, z⟩ => z.elim
end
section
variable {X : Cx} {k : Nat} {x : Str} {ps : List Str} {sp : Sp} {p pos : Pos} {e : Expr} {es : List Expr} {t : TA}
theorem pe_clG (o : OkG X.prog X.w X.K X.mg X.base k x ps sp) (hr : Room k X.A) (hgd : X.A.guards = some []) (ha : PA X (e :: es) t) (hg : Gl X x := by rfl) (hdb : (x == ("__debug__" : Str)) = false := by decide)
    (he : starEach (e :: es) X.env = (false, eval e X.env) :: starEach es X.env := by rfl) (hpl : ((backTo pos (starEach es X.env)).any fun x => x.1) = false := by rfl) : PE X (.Call (.Name x p) (e :: es) [] pos) (tCl sp t) := by
  obtain ⟨f, fd, F, hm, hk, hb, _⟩ := o
  refine ⟨fun pins s σ H Q I h => ?_⟩
  refine wpAny_Call_Name_kw (ld_glob I hg hm ?_ hdb)
  refine PySem.W.callWith_K (h₀ := X.base) I.ok.mod.kin hk (thn (ha.run pos pins s σ H _ I h) fun us s1 hh => ?_) he hpl
  obtain ⟨vs, H1, I1, r, q⟩ := hh
  refine ⟨I1.kIn, ?_⟩
  have hl : us.length = ps.length := by rw [← r.length]; exact F.arity _ _ _ _ q
  have bt := hb s1 us I1.kIn (by rw [List.append_nil]; exact hl)
  rw [List.append_nil] at bt
  refine wpAny_call (codeAny_mono (F.go X.A X.stack s1 H1 ⟨us, []⟩ us vs Q E0 hr hgd I1.env0 bt r q) fun r s' hq => ?_)
  match r, hq with
  | .error _, hq => exact hq.elim
  | .ok (.ret _), hq => exact I1.after hq
  | .ok .next, hq => exact False.elim hq
  | .ok .brk, hq => exact False.elim hq
  | .ok .cont, hq => exact False.elim hq
end
end Ro

/-! RoEnter: the law's own call, entered with no guard around. -/
namespace Ro
open PySem PySem.Spec PyProof.Rows L2
section
variable {P : Program} {w : World} {K : PySem.W.Frag} {mg mb : Str → Option Value} {k : Nat} {fa a : Addr} {fd : FuncData} {x : Str} {sp : Sp} {s1 : Shared} {vs : List Value} {ns : List Int}
/-- what is said of the law's call -/
abbrev Good1 (P : Program) (w : World) (fa a : Addr) (s1 : Shared) : Prop :=
  codeAny (model P w) callerA (.call (.ref fa) ⟨[.ref a], []⟩) (fun r s' => r = .ok (.ret (.bool true)) ∧ OldK s1.heap s'.heap ∧ s'.os = s1.os ∧ AllBare s'.gens) s1
theorem enterG (KX : K.In s1.heap) (hns : s1.heap.Ns mainGlobals mg) (hb : s1.heap.Ns builtinsNs mb) (hbb : ∀ x : Str, x ≠ "__name__" → mb x = bootBuiltins x) (hlim : s1.heap.NoLimit) (hg : s1.gens = #[])
    (ha : s1.heap.get? a = some { cls := .type "list", data := .seq vs.toArray }) (hr : Room k callerA)
    (F : ∀ base : Heap, K.In base → base.Ns mainGlobals mg → FnOkG P w K mg base k fa fd [x] sp) (hbind : ∀ (s : Shared) (u : Value), BindsTo s fd ⟨[u], []⟩ [(x, u)])
    (H : Hp) (hO : Only H) (hq : sp [.ref a] H (fun v _ => v = .bl true) E0) (hok : HOk P w H s1.heap) (hA : ∀ b, H b ≠ none → b = a ∧ K.lookup a = none) : Good1 P w fa a s1 := by
  -- what the base keeps
  have kept : ∀ {b : Addr} {o : Obj}, s1.heap.get? b = some o → H b = none → (hidT s1.heap H).get? b = some o := fun e n => hidT_get e n
  have spare : ∀ {b : Addr}, (b = a → False) → H b = none := fun {b} h => Classical.byContradiction fun z => h (hA b z).1
  have nsK : ∀ {b : Addr} {m : Str → Option Value}, s1.heap.Ns b m → (hidT s1.heap H).Ns b m := fun {b m} ⟨o, es, ep, e, d, r⟩ => ⟨o, es, ep, kept e (spare fun z => by
    rw [z, ha] at e
    cases e
    exact nomatch (show Data.seq vs.toArray _ = Data.dict es ep from d)), d, r⟩
  have hKb : K.In (hidT s1.heap H) := fun b o e => kept (KX b o e) (Classical.byContradiction fun z => by
    obtain ⟨rfl, z2⟩ := hA b z
    rw [z2] at e; cases e)
  have hM : Mod K mg (hidT s1.heap H) := ⟨hKb, nsK hns, ⟨mb, nsK hb, hbb⟩, hlim.elim fun mc h => ⟨mc, nsK h.1, h.2⟩⟩
  have e0 : Env0 P w K mg (hidT s1.heap H) callerA [] s1 H := by
    refine ⟨rfl, hM, fun b o e => of_hidT e, Nat.le_of_eq (hidT_size _ _), trivial, fun b hb => ?_, hok, .of_eq hg⟩
    exact absurd (show b ∈ ([] : List Addr) from hb) List.not_mem_nil
  refine codeAny_mono ((F _ hKb (nsK hns)).go callerA [] s1 H ⟨[.ref a], []⟩ [.ref a] [.ref a] _ _ hr rfl e0 (hbind s1 (.ref a)) (.cons rfl .nil) hq) fun r s' h => ?_
  match r, h with
  | .error _, h => exact h.elim
  | .ok .next, h => exact False.elim h
  | .ok .brk, h => exact False.elim h
  | .ok .cont, h => exact False.elim h
  | .ok (.ret u), h =>
    obtain ⟨v, H', os, bare, un, hok', rv, hv⟩ := h
    subst hv
    obtain rfl : u = Value.bool true := rv
    refine ⟨rfl, OldK.of_keep fun b o e => ?_, os, bare⟩
    rcases hO b with z | ⟨ob, ys, z⟩
    · exact un.keep b o e z (fun y => absurd (show b ∈ ([] : List Addr) from y) List.not_mem_nil) (by simp)
    · have q1 := (hok b _ z).1
      have q2 := (hok' b _ (un.frzs b ob _ z)).1
      rw [e] at q1
      cases q1
      exact q2
/-- the same, the abstract heap told -/
theorem law_callG (KX : K.In s1.heap) (hns : s1.heap.Ns mainGlobals mg) (hb : s1.heap.Ns builtinsNs mb) (hbb : ∀ x : Str, x ≠ "__name__" → mb x = bootBuiltins x) (hlim : s1.heap.NoLimit) (hg : s1.gens = #[])
    (ha : s1.heap.get? a = some { cls := .type "list", data := .seq vs.toArray }) (hi : IntsAre vs ns) (hl : ns.length ≤ sizeLine) (hr : Room k callerA)
    (F : ∀ base : Heap, K.In base → base.Ns mainGlobals mg → FnOkG P w K mg base k fa fd [x] sp) (hbind : ∀ (s : Shared) (u : Value), BindsTo s fd ⟨[u], []⟩ [(x, u)])
    (hsp : ∀ H : Hp, Only H → SqL K H a (ns.map V.int) → sp [.ref a] H (fun v _ => v = .bl true) E0) : Good1 P w fa a s1 := by
  have rv := vals_ints hi
  have lv := hi.length
  cases hk : K.lookup a with
  | some o =>
    have e := KX a o hk
    rw [ha] at e
    cases e
    have hO : Only fun _ => none := fun _ => .inl rfl
    refine enterG KX hns hb hbb hlim hg ha hr F hbind (fun _ => none) hO (hsp _ hO (.inr ⟨_, vs.toArray, _, hk, rfl, rfl, rfl, ?_, by simpa using rv⟩)) (fun b u z => nomatch (show (none : Option HO) = some u from z)) fun b z => absurd rfl z
    rw [List.size_toArray, lv]
    exact hl
  | none =>
    have hO : Only fun b => if b = a then some (.frz { cls := .type "list", data := .seq vs.toArray } (.lst (ns.map V.int))) else none := fun b => by
      by_cases hb : b = a
      · exact .inr ⟨_, _, if_pos hb⟩
      · exact .inl (if_neg hb)
    refine enterG KX hns hb hbb hlim hg ha hr F hbind _ hO (hsp _ hO (.inl (.inr ⟨{ cls := .type "list", data := .seq vs.toArray }, if_pos rfl⟩))) (fun b u z => ?_) fun b z => ⟨Classical.byContradiction fun hb => z (if_neg hb), hk⟩
    by_cases hb : b = a
    · cases (if_pos hb).symm.trans z
      subst hb
      refine ⟨ha, ?_, vs, _, rv, ha⟩
      rw [List.length_map]
      exact hl
    · exact nomatch (if_neg hb).symm.trans z
end
open PySem.W in
/-- the head -/
theorem walkG {l : OpenLaw} {n k : Nat} {q : Program} {loose : List Str} {XP : (Str → Option Value) → Heap → Prop} {YP : World → Heap → Prop} {d : DefRec} {K : Params → Frag} {sp : Frag → Sp} {x : Str}
    (hn : l.most = some n) (hn2 : n ≤ sizeLine) (hdf : d.params.defaults = []) (hr : Room k callerA) (hY : ∀ (w : World) (h : Heap), YP w h → (K w.params).In h)
    (F : ∀ (w : World) (mg : Str → Option Value) (fa : Addr) (h : Heap), (K w.params).In h → h.Ns mainGlobals mg → mg d.name = some (.ref fa) →
      ∃ fd : FuncData, (∀ (s : Shared) (u : Value), BindsTo s fd ⟨[u], []⟩ [(x, u)]) ∧ ∀ base : Heap, (K w.params).In base → base.Ns mainGlobals mg → FnOkG l.prog w (K w.params) mg base k fa fd [x] (sp (K w.params)))
    (hsp : ∀ (K : Frag) (H : Hp) (a : Addr) (ns : List Int), ns.length ≤ n → Only H → SqL K H a (ns.map V.int) → sp K [.ref a] H (fun v _ => v = .bl true) E0) :
    WalkO q loose XP YP l.row.toRowW d [] (fun f vs => PySem.call f vs) := by
  refine Att.attach_call hn hdf fun w s₀ s₁ mg mb fa o pm cd doc a vs ns G Y _ _ _ hmg hobj hints hlen hg => ?_
  obtain ⟨fd, hb, hF⟩ := F w mg fa _ (hY w _ Y) G.T.g hmg
  exact law_callG (hY w _ Y) G.T.g G.T.b G.T.builtins G.T.nolimit hg hobj hints (Nat.le_trans hlen hn2) hr hF hb fun H hO hS => hsp _ H a ns hlen hO hS
end Ro

/-! RoEnum: enumerate(tuple) as what a comprehension goes over; a tuple or none of it. -/
namespace Ro
open PySem PySem.Spec PyProof.Rows L2

set_option maxHeartbeats 1000000 in
theorem meets_enum1 {v : Value} {o : Obj} {Hh : Heap → Prop} (B : Begins v o Hh) :
    Meets (Builtin.«enumerate.__new__» ⟨[.type "enumerate", v], []⟩) (fun _ R s => Hh s.heap ∧
      R (.ok (.ret (.ref (s.heap.push o).objs.size))) { s with heap := (s.heap.push o).push { cls := .type "enumerate", data := .fields #[.none, .bool false, .ref s.heap.objs.size, rawInt 0, .none, .none] } }) :=
  .of_wp fun prog w A R s hh => by
    obtain ⟨hp, g, d, tk, os⟩ := s
    obtain ⟨h1, hR⟩ := hh
    have hsub := sub_enumerate
    have it1 : ∀ {A1 : Around} {E1 : Value → Shared → Prop} {Q1 : Value → Shared → Prop}, Q1 (.ref hp.objs.size) ⟨hp.push o, g, d, tk, os⟩ → wpAny (model prog w) A1 (pyIter v) Q1 E1 ⟨hp, g, d, tk, os⟩ :=
      fun q => B.iter prog w _ _ ⟨hp, g, d, tk, os⟩ _ h1 q
    wp_walk using it1
    refine wpAny_stack_any fun st => wpAny_pure ?_
    split
    · rename_i c _ _ _ _ _
      cases (c == Value.type "enumerate")
      all_goals (wp_walk using it1; exact ⟨_, rfl, hR⟩)
    · wp_walk using it1
      exact ⟨_, rfl, hR⟩
theorem enum1 {prog : Program} {w : World} {A : Around} {E : Value → Shared → Prop} {s : Shared} {v : Value} {o : Obj} {Hh : Heap → Prop} {Q : Value → Shared → Prop} (B : Begins v o Hh) (h1 : Hh s.heap)
    (h : ∀ h', IsEnum h' (s.heap.objs.size + 1) s.heap.objs.size 0 .none → h'.get? s.heap.objs.size = some o → (∀ b ob, s.heap.get? b = some ob → h'.get? b = some ob) → Q (.ref (s.heap.objs.size + 1)) { s with heap := h' }) :
    wpAny (model prog w) A (call (.type "enumerate") [v]) Q E s := by
  refine callType_new F.called_enumerate (by decide) (F.typeCall_enumerate_1 _) (F.newCall_enumerate_1 _) (fun obj => F.args_object_init_2 obj _) F.entry_enumerate_new (meets_enum1 B) ⟨h1, ?_⟩
  have hz : (s.heap.push o).objs.size = s.heap.objs.size + 1 := Heap.size_push ..
  show _ ∧ _
  rw [hz]
  have he := Heap.get?_push_size (s.heap.push o) (o := { cls := .type "enumerate", data := .fields #[.none, .bool false, .ref s.heap.objs.size, rawInt 0, .none, .none] }) rfl
  rw [hz] at he
  exact ⟨⟨_, he, rfl⟩, h _ he (Heap.get?_push_of_some _ (Heap.get?_push_size _ B.free)) fun b ob x => Heap.get?_push_of_some _ (Heap.get?_push_of_some _ x)⟩
/-- the tuple at a, each item in a new pair with its place -/
def IteT (K : PySem.W.Frag) (a : Addr) : It where
  go := fun i H => ∃ (xs : List V) (x : V), SqT K H a xs ∧ xs[i]? = some x
  yld := fun i H v H' => ∃ T x, v = .ref T ∧ H T = none ∧ H' = upd H T (.tup [.int (i : Nat), x]) ∧ ∀ xs, SqT K H a xs → xs[i]? = some x
  stop := fun i H => ∃ xs : List V, SqT K H a xs ∧ xs.length = i
theorem apart_it {h : Heap} {a it : Addr} {i : Nat} {its : Array Value} (p : IsTup h a its) (q : h.IsTupleIter it a i) : a ≠ it := fun z => by
  obtain ⟨o, e1, c1, _⟩ := p
  obtain ⟨o2, e2, c2, _⟩ := q
  rw [z, e2] at e1
  cases e1
  rw [c1] at c2
  injection c2 with c2
  exact absurd c2 (by decide)
theorem apart_en {h : Heap} {a e it : Addr} {i : Int} {old : Value} {its : Array Value} (p : IsTup h a its) (q : IsEnum h e it i old) : e ≠ a := fun z => by
  obtain ⟨o, e1, c1, _⟩ := p
  have q' := q
  unfold IsEnum at q'
  rw [z, e1] at q'
  cases q'
  injection c1 with c1
  exact absurd c1 (by decide)
theorem turn_enumT {P : Program} {w : World} {K : PySem.W.Frag} {elts : List Expr} {kk : Nat} {tpos : Pos} (a en it : Addr) :
    Turn P w K (.Tuple elts kk tpos) (IteT K a) [en, it] en (fun i h => (∃ old, IsEnum h en it ((i : Nat) : Int) old) ∧ h.IsTupleIter it a i ∧ en ≠ it) where
  mem := List.mem_cons_self
  obj := fun i h st b hb => by
    obtain ⟨⟨old, he⟩, ⟨o, ho, hc, hd⟩, _⟩ := st
    rcases List.mem_cons.mp hb with z | z
    · rw [z]; exact ⟨_, he, fun v q => nomatch q⟩
    · rw [List.mem_singleton.mp z]
      exact ⟨o, ho, fun v q => by rw [hd] at q; cases q⟩
  keep := fun i h h1 st kp => by
    obtain ⟨⟨old, he⟩, hi, hne⟩ := st
    exact ⟨⟨old, kp en List.mem_cons_self _ he⟩, hi.at fun o q => kp it (by simp) o q, hne⟩
  item := by
    intro X hP hw hK hc i pins s σ H E I hf st hg
    subst hP hw hK
    obtain ⟨⟨old, he⟩, hit, hne⟩ := st
    obtain ⟨xs, x, hq, hx⟩ := hg
    obtain ⟨its, rv, p, _⟩ := I.tuple hq
    obtain ⟨u, hu, ru⟩ := rv.get hx
    have hai := apart_it p hit
    have hea := apart_en p he
    have hel : en < s.heap.objs.size := Heap.lt_size he
    have hil : it < s.heap.objs.size := hit.elim fun _ q => Heap.lt_size q.1
    have hiu : its.toArray[i]? = some u := by simpa using hu
    have him : i < its.toArray.size := (Array.getElem?_eq_some_iff.mp hiu).1
    refine wpAny_pyNext_enum_itemD (Draws.tuple (prog := X.prog) (w := X.w) (A := X.A.in1) (I.ok.hd hc) it a hai its.toArray) he ⟨hit, p⟩ him hne (fun z => ?_) fun x1 h1 tk hP ho hst hT hsz kp => ?_
    · rcases List.mem_cons.mp z with z | z
      · exact hne z
      · exact hea (List.mem_singleton.mp z)
    obtain rfl : x1 = u := Option.some.inj (hP.symm.trans hiu)
    refine ⟨_, rfl, wpAny_letOwnedTupleGo_enum (s := { s with heap := h1, toks := tk + 1 }) ho fun h2 he2 sb => ?_⟩
    have hT2 : h2.get? s.heap.objs.size = some { cls := .type "tuple", data := .seq #[.int i tk, x1] } := (sb.2 _ (Nat.ne_of_gt hel)).trans hT
    have new : ObjOk X.prog X.w (upd H s.heap.objs.size (.tup [.int (i : Nat), x])) h2 s.heap.objs.size (.tup [.int (i : Nat), x]) :=
      ⟨by show 2 ≤ sizeLine; rw [sizeLine_eq]; decide, [.int i tk, x1], .cons ⟨_, rfl⟩ (.cons ru .nil), ⟨_, hT2, rfl, _, rfl⟩⟩
    have stays : ∀ (b : Addr) (ob : Obj), b ∉ [en, it] → s.heap.get? b = some ob → h2.get? b = some ob := fun b ob hb q => by
      have b1 : b ≠ en := fun z => hb (by simp [z])
      exact (sb.2 b b1).trans (kp b ob b1 (fun z => hb (by simp [z])) q)
    have I1 : Inv X pins σ (upd H s.heap.objs.size (.tup [.int (i : Nat), x])) { s with heap := h2, toks := tk + 1 } := I.turnedNew (ch := [en, it]) stays hf (Nat.le_refl _) new
    refine ⟨.ref s.heap.objs.size, _, I1, rfl, ⟨_, x, rfl, I.hok.fresh (Nat.le_refl _), rfl, fun ys hy => (I.tuple_inj hy hq) ▸ hx⟩, ⟨⟨x1, ?_⟩, hst.1.at fun o q => (sb.2 it (Ne.symm hne)).trans q, hne⟩, fun b hb => ?_⟩
    · rw [show ((i + 1 : Nat) : Int) = (i : Int) + 1 by omega]
      exact he2
    · have hb2 : b < s.heap.objs.size := by
        rcases List.mem_cons.mp hb with z | z
        · exact z ▸ hel
        · rw [List.mem_singleton.mp z]; exact hil
      rw [upd_ne (Nat.ne_of_lt hb2)]
      exact (hf b hb).1
  done := by
    intro X hP hw hK hc i pins s σ H E I hf st hg
    subst hP hw hK
    obtain ⟨⟨old, he⟩, hit, hne⟩ := st
    obtain ⟨xs, hq, hx⟩ := hg
    obtain ⟨its, rv, p, _⟩ := I.tuple hq
    have hi : i = its.toArray.size := by
      rw [List.size_toArray, ← rv.length]; exact hx.symm
    obtain ⟨f0, f1, f2, f3, f4, f5⟩ := hf it (by simp)
    refine wpAny_pyNext_enum_endD (Draws.tuple (prog := X.prog) (w := X.w) (A := X.A.in1) (I.ok.hd hc) it a (apart_it p hit) its.toArray) he ⟨hi ▸ hit, p⟩ fun h1 kp => ⟨rfl, ?_⟩
    exact I.turned (t' := s.toks) (fun b o hb q => kp b o hb q) f0 f1 f3 f4 f5
  self := fun A i s Q E st h => st.1.elim fun _ he => wpAny_pyIter_enum he h
def iEnumT (K : PySem.W.Frag) (ta : TA) : TI := fun σ H R => ta σ H fun vs H1 => ∃ a xs, vs = [.ref a] ∧ SqT K H1 a xs ∧ R (IteT K a) H1
theorem pi_enumT {X : Cx} {e : Expr} {ta : TA} {p pos tpos : Pos} {elts : List Expr} {kk : Nat} (hg : Gl X "enumerate") (hm : X.mg "enumerate" = none) (ha : PA X [e] ta) (hs : starEach [e] X.env = [(false, eval e X.env)] := by rfl) :
    PI X (.Tuple elts kk tpos) (.Call (.Name "enumerate" p) [e] [] pos) (iEnumT X.K ta) := by
  refine ⟨fun pins s σ H R I h => wpAny_Call_Name_kw (ld_blt I hg hm bt_enumerate (PyProof.Rows.callWith_type1 (thn (ha.run pos pins s σ H _ I h) fun us s1 hh => ?_) hs rfl))⟩
  obtain ⟨vs, H1, I1, r1, a, xs, ex, hq, q⟩ := hh
  subst ex
  obtain ⟨u, rfl, rx⟩ := vals1 r1
  obtain rfl : u = Value.ref a := rx
  obtain ⟨its, rv, p1, _⟩ := I1.tuple hq
  refine enum1 (begins_tuple a its.toArray) p1 fun h1 he ho kp => wpAny_pyIter_enum he ?_
  have fresh : ∀ b ∈ [s1.heap.objs.size + 1, s1.heap.objs.size], s1.heap.objs.size ≤ b := fun b hb => by
    rcases List.mem_cons.mp hb with z | z
    · rw [z]; exact Nat.le_add_right _ _
    · rw [List.mem_singleton.mp z]; exact Nat.le_refl _
  exact ⟨s1.heap.objs.size + 1, [s1.heap.objs.size + 1, s1.heap.objs.size], _, _, H1, rfl, I1.kept (t' := s1.toks) kp, turn_enumT a (s1.heap.objs.size + 1) s1.heap.objs.size, ⟨⟨.none, he⟩, ⟨_, ho, rfl, rfl⟩, Nat.succ_ne_self _⟩,
    fun b hb => I1.fpOk (fresh b hb) (I1.hok.fresh (fresh b hb)), q⟩
theorem walk_enumT {K : PySem.W.Frag} {a : Addr} {xs : List V} : Walk (IteT K a) xs.length (fun H => SqT K H a xs) (YPair (fun i => some (.int (i : Nat))) (fun i => xs[i]?)) := by
  refine ⟨fun i _ hi q => ⟨xs, xs[i], q, List.getElem?_eq_getElem hi⟩, fun _ q => ⟨xs, q, rfl⟩, fun i H v H' _ q y => ?_⟩
  obtain ⟨T, x, h1, h2, h3, h4⟩ := y
  exact ⟨T, .int (i : Nat), x, h1, h2, h3, rfl, h4 xs q⟩

/-! ### the tuple where it is short, else none of it -/
section
variable {X : Cx} {c b : Expr} {pos p : Pos}
end
end Ro

/-! RoLaw9: what _law_right rests on, plain. -/
namespace Ro
open PySem PySem.Spec PyProof.Rows L2

theorem leP_lt {p q : Pr} (h : leP p q = true) (ne : p.1 ≠ q.1) : p.1.cps.toList < q.1.cps.toList := by
  have e : leP p q = !PySem.W.dataLt (.tuple [.str q.1, .int q.2]) (.tuple [.str p.1, .int p.2]) := rfl
  rw [e, PySem.W.dataLt_pair (by simp [PySem.W.alike]) (by simp [PySem.W.alike])] at h
  have ev : PyData.eqv (.str q.1) (.str p.1) = false := by
    simp only [PyData.eqv, beq_eq_false_iff_ne]
    exact Ne.symm ne
  rw [ev, if_neg Bool.false_ne_true, PySem.W.dataLt_str] at h
  have h1 : ¬ q.1.cps.toList < p.1.cps.toList := by simpa using h
  have h2 := List.not_lt.mp h1
  refine Classical.byContradiction fun h3 => ne ?_
  have e1 := List.le_antisymm h2 (List.not_lt.mp h3)
  have e2 : p.1.cps = q.1.cps := Array.toList_inj.mp e1
  exact congrArg Str.mk e2
theorem spL_sorted (l : Lg) : (spL l).Pairwise fun a b => leP a b = true :=
  (PySem.W.sort_pairwise (PySem.W.sortLe_total (listOrd itemOrd) false fun b => PySem.W.keyToks (encP b)) l).imp fun h => h
theorem cells_spL (l : Lg) : (cells (spL l)).Perm (cells l) := (spL_perm l).map _
theorem spL_ok {l : Lg} (hp : ∀ p ∈ l, PrOk p) (hn : (cells l).Nodup) (hl : l.length ≤ 1000) : LgOk (spL l) := by
  refine ⟨fun p h => hp p ((spL_perm l).mem_iff.mp h), fun i p q h1 h2 => ?_, by rw [(spL_perm l).length_eq]; exact hl⟩
  obtain ⟨l1, e1⟩ := List.getElem?_eq_some_iff.mp h1
  obtain ⟨l2, e2⟩ := List.getElem?_eq_some_iff.mp h2
  have ps := List.pairwise_iff_getElem.mp (spL_sorted l) i (i + 1) l1 l2 (Nat.lt_succ_self i)
  rw [e1, e2] at ps
  refine leP_lt ps fun z => ?_
  have nd : (cells (spL l)).Nodup := (cells_spL l).nodup_iff.mpr hn
  have := List.pairwise_iff_getElem.mp nd i (i + 1) (by simpa [cells] using l1) (by simpa [cells] using l2) (Nat.lt_succ_self i)
  rw [List.getElem_map, List.getElem_map, e1, e2] at this
  exact this z
theorem get_spL {l : Lg} (hn : (cells l).Nodup) (c : Str) : get (spL l) c = get l c := get_perm hn (spL_perm l).symm c
/-- each log with one more pair, told by its place -/
def withZ (z : Str) (f : Nat → Int) (F : Fm) : Fm := F.mapIdx fun i l => spL (l ++ [(z, f i)])
theorem withZ_len (z : Str) (f : Nat → Int) (F : Fm) : (withZ z f F).length = F.length := by unfold withZ; rw [List.length_mapIdx]
theorem withZ_at {z : Str} {f : Nat → Int} {F : Fm} {i : Nat} {l : Lg} (h : F[i]? = some l) : (withZ z f F)[i]? = some (spL (l ++ [(z, f i)])) := by
  unfold withZ
  rw [List.getElem?_mapIdx, h]; rfl
theorem withZ_mem {z : Str} {f : Nat → Int} {F : Fm} {m : Lg} (h : m ∈ withZ z f F) : ∃ i l, F[i]? = some l ∧ m = spL (l ++ [(z, f i)]) := by
  obtain ⟨i, hi⟩ := List.mem_iff_getElem?.mp h
  unfold withZ at hi
  rw [List.getElem?_mapIdx] at hi
  cases e : F[i]? with
  | none => rw [e] at hi; cases hi
  | some l => rw [e] at hi; exact ⟨i, l, e, (Option.some.inj hi).symm⟩
structure RtOk (F : Fm) (N : List Str) : Prop where
  g : GOk F
  sub : ∀ l ∈ F, ∀ c ∈ cells l, c ∈ N
  few : N.length ≤ 11
  lg : ∀ l ∈ F, LgOk l
section
variable {F : Fm} {N : List Str} (h : RtOk F N)
include h
theorem RtOk.len : ∀ l ∈ F, l.length ≤ 11 := fun l hl => by
  have := len_le_of_sub (h.g.fm.nd l hl) (h.sub l hl)
  rw [List.length_map] at this
  exact Nat.le_trans this h.few
theorem RtOk.nd1 {z : Str} (hz : z ∉ N) {l : Lg} (hl : l ∈ F) (v : Int) : (cells (l ++ [(z, v)])).Nodup := by
  unfold cells
  rw [List.map_append]
  refine List.nodup_append.mpr ⟨h.g.fm.nd l hl, List.pairwise_singleton _ _, fun a ha b hb e => hz ?_⟩
  have e2 : b = z := List.mem_singleton.mp hb
  have e3 : a = z := e.trans e2
  exact e3 ▸ h.sub l hl a ha
theorem RtOk.fm1 {z : Str} (hz : z ∉ N) (hc : CellOk z) {f : Nat → Int} (hf : ∀ i, i < 60 → 0 ≤ f i ∧ f i ≤ 1000000000) : FmOk (withZ z f F) := by
  refine ⟨fun e => h.g.fm.ne (List.length_eq_zero_iff.mp ?_), by rw [withZ_len]; exact h.g.fm.le, fun m hm => ?_⟩
  · rw [← withZ_len z f F, e]; rfl
  · obtain ⟨i, l, hi, rfl⟩ := withZ_mem hm
    have hl := List.mem_of_getElem? hi
    have h60 : i < 60 := Nat.lt_of_lt_of_le (List.getElem?_eq_some_iff.mp hi).1 h.g.fm.le
    refine ⟨(cells_spL _).nodup_iff.mpr (h.nd1 hz hl _), ?_, fun p hp => ?_⟩
    · rw [(spL_perm _).length_eq, List.length_append, List.length_singleton]
      have := h.len l hl
      omega
    · rcases List.mem_append.mp ((spL_perm _).mem_iff.mp hp) with hp | hp
      · exact (h.g.fm.wf l hl).2.2 p hp
      · rw [List.mem_singleton.mp hp]
        exact ⟨hc, hf i h60⟩
theorem RtOk.sub1 {z : Str} {f : Nat → Int} : ∀ m ∈ withZ z f F, ∀ c ∈ cells m, c ∈ N ++ [z] := fun m hm c hc => by
  obtain ⟨i, l, hi, rfl⟩ := withZ_mem hm
  have hc := (cells_spL _).mem_iff.mp hc
  unfold cells at hc
  rw [List.map_append] at hc
  rcases List.mem_append.mp hc with hc | hc
  · exact List.mem_append_left _ (h.sub l (List.mem_of_getElem? hi) c hc)
  · exact List.mem_append_right _ hc
theorem RtOk.goodC {z : Str} (hz : z ∉ N) (v : Int) : Good (withZ z (fun _ => v) F) := by
  have e : withZ z (fun _ => v) F = F.map fun l => spL (l ++ [(z, v)]) := by
    unfold withZ
    exact List.ext_getElem (by simp) fun i h1 h2 => by simp
  rw [e]
  refine h.g.good.ext _ fun l hl c hc => ?_
  rw [get_spL (h.nd1 hz hl v), get_app]
  obtain ⟨u, hu⟩ := Option.isSome_iff_exists.mp (get_isSome.mpr hc)
  rw [hu]; rfl
theorem RtOk.getZ {z : Str} (hz : z ∉ N) {l : Lg} (hl : l ∈ F) (v : Int) : get (spL (l ++ [(z, v)])) z = some v := by
  rw [get_spL (h.nd1 hz hl v), get_app]
  have : get l z = none := get_none.mpr fun q => hz (h.sub l hl z q)
  rw [this]
  show get [(z, v)] z = some v
  unfold get
  rw [if_pos rfl]
theorem RtOk.goodI {z : Str} (hz : z ∉ N) : Good (withZ z (fun i => (i : Int)) F) := by
  refine .of_apart z (fun m hm => ?_) (List.pairwise_iff_getElem.mpr fun i j hi hj hij => ?_)
  · obtain ⟨i, l, hi, rfl⟩ := withZ_mem hm
    rw [← get_isSome, h.getZ hz (List.mem_of_getElem? hi)]; rfl
  · have l1 : i < F.length := by rw [withZ_len] at hi; exact hi
    have l2 : j < F.length := by rw [withZ_len] at hj; exact hj
    have q1 := withZ_at (z := z) (f := fun i => (i : Int)) (List.getElem?_eq_getElem l1)
    have q2 := withZ_at (z := z) (f := fun i => (i : Int)) (List.getElem?_eq_getElem l2)
    rw [(List.getElem?_eq_some_iff.mp q1).2, (List.getElem?_eq_some_iff.mp q2).2, h.getZ hz (List.getElem_mem l1), h.getZ hz (List.getElem_mem l2)]
    intro e
    injection e with e
    omega
end
/-- a count's text is short -/
theorem C_log {F : Fm} {U : List Str} (hF : GOk F) (hU : ∀ l ∈ F, ∀ c ∈ cells l, c ∈ U) (hUl : U.length ≤ 12) : (((C 16 F [] : Nat) : Int)).natAbs.log2 < 1920 := by
  rw [Int.natAbs_natCast]
  exact Nat.lt_of_lt_of_le (PySem.Flt.log2_lt_of (by decide) (Nat.lt_of_le_of_lt (root_of hF hU hUl).node.small (pow_small hF.fm.le))) (by decide)
theorem orders_le {F : Fm} {l : Lg} (h : FmOk F) (hl : l ∈ F) : orders F l ≤ fact 16 := by
  rw [orders_Oc]
  refine Nat.le_trans (Oc_le _ F l [] h.nd hl rfl) (fact_mono ?_)
  rw [rem_nil]
  exact h.len l hl
theorem orders_small {F : Fm} (h : FmOk F) (h5 : F.length < 5) (i : Nat) : prod ((F.take i).map (orders F)) < 2 ^ 3000 := by
  have h1 : prod ((F.take i).map (orders F)) ≤ fact 16 ^ (F.take i).length := prod_le_pow fun l hl => orders_le h (List.mem_of_mem_take hl)
  have h2 : (F.take i).length ≤ 4 := by rw [List.length_take]; omega
  have h3 : fact 16 ^ (F.take i).length ≤ fact 16 ^ 4 := Nat.pow_le_pow_right (fact_pos 16) h2
  have h4 : fact 16 ^ 4 < 2 ^ 200 := by decide +kernel
  have h5 : (2 : Nat) ^ 200 ≤ 2 ^ 3000 := Nat.pow_le_pow_right (by decide) (by decide)
  omega
end Ro

set_option maxHeartbeats 4000000
/-! RoRight: _law_right. -/
namespace Ro
open PySem PySem.Spec PyProof.Rows L2

theorem pe_imp {X : Cx} {e : Expr} {t t' : TE} (h : PE X e t) (k : ∀ σ H Q, t' σ H Q → t σ H Q) : PE X e t' := ⟨fun pins s σ H Q I q => h.run pins s σ H Q I (k σ H Q q)⟩
theorem bF {c : Bool} {A B : Prop} (h : c = false) (q : B) : if c = true then A else B := by
  rw [h, if_neg Bool.false_ne_true]
  exact q
theorem bT {c : Bool} {A B : Prop} (h : c = true) (q : A) : if c = true then A else B := by
  rw [h, if_pos rfl]
  exact q
theorem bB {c : Bool} {A B : Prop} (q : B) (f : c = true → B → A) : if c = true then A else B := by
  cases c with
  | false => rw [if_neg Bool.false_ne_true]; exact q
  | true => rw [if_pos rfl]; exact f rfl q
/-- the last part of an entry: sorted, as a tuple -/
theorem entry_tail {K : PySem.W.Frag} {H0 H : Hp} {xs : List V} {l : Lg} {Kt : VK} {p : Addr} (hl : l.length ≤ 1000) (hp : Pt H p xs) (tx : TvAll H xs (l.map encP))
    (q : ∀ (r : Addr) (zs : List V) (H' : Hp), Kp Nil H H' → Pt H' r zs → TvAll H' zs ((spL l).map encP) → Kt (.ref r) H') :
    rSortV K [.ref p] H fun u H1 => rTupP K [u] H1 Kt := by
  have xl : xs.length = l.length := tx.len
  refine ⟨p, xs, _, rfl, .inr hp.sqt, tx, sortOk_pairs l (by rw [sizeLine_eq]; omega), fun sp zs nsp tz => ⟨sp, zs, rfl, SqL.of upd_same, fun r o nr hc hd => ?_⟩⟩
  rw [sort_map] at tz
  have kk : Kp Nil H (upd (upd H sp (.lst zs)) r (.frz o (.tup zs))) := (Kp.new Kp.refl nsp).new nr
  exact q r zs _ kk (Pt.new hc hd) (tz.keep kk)
/-- and of a family -/
theorem fam_end {H : Hp} {F : Fm} {sp r : Addr} {zs : List V} {o : Obj} (nsp : H sp = none) (nr : (upd H sp (.lst zs)) r = none) (hc : o.cls = .type "tuple") (hd : o.dict = none) (tz : TvAll H zs ((F.map encL).mergeSort (PySem.W.dataLe false id))) :
    ∃ G : Fm, Kp Nil H (upd (upd H sp (.lst zs)) r (.frz o (.tup zs))) ∧ Tv (upd (upd H sp (.lst zs)) r (.frz o (.tup zs))) (.ref r) (encF G) ∧ G.Perm F := by
  rw [sort_map] at tz
  have kk : Kp Nil H (upd (upd H sp (.lst zs)) r (.frz o (.tup zs))) := (Kp.new Kp.refl nsp).new nr
  exact ⟨_, kk, .tup (Pt.new hc hd) (tz.keep kk), List.mergeSort_perm _ _⟩
theorem FmOk.perm {F G : Fm} (h : FmOk F) (p : G.Perm F) : FmOk G :=
  ⟨fun e => h.ne (by rw [e] at p; exact List.nil_perm.mp p), by rw [p.length_eq]; exact h.le, fun l hl => h.wf l (p.mem_iff.mp hl)⟩
theorem RtOk.gok {F G : Fm} {N : List Str} {z : Str} {f : Nat → Int} (h : RtOk F N) (hz : z ∉ N) (hc : CellOk z) (hf : ∀ i, i < 60 → 0 ≤ f i ∧ f i ≤ 1000000000) (hg : Good (withZ z f F)) (p : G.Perm (withZ z f F)) :
    GOk G ∧ (∀ l ∈ G, ∀ c ∈ cells l, c ∈ N ++ [z]) ∧ (N ++ [z]).length ≤ 12 := by
  refine ⟨⟨(h.fm1 hz hc hf).perm p, hg.perm p.symm⟩, fun l hl => h.sub1 l (p.mem_iff.mp hl), ?_⟩
  have := h.few
  rw [List.length_append, List.length_singleton]
  omega
theorem withZ_ne {z : Str} {f : Nat → Int} {F : Fm} : ∀ l ∈ withZ z f F, l ≠ [] := fun m hm e => by
  obtain ⟨i, l, _, rfl⟩ := withZ_mem hm
  have := (spL_perm (l ++ [(z, f i)])).length_eq
  rw [e] at this
  simp at this
/-- the tuple in slot i where it has fewer than n items, else () -/
def tFew (i n : Nat) : TE := fun σ H Q => ∃ a ys, σ[i]? = some (some (.ref a)) ∧ Pt H a ys ∧ ∀ b H' zs, Kp Nil H H' → Pt H' b zs → (ys.length < n → zs = ys) → (¬ ys.length < n → zs = []) → Q (.ref b) H'
section
variable {P : Program} {w : World} {K : PySem.W.Frag} {mg : Str → Option Value} {base : Heap}
def spRight (K : PySem.W.Frag) : Sp := fun vs H Q _ => ∃ (x v : V) (a : Addr) (F : Fm) (N : List Str), vs = [x, v, .ref a] ∧ Tv H v (encF F) ∧ SqL K H a (N.map V.str) ∧ RtOk F N ∧ (∃ m, ∀ c ∈ N, c.length = m) ∧ RV H Q (.bl true)
theorem ok_law_right (D : Df K mg "_law_right" s_law_right p_law_right) (B : Bu mg) (ocr : Ok P w K mg base 28 "count_readers" p_count_readers spCount) (osum : Ok P w K mg base 29 "_law_sum" p_law_sum spCount)
    (oor : Ok P w K mg base 9 "count_orders" p_count_orders spOrders) (oab : Ok P w K mg base 1 "_law_absent" p_law_absent (spAbsent K)) : OkG P w K mg base 30 "_law_right" p_law_right (spRight K) := by
  refine D.okG sc_law_right (fun vs H Q E h => ?_) fun f cdv A outer s H vs Q E hr hgd h => ?_
  · obtain ⟨x, v, a, F, N, rfl, _⟩ := h
    rfl
  · obtain ⟨x, v, a, F, N, rfl, hv, ha, hR, hm, q⟩ := h
    have hu := hr.units
    refine ⟨_, pss_cons (ps_par (i := 3) (j := 4) rfl sc_law_right.nd rfl rfl (by decide) rfl rfl (pa_cons (pe_cl ocr (hr.mono (by decide)) (pa_cons (pv 1) pa_nil)) (pa_cons pe_int pa_nil)) (by rfl))
      (pss_cons (ps_if (PW.pt (pw_or (pt_cmpR op_ne (pe_callB SkE.call_repr_int (by rfl) B.repr bt_repr (pa_cons (pv 3) pa_nil)) (pe_callB SkE.call_repr_int (by rfl) B.repr bt_repr (pa_cons (pe_cl osum hr (pa_cons (pv 1) pa_nil)) pa_nil)) (nomark _))
        (pw_or1 (pt_cmpR op_lt (pv 3) pe_int (nomark _))))) pss_never pss_nil)
      (pss_cons (ps_for PassesOwn.never rfl (pi_tup (pe_imp (t' := tFew 1 5) (pe_ifExp (pt_cmpR op_lt (pe_callB (lenQ K) (by rfl) B.len bt_len (pa_cons (pv 1) pa_nil)) pe_int (nomark _)) (pv 1) (pe_tupP pa_nil)) fun σ H Q h => ?few)) (pg_name (i := 5) sc_law_right.nd rfl (.inl rfl))
        (pss_one (ps_set (i := 4) sc_law_right.nd rfl (.inl rfl) (pe_op op_mulW (pv 4) (pe_cl oor (hr.mono (by decide)) (pa_cons (pv 1) (pa_cons (pv 5) pa_nil)))))))
      (pss_cons (ps_if (PW.pt (pw_or (PW.pt (pw_and (pt_cmpR op_lt (pe_callB (lenQ K) (by rfl) B.len bt_len (pa_cons (pv 1) pa_nil)) pe_int (nomark _)) (pw_and1 (pt_cmpR op_gt (pv 3) (pv 4) (nomark _)))))
        (pw_or1 (PW.pt (pw_and (pt_cmpR op_eq (pe_callB (lenQ K) (by rfl) B.len bt_len (pa_cons (pv 1) pa_nil)) pe_int (nomark _)) (pw_and1 (pt_cmpR op_ne (pv 3) (pv 4) (nomark _)))))))) pss_never pss_nil)
      (pss_cons (ps_set (i := 6) sc_law_right.nd rfl (.inr rfl) (pe_cl oab (hr.mono (by decide)) (pa_cons (pv 2) pa_nil)))
      (pss_cons (ps_set (i := 7) sc_law_right.nd rfl (.inl rfl) (pe_callTy (tupQ K) (by rfl) B.tuple bt_tuple (pa_cons (pe_callB (sortQ K hu) (by rfl) B.sorted bt_sorted (pa_cons
        (pe_lc (own := [("_law_entry", 5)]) (g := gName 5) (tt := tYes) rfl sc_law_right.nd (pi_tup (pv 1)) (blkOk_by (N := n_law_right) (sc := defScope s_law_right) (by decide +kernel))
          (fun _ _ _ _ _ => pg_name (i := 5) sc_law_right.nd rfl (.inl rfl)) (fun _ _ _ _ _ => pts_nil)
          (fun _ _ _ _ _ => pe_callTy (tupQ K) (by rfl) B.tuple bt_tuple (pa_cons (pe_callB (sortQ K hu) (by rfl) B.sorted bt_sorted (pa_cons (pe_op op_catPt (pv 5) (pe_tupP (pa_cons (pe_tupP (pa_cons (pv 6) (pa_cons pe_int pa_nil))) pa_nil))) pa_nil)) pa_nil))) pa_nil)) pa_nil)))
      (pss_cons (ps_set (i := 8) sc_law_right.nd rfl (.inl rfl) (pe_callTy (tupQ K) (by rfl) B.tuple bt_tuple (pa_cons (pe_callB (sortQ K hu) (by rfl) B.sorted bt_sorted (pa_cons
        (pe_lc (own := [("_law_at", 9), ("_law_entry", 5)]) (g := gTup K 2 (gCons (gName 9) (gCons (gName 5) gNil))) (tt := tYes) rfl sc_law_right.nd (pi_enumT (by rfl) B.enumerate (pa_cons (pv 1) pa_nil)) (blkOk_by (N := n_law_right) (sc := defScope s_law_right) (by decide +kernel))
          (fun _ _ _ _ _ => pg_tup rfl (pgs_cons (pg_name (i := 9) sc_law_right.nd rfl (.inl rfl)) (pgs_cons (pg_name (i := 5) sc_law_right.nd rfl (.inl rfl)) pgs_nil))) (fun _ _ _ _ _ => pts_nil)
          (fun _ _ _ _ _ => pe_callTy (tupQ K) (by rfl) B.tuple bt_tuple (pa_cons (pe_callB (sortQ K hu) (by rfl) B.sorted bt_sorted (pa_cons (pe_op op_catPt (pv 5) (pe_tupP (pa_cons (pe_tupP (pa_cons (pv 6) (pa_cons (pv 9) pa_nil))) pa_nil))) pa_nil)) pa_nil))) pa_nil)) pa_nil))) (pss_one (ps_ret (pe_cmpR op_eq (pe_callB (cr_repr2 hgd hu) (by rfl) B.repr bt_repr (pa_cons (pe_lst (pa_cons (pe_cl ocr (hr.mono (by decide)) (pa_cons (pv 7) pa_nil)) (pa_cons (pe_cl ocr (hr.mono (by decide)) (pa_cons (pv 8) pa_nil)) pa_nil))) pa_nil)) (pe_callB (cr_repr2 hgd hu) (by rfl) B.repr bt_repr (pa_cons (pe_lst (pa_cons (pe_cl osum hr (pa_cons (pv 7) pa_nil)) (pa_cons (pe_cl osum hr (pa_cons (pv 8) pa_nil)) pa_nil))) pa_nil)) (nomark _)))))))))), ?_⟩
    case few =>
      obtain ⟨b, ys, e, hp, k⟩ := h
      refine ⟨_, e, b, ys, rfl, .inr hp.sqt, _, _, rfl, rfl, _, rfl, ?_⟩
      show if decide (((ys.length : Nat) : Int) < 5) = true then _ else _
      by_cases h5 : ys.length < 5
      · rw [decide_eq_true (by omega)]
        exact iteT ⟨_, e, k b H ys Kp.refl hp (fun _ => rfl) fun z => absurd h5 z⟩
      · rw [decide_eq_false (by omega)]
        exact iteF ⟨Nat.zero_le _, fun t o n hc hd => k t _ [] (Kp.new Kp.refl n) (Pt.new hc hd) (fun z => absurd z h5) fun _ => rfl⟩
    have hU12 : N.length ≤ 12 := Nat.le_succ_of_le hR.few
    have hlogF := C_log hR.g hR.sub hU12
    refine ⟨_, rfl, v, F, N, rfl, hv, hR.g, hR.sub, hU12, fun H1 k1 => ⟨_, _, rfl, ?_⟩⟩
    refine ⟨_, rfl, _, rfl, hlogF, v, rfl, v, F, N, rfl, hv.keep k1, hR.g, hR.sub, hU12, fun H2 k2 => ⟨_, rfl, hlogF, rfl, _, rfl, ?_⟩⟩
    refine bF (by simp) ⟨_, rfl, _, _, rfl, rfl, _, rfl, bF (decide_eq_false ?_) ?_⟩
    · have := C_pos 16 F [] hR.g.good (fun c hc => by cases hc) hR.g.fm.ne fun l hl => by rw [rem_nil]; exact hR.g.fm.len l hl
      omega
    obtain ⟨va, ys, rfl, hpv, hTv⟩ := hv.tuple
    have hys : ys.length = F.length := hTv.len
    have k12 := k1.trans k2
    refine ⟨va, ys, rfl, hpv.keep k12, fun b H3 zs k3 hz z1 z2 => ⟨b, rfl, ⟨zs, hz.sqt⟩, ?_⟩⟩
    have k13 := k12.trans k3
    have hzs : zs = ys ∨ zs = [] := by
      by_cases h5 : ys.length < 5
      · exact .inl (z1 h5)
      · exact .inr (z2 h5)
    refine for_it (walk_tup (xs := zs)) (fun i σ H4 => (∃ (mo : Int) (y5 : Option V), σ = [some x, some (.ref va), some (.ref a), some (.int ((C 16 F [] : Nat) : Int)), some (.int mo), y5, none, none, none, none] ∧ mo = ((prod ((F.take i).map (orders F)) : Nat) : Int)) ∧ Kp Nil H3 H4)
      ⟨⟨_, _, rfl, rfl⟩, Kp.refl⟩ (fun _ _ _ _ h => (hz.keep h.2).sqt) (fun i u σ H4 H4' hi hP y => ?_) fun σ H4 hP => ?_
    · obtain ⟨rfl, hx⟩ := y
      obtain ⟨⟨mo, y5, rfl, rfl⟩, k4⟩ := hP
      have h5 : F.length < 5 := by
        refine Classical.byContradiction fun z => ?_
        rw [z2 (by omega)] at hi
        exact absurd hi (Nat.not_lt_zero _)
      rw [z1 (by omega)] at hx
      obtain ⟨l, hl1, tv⟩ := hTv.at hx
      have hl := List.mem_of_getElem? hl1
      have k14 := k13.trans k4
      refine ⟨_, rfl, _, rfl, _, rfl, .ref va, u, F, l, rfl, hv.keep k14, tv.keep k14, hR.g, hl, hR.lg l hl, Nat.le_succ_of_le (hR.len l hl), fun H5 k5 => ⟨_, _, rfl, rfl, mulW_nat (orders_small hR.g.fm h5 i) ?_, ⟨_, _, rfl, ?_⟩, k4.trans k5⟩⟩
      · have := orders_small hR.g.fm h5 (i + 1)
        refine Nat.lt_of_le_of_lt (orders_le hR.g.fm hl) (Nat.lt_of_lt_of_le (show fact 16 < 2 ^ 200 by decide +kernel) (Nat.pow_le_pow_right (by decide) (by decide)))
      · rw [take_snoc hl1, List.map_append, prod_append, ← Int.natCast_mul]
        congr 1
        show _ = _ * (_ * 1)
        rw [Nat.mul_one]
    obtain ⟨⟨mo, y5, rfl, hmo⟩, k4⟩ := hP
    have hmo5 : F.length < 5 → mo = ((prod (F.map (orders F)) : Nat) : Int) := fun h5 => by
      rw [hmo, z1 (by omega), hys, List.take_length]
    have k14 := k13.trans k4
    refine ⟨_, rfl, va, ys, rfl, .inr (hpv.keep k14).sqt, _, _, rfl, rfl, _, rfl, bB ?_ fun hc hB => ⟨_, rfl, _, rfl, _, _, rfl, rfl, _, rfl, ?_⟩⟩
    rotate_left
    · have h5 : F.length < 5 := by
        have := of_decide_eq_true hc
        omega
      have hle := count_le_orders hR.g.fm.ne hR.g.fm.nd (n := 16) hR.g.fm.len
      have hd : decide (mo < ((C 16 F [] : Nat) : Int)) = false := decide_eq_false (by have := hmo5 h5; omega)
      rw [hd]
      exact hB
    refine bF rfl ⟨_, rfl, va, ys, rfl, .inr (hpv.keep k14).sqt, rfl, _, rfl, bB ?_ fun hc hB => ⟨_, rfl, _, rfl, rfl, _, rfl, ?_⟩⟩
    rotate_left
    · have h1 : F.length = 1 := by
        have : V.int ((ys.length : Nat) : Int) = V.int 1 := of_decide_eq_true hc
        injection this with this
        omega
      have hd : (!decide (V.int ((C 16 F [] : Nat) : Int) = V.int mo)) = false := by
        have hm5 := hmo5 (by omega)
        obtain ⟨l, el⟩ : ∃ l, F = [l] := List.length_eq_one_iff.mp h1
        have e1 : C 16 F [] = prod (F.map (orders F)) := by
          rw [el]
          have := count_one_orders (n := 16) (hR.g.fm.nd l (by rw [el]; exact List.mem_cons_self)) (hR.g.fm.len l (by rw [el]; exact List.mem_cons_self))
          rw [this]
          exact (Nat.mul_one _).symm
        rw [hm5, ← e1, decide_eq_true rfl]
        rfl
      rw [hd]
      exact hB
    refine bF rfl ⟨_, rfl, a, N, rfl, k14.sql ha fun z => z, hm, fun z hzN hzc H5 k5 => ?_⟩
    have k15 := k14.trans k5
    have l60 := hR.g.fm.le
    refine ⟨_, rfl, va, rfl, ⟨ys, (hpv.keep k15).sqt⟩, fun D1 n1 => ?_⟩
    refine lc_acc (walk_tup (xs := ys)) n1 (S := Nil) (fun z => z) (by omega) (fun i H ws => TvAll H ws (((withZ z (fun _ => 7) F).take i).map encL)) .nil (fun _ _ _ _ e t => TvAll.atD e t) (fun _ k => ((hpv.keep k15).keep k).sqt) (fun i u H6 H6' ws hi k6 e6 a6 y Kt Kf ht hf => ?_) fun H6 ws k6 e6 a6 => ?_
    · obtain ⟨rfl, hx⟩ := y
      obtain ⟨l, hl1, tv⟩ := hTv.at hx
      obtain ⟨al, ps, rfl, hpl, hTl⟩ := (tv.keep (k15.trans k6)).tuple
      have hps : ps.length = l.length := hTl.len
      have hl11 := hR.len l (List.mem_of_getElem? hl1)
      refine ⟨rfl, yes_go ⟨_, rfl, _, rfl, by show 2 ≤ sizeLine; rw [sizeLine_eq]; decide, fun q1 o1 nq1 hc1 hd1 => ⟨by show 1 ≤ sizeLine; rw [sizeLine_eq]; decide, fun q2 o2 nq2 hc2 hd2 => ?_⟩⟩⟩
      have kq1 : Kp Nil H6' (upd H6' q1 (.frz o1 (.tup [.str z, .int 7]))) := Kp.new Kp.refl nq1
      have kq2 : Kp Nil (upd H6' q1 (.frz o1 (.tup [.str z, .int 7]))) (upd (upd H6' q1 (.frz o1 (.tup [.str z, .int 7]))) q2 (.frz o2 (.tup [.ref q1]))) := Kp.new Kp.refl nq2
      have kq := kq1.trans kq2
      refine ⟨al, q2, ps, _, rfl, rfl, hpl.keep kq, Pt.new hc2 hd2, by rw [sizeLine_eq]; show ps.length + 1 ≤ _; omega, fun dq H7 k7 hdq => ?_⟩
      refine entry_tail (H0 := H7) (l := l ++ [(z, 7)]) (by rw [List.length_append, List.length_singleton]; omega) hdq ?_ fun r zs H8 k8 hr8 tz => ?_
      · rw [List.map_append]
        exact ((hTl.keep kq).keep k7).append (.cons ((Tv.pair ((Pt.new hc1 hd1).keep kq2)).keep k7) .nil)
      · refine ht _ _ (kq.trans (k7.trans k8)) ?_
        rw [take_snoc (withZ_at (f := fun _ => 7) hl1), List.map_append]
        exact (a6.keep (kq.trans (k7.trans k8))).snoc (.tup hr8 tz)
    rw [show ys.length = (withZ z (fun _ => 7) F).length by rw [withZ_len]; exact hys, List.take_length] at a6
    refine ⟨D1, ws, _, rfl, .inl (SqL.of e6), a6, sortOk_logs _ (by rw [withZ_len, sizeLine_eq]; omega) (.inl withZ_ne), fun sp zs nsp tz => ⟨sp, zs, rfl, SqL.of upd_same, fun r7 o nr hc hd => ?_⟩⟩
    obtain ⟨G7, k7, t7, p7⟩ := fam_end nsp nr hc hd tz
    obtain ⟨H7, eH7, k7, t7⟩ : ∃ H7, H7 = upd (upd H6 sp (.lst zs)) r7 (.frz o (.tup zs)) ∧ Kp Nil H6 H7 ∧ Tv H7 (.ref r7) (encF G7) := ⟨_, rfl, k7, t7⟩
    rw [← eH7]
    obtain ⟨g7, s7, l7⟩ := hR.gok hzN hzc (fun _ _ => ⟨by decide, by decide⟩) (hR.goodC hzN 7) p7
    have k17 := (k15.trans k6).trans k7
    refine ⟨_, rfl, va, ys, rfl, (hpv.keep k17).sqt, fun D2 n2 => ?_⟩
    refine lc_acc (walk_enumT (xs := ys)) n2 (S := Nil) (fun z => z) (by omega) (fun i H ws => TvAll H ws (((withZ z (fun i => (i : Int)) F).take i).map encL)) .nil (fun _ _ _ _ e t => TvAll.atD e t) (fun _ k => ((hpv.keep k17).keep k).sqt) (fun i u H8 H8' ws hi k8 e8 a8 y Kt Kf ht hf => ?_) fun H8 ws k8 e8 a8 => ?_
    · obtain ⟨T, x1, y1, rfl, nT, rfl, hx1, hx⟩ := y
      obtain rfl := Option.some.inj hx1
      have kT : Kp Nil H8 (upd H8 T (.tup [.int (i : Nat), y1])) := Kp.new Kp.refl nT
      have eT : (upd H8 T (.tup [.int (i : Nat), y1])) T = some (.tup [.int (i : Nat), y1]) := upd_same
      obtain ⟨H9, eH9, k9, eT⟩ : ∃ H9, H9 = upd H8 T (.tup [.int (i : Nat), y1]) ∧ Kp Nil H8 H9 ∧ H9 T = some (.tup [.int (i : Nat), y1]) := ⟨_, rfl, kT, eT⟩
      rw [← eH9]
      obtain ⟨l, hl1, tv⟩ := hTv.at hx
      obtain ⟨al, ps, rfl, hpl, hTl⟩ := (tv.keep ((k17.trans k8).trans k9)).tuple
      have hps : ps.length = l.length := hTl.len
      have hl11 := hR.len l (List.mem_of_getElem? hl1)
      refine ⟨T, _, rfl, SqT.of eT, rfl, _, _, rfl, _, _, rfl, rfl, rfl, yes_go ⟨_, rfl, _, rfl, _, rfl, by show 2 ≤ sizeLine; rw [sizeLine_eq]; decide, fun q1 o1 nq1 hc1 hd1 => ⟨by show 1 ≤ sizeLine; rw [sizeLine_eq]; decide, fun q2 o2 nq2 hc2 hd2 => ?_⟩⟩⟩
      have kq1 : Kp Nil H9 (upd H9 q1 (.frz o1 (.tup [.str z, .int (i : Nat)]))) := Kp.new Kp.refl nq1
      have kq2 : Kp Nil (upd H9 q1 (.frz o1 (.tup [.str z, .int (i : Nat)]))) (upd (upd H9 q1 (.frz o1 (.tup [.str z, .int (i : Nat)]))) q2 (.frz o2 (.tup [.ref q1]))) := Kp.new Kp.refl nq2
      have kq := kq1.trans kq2
      refine ⟨al, q2, ps, _, rfl, rfl, hpl.keep kq, Pt.new hc2 hd2, by rw [sizeLine_eq]; show ps.length + 1 ≤ _; omega, fun dq H10 k10 hdq => ?_⟩
      refine entry_tail (H0 := H10) (l := l ++ [(z, (i : Int))]) (by rw [List.length_append, List.length_singleton]; omega) hdq ?_ fun r zs H11 k11 hr11 tz => ?_
      · rw [List.map_append]
        exact ((hTl.keep kq).keep k10).append (.cons ((Tv.pair ((Pt.new hc1 hd1).keep kq2)).keep k10) .nil)
      · refine ht _ _ (k9.trans (kq.trans (k10.trans k11))) ?_
        rw [take_snoc (withZ_at (f := fun i => (i : Int)) hl1), List.map_append]
        exact (a8.keep (k9.trans (kq.trans (k10.trans k11)))).snoc (.tup hr11 tz)
    rw [show ys.length = (withZ z (fun i => (i : Int)) F).length by rw [withZ_len]; exact hys, List.take_length] at a8
    refine ⟨D2, ws, _, rfl, .inl (SqL.of e8), a8, sortOk_logs _ (by rw [withZ_len, sizeLine_eq]; omega) (.inl withZ_ne), fun sp zs nsp tz => ⟨sp, zs, rfl, SqL.of upd_same, fun r8 o nr hc hd => ?_⟩⟩
    obtain ⟨G8, k9, t8, p8⟩ := fam_end nsp nr hc hd tz
    obtain ⟨H9, eH9, k9, t8⟩ : ∃ H9, H9 = upd (upd H8 sp (.lst zs)) r8 (.frz o (.tup zs)) ∧ Kp Nil H8 H9 ∧ Tv H9 (.ref r8) (encF G8) := ⟨_, rfl, k9, t8⟩
    rw [← eH9]
    obtain ⟨g8, s8, l8⟩ := hR.gok hzN hzc (fun i _ => ⟨by omega, by omega⟩) (hR.goodI hzN) p8
    have k79 := k8.trans k9
    have c7 := C_log g7 s7 l7
    have c8 := C_log g8 s8 l8
    refine ⟨_, rfl, .ref r7, G7, N ++ [z], rfl, t7.keep k79, g7, s7, l7, fun H10 k10 => ⟨_, rfl, .ref r8, G8, N ++ [z], rfl, t8.keep k10, g8, s8, l8, fun H11 k11 => ⟨by show 2 ≤ sizeLine; rw [sizeLine_eq]; decide, fun pa npa => ?_⟩⟩⟩
    have kpa : Kp Nil H11 (upd H11 pa (.lst [.int ((C 16 G7 [] : Nat) : Int), .int ((C 16 G8 [] : Nat) : Int)])) := Kp.new Kp.refl npa
    refine ⟨pa, _, _, rfl, SqL.of upd_same, c7, c8, ?_⟩
    have kk := (k10.trans k11).trans kpa
    refine ⟨_, rfl, .ref r7, G7, N ++ [z], rfl, (t7.keep k79).keep kk, g7, s7, l7, fun H12 k12 => ⟨_, rfl, .ref r8, G8, N ++ [z], rfl, (t8.keep kk).keep k12, g8, s8, l8, fun H13 k13 => ⟨by show 2 ≤ sizeLine; rw [sizeLine_eq]; decide, fun pb npb => ?_⟩⟩⟩
    have kpb : Kp Nil H13 (upd H13 pb (.lst [.int ((C 16 G7 [] : Nat) : Int), .int ((C 16 G8 [] : Nat) : Int)])) := Kp.new Kp.refl npb
    refine ⟨pb, _, _, rfl, SqL.of upd_same, c7, c8, rfl, ?_⟩
    rw [decide_eq_true rfl]
    exact q _ (((((k17.trans k79).trans kk).trans k12).trans k13).trans kpb)
end
end Ro

set_option maxHeartbeats 4000000
/-! RoTop1: the families that law makes, plain. -/
namespace Ro
open PySem PySem.Spec PyProof.Rows L2

theorem good_ne {F : Fm} (h : Good F) : (∀ l ∈ F, l ≠ []) ∨ F.length < 2 := by
  by_cases h2 : 2 ≤ F.length
  · obtain ⟨x, hx, _⟩ := h.splits h2
    refine .inl fun l hl e => ?_
    have := hx l hl
    rw [e] at this; cases this
  · exact .inr (by omega)
theorem td_apart {L : List Str} (h : L.Nodup) {q : Nat} (hq : q ≤ 8) {a : Str} (h1 : a ∈ L.take q) (h2 : a ∈ L.drop 8) : False := by
  have e : L.take 8 ++ L.drop 8 = L := List.take_append_drop 8 L
  rw [← e] at h
  have h3 : a ∈ L.take 8 := by
    rw [show L.take q = (L.take 8).take q by rw [List.take_take, Nat.min_eq_left hq]] at h1
    exact List.mem_of_mem_take h1
  exact (List.nodup_append.mp h).2.2 a h3 a h2 rfl
structure ExOk (L : List Str) (E : Lg) : Prop where
  nd : (cells E).Nodup
  sub : ∀ c ∈ cells E, c ∈ L.drop 8
  val : ∀ p ∈ E, 0 ≤ p.2 ∧ p.2 ≤ 1000000000
section
variable {L : List Str} {k q : Nat} {t : T Str} {F0 : Fm} {E : Lg} (hL : NamesOk L k) (hk : k ≤ 11) (hq : q ≤ 8) (ht : TOk 1000000000 (L.take q) t) (hF : F0.Perm ((tlogs t).map spL)) (hE : ExOk L E)
include hL hq ht hF hE
theorem fam_log : ∀ l ∈ F0, (cells (l ++ E)).Nodup ∧ (∀ c ∈ cells (l ++ E), c ∈ L) ∧ ∀ p ∈ l ++ E, 0 ≤ p.2 ∧ p.2 ≤ 1000000000 := fun l hl => by
  obtain ⟨m, hm, rfl⟩ := List.mem_map.mp (hF.mem_iff.mp hl)
  obtain ⟨h1, h2⟩ := tlogs_ok 1000000000 (L.take q) t ht m hm
  have hc : ∀ c ∈ cells (spL m), c ∈ L.take q := fun c hc => by
    obtain ⟨p, hp, rfl⟩ := List.mem_map.mp ((cells_spL m).mem_iff.mp hc)
    exact (h2 p hp).1
  have ec : cells (spL m ++ E) = cells (spL m) ++ cells E := by unfold cells; rw [List.map_append]
  refine ⟨?_, fun c hcc => ?_, fun p hp => ?_⟩
  · rw [ec]
    exact List.nodup_append.mpr ⟨(cells_spL m).nodup_iff.mpr h1, hE.nd, fun a ha b hb e => td_apart hL.nd hq (hc a ha) (e ▸ hE.sub b hb)⟩
  · rw [ec] at hcc
    rcases List.mem_append.mp hcc with h | h
    · exact List.mem_of_mem_take (hc c h)
    · exact List.mem_of_mem_drop (hE.sub c h)
  · rcases List.mem_append.mp hp with h | h
    · exact (h2 p ((spL_perm m).mem_iff.mp h)).2
    · exact hE.val p h
theorem fam_good0 : Good F0 := by
  refine Good.perm ?_ hF.symm
  refine (tlogs_good 1000000000 (L.take q) t ht).ext _ fun l hl c hc => ?_
  exact get_spL (tlogs_ok 1000000000 (L.take q) t ht l hl).1 c
theorem fam_good1 : Good (F0.map fun l => spL (l ++ E)) := by
  refine (fam_good0 hL hq ht hF hE).ext _ fun l hl c hc => ?_
  rw [get_spL (fam_log hL hq ht hF hE l hl).1, get_app]
  obtain ⟨u, hu⟩ := Option.isSome_iff_exists.mp (get_isSome.mpr hc)
  rw [hu]; rfl
include hk
theorem fam_ok (h60 : tleaves t ≤ 60) {G : Fm} (hG : G.Perm (F0.map fun l => spL (l ++ E))) : RtOk G L := by
  have hlen : F0.length = tleaves t := by rw [hF.length_eq, List.length_map, tlogs_length]
  have at_ : ∀ g ∈ G, ∃ l ∈ F0, g = spL (l ++ E) := fun g hg => by
    obtain ⟨l, hl, e⟩ := List.mem_map.mp (hG.mem_iff.mp hg)
    exact ⟨l, hl, e.symm⟩
  have nd : ∀ g ∈ G, (cells g).Nodup := fun g hg => by
    obtain ⟨l, hl, rfl⟩ := at_ g hg
    exact (cells_spL _).nodup_iff.mpr (fam_log hL hq ht hF hE l hl).1
  have sb : ∀ g ∈ G, ∀ c ∈ cells g, c ∈ L := fun g hg c hc => by
    obtain ⟨l, hl, rfl⟩ := at_ g hg
    exact (fam_log hL hq ht hF hE l hl).2.1 c ((cells_spL _).mem_iff.mp hc)
  have hLk := hL.len
  have ln : ∀ g ∈ G, g.length ≤ 11 := fun g hg => by
    have := len_le_of_sub (nd g hg) (sb g hg)
    rw [List.length_map] at this
    omega
  have pr : ∀ g ∈ G, ∀ p ∈ g, PrOk p := fun g hg p hp => by
    obtain ⟨l, hl, rfl⟩ := at_ g hg
    have hp' := (spL_perm _).mem_iff.mp hp
    refine ⟨hL.ok _ (sb _ hg p.1 (List.mem_map.mpr ⟨p, hp, rfl⟩)), ?_⟩
    exact (fam_log hL hq ht hF hE l hl).2.2 p hp'
  refine ⟨⟨⟨fun e => ?_, ?_, fun g hg => ⟨nd g hg, by have := ln g hg; omega, pr g hg⟩⟩, (fam_good1 hL hq ht hF hE).perm hG.symm⟩, sb, by omega, fun g hg => ?_⟩
  · have := hG.length_eq
    have := tleaves_pos ht
    rw [e, List.length_map] at *
    simp at *
    omega
  · rw [hG.length_eq, List.length_map]; omega
  · obtain ⟨l, hl, rfl⟩ := at_ g hg
    have h1 := fam_log hL hq ht hF hE l hl
    refine spL_ok (fun p hp => pr _ hg p ((spL_perm _).mem_iff.mpr hp)) h1.1 ?_
    have := ln _ hg
    rw [(spL_perm _).length_eq] at this
    omega
end
end Ro

set_option maxHeartbeats 4000000
/-! RoTop2: law. -/
namespace Ro
open PySem PySem.Spec PyProof.Rows L2
def mxI (z : Int) : Int := if (if z < 3 then z else 3) > 1 then (if z < 3 then z else 3) else 1
theorem mxI_in (z : Int) : 1 ≤ mxI z ∧ mxI z ≤ 3 := by
  unfold mxI
  by_cases h : z < 3
  · rw [if_pos h]
    by_cases h2 : z > 1
    · rw [if_pos h2]; omega
    · rw [if_neg h2]; omega
  · rw [if_neg h]; decide
theorem cut_any (xs : List V) (a b : Nat) : cutV xs (some (a : Int)) (some (b : Int)) = (xs.drop a).take (b - a) := by
  unfold cutV
  rw [HT.sIx_nat, HT.sIx_nat]
  by_cases h : a ≤ xs.length
  · rw [Nat.min_eq_left h]
    by_cases h2 : b ≤ xs.length
    · rw [Nat.min_eq_left h2]
    · rw [Nat.min_eq_right (by omega), List.take_of_length_le (by rw [List.length_drop]; exact Nat.le_refl _), List.take_of_length_le (by rw [List.length_drop]; omega)]
  · rw [show min a xs.length = xs.length from Nat.min_eq_right (by omega), List.drop_of_length_le (Nat.le_refl _), List.drop_of_length_le (by omega), List.take_nil, List.take_nil]
theorem cut_head (xs : List V) (b : Nat) : cutV xs none (some (b : Int)) = xs.take b := by
  have e : cutV xs none (some (b : Int)) = cutV xs (some ((0 : Nat) : Int)) (some (b : Int)) := by
    unfold cutV
    rw [HT.sIx_none, HT.sIx_nat, HT.sIx_nat, Nat.zero_min]
  rw [e, cut_any, List.drop_zero, Nat.sub_zero]
section
variable {P : Program} {w : World} {K : PySem.W.Frag} {mg : Str → Option Value} {base : Heap}
def spLaw (K : PySem.W.Frag) : Sp := fun vs H Q _ => ∃ (a : Addr) (ns : List Int), vs = [.ref a] ∧ SqL K H a (ns.map V.int) ∧ ns.length ≤ 63 ∧ ∀ H', Q (.bl true) H'
theorem ok_law (D : Df K mg "law" s_law p_law) (B : Bu mg) (ob : Ok P w K mg base 1 "_law_box" p_law_box (spBox K)) (ot : Ok P w K mg base 1 "_law_take" p_law_take spTake) (oc : Ok P w K mg base 3 "_law_cells" p_law_cells spCells)
    (otr : Ok P w K mg base 11 "_law_tree" p_law_tree (spTree K 8)) (ole : Ok P w K mg base 1 "_law_leaves" p_law_leaves spLeaves) (ori : OkG P w K mg base 30 "_law_right" p_law_right (spRight K)) (ofan : Ok P w K mg base 29 "_law_fan_right" p_law_fan_right spFan) :
    OkG P w K mg base 31 "law" p_law (spLaw K) := by
  refine D.okG sc_law (fun vs H Q E h => ?_) fun f cdv A outer s H vs Q E hr hgd h => ?_
  · obtain ⟨a, ns, rfl, _⟩ := h
    rfl
  · obtain ⟨a, ns, rfl, ha, hns, q⟩ := h
    have hu := hr.units
    refine ⟨_, pss_cons (ps_for PassesOwn.never rfl (pi_range1 (by rfl) B.range (pa_cons (pe_callB (call_max2 rfl) (by rfl) B.max bt_max (pa_cons pe_int (pa_cons (pe_callB (call_min2 rfl) (by rfl) B.min bt_min (pa_cons pe_int (pa_cons (pe_callB (lenQ K) (by rfl) B.len bt_len (pa_cons (pv 0) pa_nil)) pa_nil))) pa_nil))) pa_nil)) (pg_name (i := 1) sc_law.nd rfl (.inl rfl))
        (pss_cons (ps_set (i := 2) sc_law.nd rfl (.inr rfl) (pe_cl ob (hr.mono (by decide)) (pa_cons (pv 0) (pa_cons (pv 1) pa_nil))))
        (pss_cons (ps_set (i := 3) sc_law.nd rfl (.inl rfl) (pe_cl oc (hr.mono (by decide)) (pa_cons (pv 2) (pa_cons (pe_op op_add pe_int (pe_cl ot (hr.mono (by decide)) (pa_cons (pv 2) (pa_cons pe_int pa_nil)))) pa_nil))))
        (pss_cons (ps_set (i := 4) sc_law.nd rfl (.inl rfl) (pe_cl ole (hr.mono (by decide)) (pa_cons (pe_cl otr (hr.mono (by decide)) (pa_cons (pv 2)
          (pa_cons (pe_slice sl_list (pv 3) po_none (po_some (pe_op op_add pe_int (pe_cl ot (hr.mono (by decide)) (pa_cons (pv 2) (pa_cons pe_int pa_nil))))))
          (pa_cons (pe_ix (ixL K) (pe_lst (pa_cons pe_int (pa_cons pe_int (pa_cons pe_int pa_nil)))) (pe_cl ot (hr.mono (by decide)) (pa_cons (pv 2) (pa_cons pe_int pa_nil))) (fun _ _ => rfl)) pa_nil)))) pa_nil)))
        (pss_cons (ps_set (i := 5) sc_law.nd rfl (.inr rfl) (pe_callTy (tupQ K) (by rfl) B.tuple bt_tuple (pa_cons
          (pe_lc (own := [("_law_name", 6)]) (g := gName 6) (tt := tYes) rfl sc_law.nd (pi_list (pe_slice sl_list (pv 3) (po_some pe_int) (po_some (pe_op op_add pe_int (pe_cl ot (hr.mono (by decide)) (pa_cons (pv 2) (pa_cons pe_int pa_nil))))))) (blkOk_by (N := n_law) (sc := defScope s_law) (by decide +kernel))
            (fun _ _ _ _ _ => pg_name (i := 6) sc_law.nd rfl (.inl rfl)) (fun _ _ _ _ _ => pts_nil) (fun _ _ _ _ _ => pe_tupP (pa_cons (pv 6) (pa_cons (pe_cl ot (hr.mono (by decide)) (pa_cons (pv 2) (pa_cons pe_int pa_nil))) pa_nil)))) pa_nil)))
        (pss_cons (ps_set (i := 4) sc_law.nd rfl (.inl rfl) (pe_callTy (tupQ K) (by rfl) B.tuple bt_tuple (pa_cons (pe_callB (sortQ K hu) (by rfl) B.sorted bt_sorted (pa_cons
          (pe_lc (own := [("_law_entry", 7)]) (g := gName 7) (tt := tYes) rfl sc_law.nd (pi_tup (pv 4)) (blkOk_by (N := n_law) (sc := defScope s_law) (by decide +kernel))
            (fun _ _ _ _ _ => pg_name (i := 7) sc_law.nd rfl (.inl rfl)) (fun _ _ _ _ _ => pts_nil)
            (fun _ _ _ _ _ => pe_callTy (tupQ K) (by rfl) B.tuple bt_tuple (pa_cons (pe_callB (sortQ K hu) (by rfl) B.sorted bt_sorted (pa_cons (pe_op op_catPt (pv 7) (pv 5)) pa_nil)) pa_nil))) pa_nil)) pa_nil)))
        (pss_one (ps_if (PW.pt (pw_or (pt_not (pt_val (pe_clG ori hr hgd (pa_cons (pv 2) (pa_cons (pv 4) (pa_cons (pv 3) pa_nil)))))) (pw_or1 (pt_not (pt_val (pe_cl ofan (hr.mono (by decide)) (pa_cons (pv 2) pa_nil))))))) pss_never pss_nil))))))))
      (pss_one (ps_ret pe_bl)), ?_⟩
    have hmx := mxI_in (((ns.map V.int).length : Nat) : Int)
    refine ⟨_, rfl, a, _, rfl, .inl ha, _, _, rfl, _, _, rfl, mxI (((ns.map V.int).length : Nat) : Int), rfl, by omega, by omega, ?_⟩
    generalize mxI (((ns.map V.int).length : Nat) : Int) = mx at hmx ⊢
    refine for_range (lo := 0) (n := mx.toNat) (fun i σ H1 => (∃ y1 y2 y3 y4 y5 y6 y7 : Option V, σ = [some (.ref a), y1, y2, y3, y4, y5, y6, y7]) ∧ Kp Nil H H1) ⟨⟨none, none, none, none, none, none, none, rfl⟩, Kp.refl⟩ (fun i σ H1 hi hP => ?_) fun σ H1 hP => q H1
    obtain ⟨⟨y1, y2, y3, y4, y5, y6, y7, rfl⟩, k1⟩ := hP
    refine ⟨_, rfl, _, rfl, a, ns, i, by rw [Int.zero_add], k1.sql ha (fun z => z), by omega, fun b H2 k2 nb hB => ?_⟩
    refine ⟨_, rfl, _, rfl, b, 6, 0, rfl, by decide, by decide, hB, by decide, fun r H3 r0 r1 k3 hB3 => ?_⟩
    obtain ⟨t, rfl⟩ : ∃ t : Nat, r = t := ⟨r.toNat, by omega⟩
    refine ⟨_, _, rfl, rfl, b, 6 + t, 1, by show [V.ref b, V.int (6 + (t : Int))] = _; rw [show (6 : Int) + (t : Int) = ((6 + t : Nat) : Int) by omega], by omega, hB3, by decide, fun p H4 L k4 np e4 hL hB4 => ?_⟩
    have hLl := hL.len
    have pb : p ≠ b := fun z => by
      obtain ⟨ob, hob⟩ := hB3.there
      rw [z, hob] at np; cases np
    have kb4 : Kp (One b) H2 H4 := k3.trans k4
    refine ⟨_, rfl, _, rfl, _, rfl, b, 3, 21, rfl, by decide, by decide, hB4, by decide, fun r H5 r0 r1 k5 hB5 => ?_⟩
    obtain ⟨u, rfl⟩ : ∃ u : Nat, r = u := ⟨r.toNat, by omega⟩
    have e5 := k5.keep _ _ e4 pb
    refine ⟨_, _, rfl, rfl, _, rfl, p, _, rfl, SqL.of e5, fun fr nfr => ⟨by show 3 ≤ sizeLine; rw [sizeLine_eq]; decide, fun pl npl => ?_⟩⟩
    rw [show (5 : Int) + (u : Int) = ((5 + u : Nat) : Int) by omega, cut_head, ← List.map_take] at npl ⊢
    have kfr : Kp Nil H5 (upd H5 fr (.lst ((L.take (5 + u)).map V.str))) := Kp.new Kp.refl nfr
    have kpl : Kp Nil (upd H5 fr (.lst ((L.take (5 + u)).map V.str))) (upd (upd H5 fr (.lst ((L.take (5 + u)).map V.str))) pl (.lst [.int 4, .int 12, .int 30])) := Kp.new Kp.refl npl
    have efr := kpl.keep _ _ (upd_same (H := H5) (a := fr) (o := .lst ((L.take (5 + u)).map V.str))) fun z => z
    obtain ⟨H6, eH6, k6, efr, epl⟩ : ∃ H6, H6 = upd (upd H5 fr (.lst ((L.take (5 + u)).map V.str))) pl (.lst [.int 4, .int 12, .int 30]) ∧ Kp Nil H5 H6 ∧ H6 fr = some (.lst ((L.take (5 + u)).map V.str)) ∧ H6 pl = some (.lst [.int 4, .int 12, .int 30]) := ⟨_, rfl, kfr.trans kpl, efr, upd_same⟩
    rw [← eH6]
    have hB6 := hB5.keep0 k6
    have frb : fr ≠ b := fun z => by
      obtain ⟨ob, hob⟩ := hB5.there
      rw [z, hob] at nfr; cases nfr
    have plb : pl ≠ b := fun z => by
      obtain ⟨ob, hob⟩ := (hB5.keep0 kfr).there
      rw [z, hob] at npl; cases npl
    refine ⟨_, rfl, b, 3, 22, rfl, by decide, by decide, hB6, by decide, fun r H7 r0 r1 k7 hB7 => ?_⟩
    obtain ⟨bud, hat, hbud⟩ : ∃ bud : Nat, atI [V.int 4, V.int 12, V.int 30] r = some (.int (bud : Nat)) ∧ bud ≤ 30 := by
      have hr3 : r = 0 ∨ r = 1 ∨ r = 2 := by omega
      rcases hr3 with rfl | rfl | rfl
      · exact ⟨4, atI_nat (j := 0) rfl, by decide⟩
      · exact ⟨12, atI_nat (j := 1) rfl, by decide⟩
      · exact ⟨30, atI_nat (j := 2) rfl, by decide⟩
    refine ⟨pl, _, r, _, rfl, rfl, SqL.of (k7.keep _ _ epl plb), hat, b, fr, bud, 23, L.take (5 + u), rfl, SqL.of (k7.keep _ _ efr frb), frb, hL.nd.sublist (List.take_sublist _ _), by rw [List.length_take]; omega, fun c hc => hL.ok c (List.mem_of_mem_take hc), by decide, hB7, by decide, fun v H8 tr k8 tv hTO hlv hB8 => ?_⟩
    have hl60 : tleaves tr ≤ 60 := by omega
    refine ⟨v, tr, L.take (5 + u), rfl, tv, hTO, fun c hc => hL.ok c (List.mem_of_mem_take hc), by rw [List.length_take]; omega, hl60, fun u9 H9 F0 k9 t9 p9 => ?_⟩
    have hB9 : BoxAt H9 b 50000 := (hB8.keep0 k9).le (by decide)
    have k59 : Kp (One b) H4 H9 := (((k5.trans k6.nil).trans k7).trans k8).trans k9.nil
    have e9 := k59.keep _ _ e4 pb
    obtain ⟨va, fs, rfl, hpF, hTF⟩ := t9.tuple
    have hfs : fs.length = F0.length := hTF.len
    have hF0 : F0.length ≤ 60 := by rw [p9.length_eq, List.length_map, tlogs_length]; exact hl60
    refine ⟨_, rfl, _, rfl, _, rfl, b, 3, 50000, rfl, by decide, by decide, hB9, by decide, fun r H10 r0 r1 k10 hB10 => ?_⟩
    obtain ⟨j, rfl⟩ : ∃ j : Nat, r = j := ⟨r.toNat, by omega⟩
    have hcut : cutV (L.map V.str) (some (8 : Int)) (some ((8 : Int) + (j : Int))) = ((L.drop 8).take j).map V.str := by
      rw [show (8 : Int) + (j : Int) = ((8 + j : Nat) : Int) by omega]
      have h := cut_any (L.map V.str) 8 (8 + j)
      rw [show ((8 : Nat) : Int) = (8 : Int) from rfl] at h
      rw [h, Nat.add_sub_cancel_left, ← List.map_drop, ← List.map_take]
    have e10 := k10.keep _ _ e9 pb
    refine ⟨_, _, rfl, rfl, _, rfl, p, _, rfl, SqL.of e10, fun fr2 nfr2 => ?_⟩
    rw [hcut]
    have kf2 : Kp Nil H10 (upd H10 fr2 (.lst (((L.drop 8).take j).map V.str))) := Kp.new Kp.refl nfr2
    obtain ⟨H11, eH11, k11, e11⟩ : ∃ H11, H11 = upd H10 fr2 (.lst (((L.drop 8).take j).map V.str)) ∧ Kp Nil H10 H11 ∧ H11 fr2 = some (.lst (((L.drop 8).take j).map V.str)) := ⟨_, rfl, kf2, upd_same⟩
    rw [← eH11]
    have fr2b : fr2 ≠ b := fun z => by
      obtain ⟨ob, hob⟩ := hB10.there
      rw [z, hob] at nfr2; cases nfr2
    have hB11 := hB10.keep0 k11
    obtain ⟨X, eX⟩ : ∃ X, X = (L.drop 8).take j := ⟨_, rfl⟩
    rw [← eX] at e11
    have hXl : X.length ≤ 2 := by rw [eX, List.length_take]; omega
    have hXs : ∀ c ∈ X, c ∈ L.drop 8 := fun c hc => by rw [eX] at hc; exact List.mem_of_mem_take hc
    have hXn : X.Nodup := by rw [eX]; exact (hL.nd.sublist (List.drop_sublist 8 L)).sublist (List.take_sublist j _)
    refine ⟨fr2, rfl, ⟨_, SqL.of e11⟩, fun D1 n1 => ?_⟩
    have D1b : D1 ≠ b := fun z => by
      obtain ⟨ob, hob⟩ := hB11.there
      rw [z, hob] at n1; cases n1
    refine lc_acc (walk_list (xs := X.map V.str)) n1 (S := One b) D1b (by rw [List.length_map]; omega) (fun i H ys => BoxAt H b (50001 + i) ∧ ∃ E : Lg, TvAll H ys (E.map encP) ∧ cells E = X.take i ∧ ∀ p ∈ E, 0 ≤ p.2 ∧ p.2 ≤ 1000000000) ⟨hB11.keep0 (Kp.new Kp.refl n1), [], .nil, rfl, fun p hp => by cases hp⟩
      (fun i H ys zs e h => ⟨h.1.atD e (Ne.symm D1b), h.2.elim fun E g => ⟨E, TvAll.atD e g.1, g.2⟩⟩) (fun _ k => SqL.of (k.keep _ _ e11 fr2b)) (fun i x H12 H12' ys hi k12 e12 a12 y Kt Kf ht hf => ?_) fun H12 ys k12 e12 a12 => ?_
    · obtain ⟨rfl, hx⟩ := y
      obtain ⟨c, hc, rfl⟩ := strs_at hx
      obtain ⟨hbx, E1, tE, cE, vE⟩ := a12
      rw [List.length_map] at hi
      refine ⟨rfl, yes_go ⟨_, rfl, _, rfl, b, 5, 50001 + i, rfl, by decide, by decide, hbx, by omega, fun r H13 r0 r1 k13 hB13 => ⟨by show 2 ≤ sizeLine; rw [sizeLine_eq]; decide, fun pp oo npp hcc hdd => ?_⟩⟩⟩
      have kpp : Kp Nil H13 (upd H13 pp (.frz oo (.tup [.str c, .int r]))) := Kp.new Kp.refl npp
      refine ht _ _ (k13.trans kpp.nil) ⟨hB13.keep0 kpp, E1 ++ [(c, r)], ?_, ?_, fun p hp => ?_⟩
      · rw [List.map_append]
        exact ((tE.keep k13).keep kpp).append (.cons (Tv.pair (Pt.new hcc hdd)) .nil)
      · rw [take_snoc hc, ← cE]
        unfold cells
        rw [List.map_append]; rfl
      · rcases List.mem_append.mp hp with hp | hp
        · exact vE p hp
        · rw [List.mem_singleton.mp hp]
          exact ⟨r0, by show r ≤ _; omega⟩
    obtain ⟨hbx, E1, tE, cE, vE⟩ := a12
    rw [List.length_map, List.take_length] at cE
    have hE : ExOk L E1 := ⟨by rw [cE]; exact hXn, fun c hc => hXs c (by rw [cE] at hc; exact hc), vE⟩
    refine ⟨D1, ys, rfl, SqL.of e12, fun r5 o5 nr5 hc5 hd5 => ?_⟩
    have kr5 : Kp Nil H12 (upd H12 r5 (.frz o5 (.tup ys))) := Kp.new Kp.refl nr5
    obtain ⟨H14, eH14, k14, hp5⟩ : ∃ H14, H14 = upd H12 r5 (.frz o5 (.tup ys)) ∧ Kp Nil H12 H14 ∧ Pt H14 r5 ys := ⟨_, rfl, kr5, Pt.new hc5 hd5⟩
    rw [← eH14]
    have tE14 := tE.keep k14
    have hyl : ys.length = E1.length := tE.len
    have hE2 : E1.length ≤ 2 := by
      have : (cells E1).length = E1.length := List.length_map _
      rw [← this, cE]; exact hXl
    have k914 : Kp (One b) H9 H14 := ((k10.trans k11.nil).trans k12).trans k14.nil
    have hq : 5 + u ≤ 8 := by omega
    refine ⟨_, rfl, va, rfl, ⟨fs, (hpF.keep k914).sqt⟩, fun D2 n2 => ?_⟩
    refine lc_acc (walk_tup (xs := fs)) n2 (S := Nil) (fun z => z) (by omega) (fun i H ws => TvAll H ws (((F0.map fun l => spL (l ++ E1)).take i).map encL)) .nil (fun _ _ _ _ e t => TvAll.atD e t) (fun _ k => ((hpF.keep k914).keep k).sqt) (fun i x H15 H15' ws hi k15 e15 a15 y Kt Kf ht hf => ?_) fun H15 ws k15 e15 a15 => ?_
    · obtain ⟨rfl, hx⟩ := y
      obtain ⟨l, hl1, tv⟩ := hTF.at hx
      obtain ⟨al, ps, rfl, hpl, hTl⟩ := ((tv.keep k914).keep k15).tuple
      have hps : ps.length = l.length := hTl.len
      have hl := List.mem_of_getElem? hl1
      have hlog := fam_log hL hq hTO p9 hE l hl
      have hlen : (l ++ E1).length ≤ 11 := by
        have := len_le_of_sub hlog.1 hlog.2.1
        rw [List.length_map] at this
        omega
      have hla : l.length + E1.length ≤ 11 := by rw [List.length_append] at hlen; exact hlen
      refine ⟨rfl, yes_go ⟨_, rfl, _, rfl, al, r5, ps, ys, rfl, rfl, hpl, hp5.keep k15, by rw [sizeLine_eq]; omega, fun dq H16 k16 hdq => ?_⟩⟩
      refine entry_tail (H0 := H16) (l := l ++ E1) (by omega) hdq ?_ fun r zs H17 k17 hr17 tz => ?_
      · rw [List.map_append]
        exact (hTl.keep k16).append ((tE14.keep k15).keep k16)
      · refine ht _ _ (k16.trans k17) ?_
        rw [take_snoc (x := spL (l ++ E1)) (by rw [List.getElem?_map, hl1]; rfl), List.map_append]
        exact (a15.keep (k16.trans k17)).snoc (.tup hr17 tz)
    rw [show fs.length = (F0.map fun l => spL (l ++ E1)).length by rw [List.length_map]; exact hfs, List.take_length] at a15
    refine ⟨D2, ws, _, rfl, .inl (SqL.of e15), a15, sortOk_logs _ (by rw [List.length_map, sizeLine_eq]; omega) (good_ne (fam_good1 hL hq hTO p9 hE)), fun sp zs nsp tz => ⟨sp, zs, rfl, SqL.of upd_same, fun r6 o nr hc hd => ?_⟩⟩
    obtain ⟨G, k18, t18, p18⟩ := fam_end nsp nr hc hd tz
    obtain ⟨H18, eH18, k18, t18⟩ : ∃ H18, H18 = upd (upd H15 sp (.lst zs)) r6 (.frz o (.tup zs)) ∧ Kp Nil H15 H18 ∧ Tv H18 (.ref r6) (encF G) := ⟨_, rfl, k18, t18⟩
    rw [← eH18]
    have hRt := fam_ok hL (by omega) hq hTO p9 hE hl60 p18
    have k918 : Kp (One b) H9 H18 := (k914.trans k15.nil).trans k18.nil
    have hB18 : BoxAt H18 b 60000 := ((hbx.keep0 ((k14.trans k15).trans k18))).le (by rw [List.length_map]; omega)
    refine ⟨_, rfl, _, rfl, _, rfl, .ref b, .ref r6, p, G, L, rfl, t18, SqL.of (k918.keep _ _ e9 pb), hRt, hL.same, fun H19 k19 => ⟨_, rfl, bF rfl ⟨_, rfl, b, 60000, rfl, hB18.keep0 k19, by decide, fun H20 k20 => ⟨_, rfl, bF rfl ?_⟩⟩⟩⟩
    have kall : Kp (One b) H1 H20 := ((((k2.nil.trans kb4).trans k59).trans k918).trans k19.nil).trans k20
    exact ⟨⟨_, _, _, _, _, _, _, rfl⟩, k1.trans (kall.less1 nb)⟩
end
end Ro

set_option maxHeartbeats 4000000
/-! RoEnd: what the top has written, all joined. Written by gen/end.py. -/
namespace Ro
open PySem PySem.Spec PyProof.Rows L2
theorem df_mk {K : PySem.W.Frag} {mg : Str → Option Value} {x : String} {st : Stmt} {ps : List Str} {f : Addr} {fd : FuncData} (F : Fun K (Str.ofString x) (Str.ofString x) st f fd) (hm : mg (Str.ofString x) = some (.ref f))
    (hb : Fun K (Str.ofString x) (Str.ofString x) st f fd → Binds K fd ps []) : Df K mg x st ps := ⟨f, fd, F, hm, hb F⟩
theorem dfm_mk {K : PySem.W.Frag} {Cc : Addr} {x : String} {qual : Str} {st : Stmt} {ps : List Str} {f : Addr} {fd : FuncData} (F : Fun K (Str.ofString x) qual st f fd) (hm : Meth K Cc (Str.ofString x) f)
    (hb : Fun K (Str.ofString x) qual st f fd → Binds K fd ps []) : DfM K Cc x qual st ps := ⟨f, fd, F, hm, hb F⟩
theorem all_joined {l : PySem.W.OpenLaw} {w : World} {K : PySem.W.Frag} {h : Heap} {mg : Str → Option Value} {fa Cc : Addr} (X : K.In h) (G : h.Ns mainGlobals mg) (hfa : mg "law" = some (.ref fa))
    {f1 : Addr} {od1 an1 : Option Addr} {sl1 : Array (Option Value)} {oc1 kV1 dc1 pm1 cd1 ct1 : Value}
    {f2 : Addr} {od2 an2 : Option Addr} {sl2 : Array (Option Value)} {oc2 kV2 dc2 pm2 cd2 ct2 : Value}
    {f3 : Addr} {od3 an3 : Option Addr} {sl3 : Array (Option Value)} {oc3 kV3 dc3 pm3 cd3 ct3 : Value}
    {f4 : Addr} {od4 an4 : Option Addr} {sl4 : Array (Option Value)} {oc4 kV4 dc4 pm4 cd4 ct4 : Value}
    {f5 : Addr} {od5 an5 : Option Addr} {sl5 : Array (Option Value)} {oc5 kV5 dc5 pm5 cd5 ct5 : Value}
    {f6 : Addr} {od6 an6 : Option Addr} {sl6 : Array (Option Value)} {oc6 kV6 dc6 pm6 cd6 ct6 : Value}
    {f7 : Addr} {od7 an7 : Option Addr} {sl7 : Array (Option Value)} {oc7 kV7 dc7 pm7 cd7 ct7 : Value}
    {f8 : Addr} {od8 an8 : Option Addr} {sl8 : Array (Option Value)} {oc8 kV8 dc8 pm8 cd8 ct8 : Value}
    {f9 : Addr} {od9 an9 : Option Addr} {sl9 : Array (Option Value)} {oc9 kV9 dc9 pm9 cd9 ct9 : Value}
    {f10 : Addr} {od10 an10 : Option Addr} {sl10 : Array (Option Value)} {oc10 kV10 dc10 pm10 cd10 ct10 : Value}
    {f11 : Addr} {od11 an11 : Option Addr} {sl11 : Array (Option Value)} {oc11 kV11 dc11 pm11 cd11 ct11 : Value}
    {f12 : Addr} {od12 an12 : Option Addr} {sl12 : Array (Option Value)} {oc12 kV12 dc12 pm12 cd12 ct12 : Value}
    {f13 : Addr} {od13 an13 : Option Addr} {sl13 : Array (Option Value)} {oc13 kV13 dc13 pm13 cd13 ct13 : Value}
    {f14 : Addr} {od14 an14 : Option Addr} {sl14 : Array (Option Value)} {oc14 kV14 dc14 pm14 cd14 ct14 : Value}
    {f15 : Addr} {od15 an15 : Option Addr} {sl15 : Array (Option Value)} {oc15 kV15 dc15 pm15 cd15 ct15 : Value}
    {f16 : Addr} {od16 an16 : Option Addr} {sl16 : Array (Option Value)} {oc16 kV16 dc16 pm16 cd16 ct16 : Value}
    {f17 : Addr} {od17 an17 : Option Addr} {sl17 : Array (Option Value)} {oc17 kV17 dc17 pm17 cd17 ct17 : Value}
    {f18 : Addr} {od18 an18 : Option Addr} {sl18 : Array (Option Value)} {oc18 kV18 dc18 pm18 cd18 ct18 : Value}
    {f19 : Addr} {od19 an19 : Option Addr} {sl19 : Array (Option Value)} {oc19 kV19 dc19 pm19 cd19 ct19 : Value}
    {f20 : Addr} {od20 an20 : Option Addr} {sl20 : Array (Option Value)} {oc20 kV20 dc20 pm20 cd20 ct20 : Value}
    {f21 : Addr} {od21 an21 : Option Addr} {sl21 : Array (Option Value)} {oc21 kV21 dc21 pm21 cd21 ct21 : Value}
    {f22 : Addr} {od22 an22 : Option Addr} {sl22 : Array (Option Value)} {oc22 kV22 dc22 pm22 cd22 ct22 : Value}
    {f23 : Addr} {od23 an23 : Option Addr} {sl23 : Array (Option Value)} {oc23 kV23 dc23 pm23 cd23 ct23 : Value}
    {f24 : Addr} {od24 an24 : Option Addr} {sl24 : Array (Option Value)} {oc24 kV24 dc24 pm24 cd24 ct24 : Value}
    {f25 : Addr} {od25 an25 : Option Addr} {sl25 : Array (Option Value)} {oc25 kV25 dc25 pm25 cd25 ct25 : Value}
    {f26 : Addr} {od26 an26 : Option Addr} {sl26 : Array (Option Value)} {oc26 kV26 dc26 pm26 cd26 ct26 : Value}
    {f27 : Addr} {od27 an27 : Option Addr} {sl27 : Array (Option Value)} {oc27 kV27 dc27 pm27 cd27 ct27 : Value}
    {f28 : Addr} {od28 an28 : Option Addr} {sl28 : Array (Option Value)} {oc28 kV28 dc28 pm28 cd28 ct28 : Value}
    {f29 : Addr} {od29 an29 : Option Addr} {sl29 : Array (Option Value)} {oc29 kV29 dc29 pm29 cd29 ct29 : Value}
    {f30 : Addr} {od30 an30 : Option Addr} {sl30 : Array (Option Value)} {oc30 kV30 dc30 pm30 cd30 ct30 : Value}
    {f31 : Addr} {od31 an31 : Option Addr} {sl31 : Array (Option Value)} {oc31 kV31 dc31 pm31 cd31 ct31 : Value}
    {f32 : Addr} {od32 an32 : Option Addr} {sl32 : Array (Option Value)} {oc32 kV32 dc32 pm32 cd32 ct32 : Value}
    {f33 : Addr} {od33 an33 : Option Addr} {sl33 : Array (Option Value)} {oc33 kV33 dc33 pm33 cd33 ct33 : Value}
    {f34 : Addr} {od34 an34 : Option Addr} {sl34 : Array (Option Value)} {oc34 kV34 dc34 pm34 cd34 ct34 : Value}
    {f35 : Addr} {od35 an35 : Option Addr} {sl35 : Array (Option Value)} {oc35 kV35 dc35 pm35 cd35 ct35 : Value}
    {f36 : Addr} {od36 an36 : Option Addr} {sl36 : Array (Option Value)} {oc36 kV36 dc36 pm36 cd36 ct36 : Value}
    {f37 : Addr} {od37 an37 : Option Addr} {sl37 : Array (Option Value)} {oc37 kV37 dc37 pm37 cd37 ct37 : Value}
    {f38 : Addr} {od38 an38 : Option Addr} {sl38 : Array (Option Value)} {oc38 kV38 dc38 pm38 cd38 ct38 : Value}
    {f39 : Addr} {od39 an39 : Option Addr} {sl39 : Array (Option Value)} {oc39 kV39 dc39 pm39 cd39 ct39 : Value}
    {t_letters8 t_value9 t_letters t_pair t_cells12 t_logs60 t_counted12 : Nat}
    (a1 : PySem.W.nsIn K mainGlobals "is_cell" = some (some (.ref f1)))
    (l1 : K.lookup f1 = some ⟨oc1, od1, .func (PySem.W.fnOf "is_cell" "is_cell" (defArgs s_is_cell) (defBody s_is_cell) (defScope s_is_cell) .none kV1 dc1 pm1 an1 cd1 ct1), sl1⟩)
    (c1 : PySem.W.codeIn K cd1 "is_cell" = true)
    (k1 : PySem.W.keepIn K (.ref f1) = true)
    (a2 : PySem.W.nsIn K mainGlobals "is_value" = some (some (.ref f2)))
    (l2 : K.lookup f2 = some ⟨oc2, od2, .func (PySem.W.fnOf "is_value" "is_value" (defArgs s_is_value) (defBody s_is_value) (defScope s_is_value) .none kV2 dc2 pm2 an2 cd2 ct2), sl2⟩)
    (c2 : PySem.W.codeIn K cd2 "is_value" = true)
    (k2 : PySem.W.keepIn K (.ref f2) = true)
    (a3 : PySem.W.nsIn K mainGlobals "is_pair" = some (some (.ref f3)))
    (l3 : K.lookup f3 = some ⟨oc3, od3, .func (PySem.W.fnOf "is_pair" "is_pair" (defArgs s_is_pair) (defBody s_is_pair) (defScope s_is_pair) .none kV3 dc3 pm3 an3 cd3 ct3), sl3⟩)
    (c3 : PySem.W.codeIn K cd3 "is_pair" = true)
    (k3 : PySem.W.keepIn K (.ref f3) = true)
    (a4 : PySem.W.nsIn K mainGlobals "has_log_form" = some (some (.ref f4)))
    (l4 : K.lookup f4 = some ⟨oc4, od4, .func (PySem.W.fnOf "has_log_form" "has_log_form" (defArgs s_has_log_form) (defBody s_has_log_form) (defScope s_has_log_form) .none kV4 dc4 pm4 an4 cd4 ct4), sl4⟩)
    (c4 : PySem.W.codeIn K cd4 "has_log_form" = true)
    (k4 : PySem.W.keepIn K (.ref f4) = true)
    (a5 : PySem.W.nsIn K mainGlobals "cells_in" = some (some (.ref f5)))
    (l5 : K.lookup f5 = some ⟨oc5, od5, .func (PySem.W.fnOf "cells_in" "cells_in" (defArgs s_cells_in) (defBody s_cells_in) (defScope s_cells_in) .none kV5 dc5 pm5 an5 cd5 ct5), sl5⟩)
    (c5 : PySem.W.codeIn K cd5 "cells_in" = true)
    (k5 : PySem.W.keepIn K (.ref f5) = true)
    (a6 : PySem.W.nsIn K mainGlobals "shared_cells" = some (some (.ref f6)))
    (l6 : K.lookup f6 = some ⟨oc6, od6, .func (PySem.W.fnOf "shared_cells" "shared_cells" (defArgs s_shared_cells) (defBody s_shared_cells) (defScope s_shared_cells) .none kV6 dc6 pm6 an6 cd6 ct6), sl6⟩)
    (c6 : PySem.W.codeIn K cd6 "shared_cells" = true)
    (k6 : PySem.W.keepIn K (.ref f6) = true)
    (a7 : PySem.W.nsIn K mainGlobals "agreeing" = some (some (.ref f7)))
    (l7 : K.lookup f7 = some ⟨oc7, od7, .func (PySem.W.fnOf "agreeing" "agreeing" (defArgs s_agreeing) (defBody s_agreeing) (defScope s_agreeing) .none kV7 dc7 pm7 an7 cd7 ct7), sl7⟩)
    (c7 : PySem.W.codeIn K cd7 "agreeing" = true)
    (k7 : PySem.W.keepIn K (.ref f7) = true)
    (a8 : PySem.W.nsIn K mainGlobals "unread_shared" = some (some (.ref f8)))
    (l8 : K.lookup f8 = some ⟨oc8, od8, .func (PySem.W.fnOf "unread_shared" "unread_shared" (defArgs s_unread_shared) (defBody s_unread_shared) (defScope s_unread_shared) .none kV8 dc8 pm8 an8 cd8 ct8), sl8⟩)
    (c8 : PySem.W.codeIn K cd8 "unread_shared" = true)
    (k8 : PySem.W.keepIn K (.ref f8) = true)
    (a9 : PySem.W.nsIn K mainGlobals "parts_by" = some (some (.ref f9)))
    (l9 : K.lookup f9 = some ⟨oc9, od9, .func (PySem.W.fnOf "parts_by" "parts_by" (defArgs s_parts_by) (defBody s_parts_by) (defScope s_parts_by) .none kV9 dc9 pm9 an9 cd9 ct9), sl9⟩)
    (c9 : PySem.W.codeIn K cd9 "parts_by" = true)
    (k9 : PySem.W.keepIn K (.ref f9) = true)
    (a10 : PySem.W.nsIn K mainGlobals "splitting_cells" = some (some (.ref f10)))
    (l10 : K.lookup f10 = some ⟨oc10, od10, .func (PySem.W.fnOf "splitting_cells" "splitting_cells" (defArgs s_splitting_cells) (defBody s_splitting_cells) (defScope s_splitting_cells) .none kV10 dc10 pm10 an10 cd10 ct10), sl10⟩)
    (c10 : PySem.W.codeIn K cd10 "splitting_cells" = true)
    (k10 : PySem.W.keepIn K (.ref f10) = true)
    (a11 : PySem.W.nsIn K mainGlobals "blocks" = some (some (.ref f11)))
    (l11 : K.lookup f11 = some ⟨oc11, od11, .func (PySem.W.fnOf "blocks" "blocks" (defArgs s_blocks) (defBody s_blocks) (defScope s_blocks) .none kV11 dc11 pm11 an11 cd11 ct11), sl11⟩)
    (c11 : PySem.W.codeIn K cd11 "blocks" = true)
    (k11 : PySem.W.keepIn K (.ref f11) = true)
    (a12 : PySem.W.nsIn K mainGlobals "stuck_block" = some (some (.ref f12)))
    (l12 : K.lookup f12 = some ⟨oc12, od12, .func (PySem.W.fnOf "stuck_block" "stuck_block" (defArgs s_stuck_block) (defBody s_stuck_block) (defScope s_stuck_block) .none kV12 dc12 pm12 an12 cd12 ct12), sl12⟩)
    (c12 : PySem.W.codeIn K cd12 "stuck_block" = true)
    (k12 : PySem.W.keepIn K (.ref f12) = true)
    (a13 : PySem.W.nsIn K mainGlobals "single_group" = some (some (.ref f13)))
    (l13 : K.lookup f13 = some ⟨oc13, od13, .func (PySem.W.fnOf "single_group" "single_group" (defArgs s_single_group) (defBody s_single_group) (defScope s_single_group) .none kV13 dc13 pm13 an13 cd13 ct13), sl13⟩)
    (c13 : PySem.W.codeIn K cd13 "single_group" = true)
    (k13 : PySem.W.keepIn K (.ref f13) = true)
    (a14 : PySem.W.nsIn K mainGlobals "check_reader" = some (some (.ref f14)))
    (l14 : K.lookup f14 = some ⟨oc14, od14, .func (PySem.W.fnOf "check_reader" "check_reader" (defArgs s_check_reader) (defBody s_check_reader) (defScope s_check_reader) .none kV14 dc14 pm14 an14 cd14 ct14), sl14⟩)
    (c14 : PySem.W.codeIn K cd14 "check_reader" = true)
    (k14 : PySem.W.keepIn K (.ref f14) = true)
    (a15 : PySem.W.nsIn K mainGlobals "check_logs" = some (some (.ref f15)))
    (l15 : K.lookup f15 = some ⟨oc15, od15, .func (PySem.W.fnOf "check_logs" "check_logs" (defArgs s_check_logs) (defBody s_check_logs) (defScope s_check_logs) .none kV15 dc15 pm15 an15 cd15 ct15), sl15⟩)
    (c15 : PySem.W.codeIn K cd15 "check_logs" = true)
    (k15 : PySem.W.keepIn K (.ref f15) = true)
    (a16 : PySem.W.nsIn K mainGlobals "factorial" = some (some (.ref f16)))
    (l16 : K.lookup f16 = some ⟨oc16, od16, .func (PySem.W.fnOf "factorial" "factorial" (defArgs s_factorial) (defBody s_factorial) (defScope s_factorial) .none kV16 dc16 pm16 an16 cd16 ct16), sl16⟩)
    (c16 : PySem.W.codeIn K cd16 "factorial" = true)
    (k16 : PySem.W.keepIn K (.ref f16) = true)
    (a17 : PySem.W.nsIn K mainGlobals "count_readers" = some (some (.ref f17)))
    (l17 : K.lookup f17 = some ⟨oc17, od17, .func (PySem.W.fnOf "count_readers" "count_readers" (defArgs s_count_readers) (defBody s_count_readers) (defScope s_count_readers) .none kV17 dc17 pm17 an17 cd17 ct17), sl17⟩)
    (c17 : PySem.W.codeIn K cd17 "count_readers" = true)
    (k17 : PySem.W.keepIn K (.ref f17) = true)
    (a18 : PySem.W.nsIn K mainGlobals "check_log" = some (some (.ref f18)))
    (l18 : K.lookup f18 = some ⟨oc18, od18, .func (PySem.W.fnOf "check_log" "check_log" (defArgs s_check_log) (defBody s_check_log) (defScope s_check_log) .none kV18 dc18 pm18 an18 cd18 ct18), sl18⟩)
    (c18 : PySem.W.codeIn K cd18 "check_log" = true)
    (k18 : PySem.W.keepIn K (.ref f18) = true)
    (a19 : PySem.W.nsIn K mainGlobals "group_after" = some (some (.ref f19)))
    (l19 : K.lookup f19 = some ⟨oc19, od19, .func (PySem.W.fnOf "group_after" "group_after" (defArgs s_group_after) (defBody s_group_after) (defScope s_group_after) .none kV19 dc19 pm19 an19 cd19 ct19), sl19⟩)
    (c19 : PySem.W.codeIn K cd19 "group_after" = true)
    (k19 : PySem.W.keepIn K (.ref f19) = true)
    (a20 : PySem.W.nsIn K mainGlobals "available" = some (some (.ref f20)))
    (l20 : K.lookup f20 = some ⟨oc20, od20, .func (PySem.W.fnOf "available" "available" (defArgs s_available) (defBody s_available) (defScope s_available) .none kV20 dc20 pm20 an20 cd20 ct20), sl20⟩)
    (c20 : PySem.W.codeIn K cd20 "available" = true)
    (k20 : PySem.W.keepIn K (.ref f20) = true)
    (a21 : PySem.W.nsIn K mainGlobals "count_orders" = some (some (.ref f21)))
    (l21 : K.lookup f21 = some ⟨oc21, od21, .func (PySem.W.fnOf "count_orders" "count_orders" (defArgs s_count_orders) (defBody s_count_orders) (defScope s_count_orders) .none kV21 dc21 pm21 an21 cd21 ct21), sl21⟩)
    (c21 : PySem.W.codeIn K cd21 "count_orders" = true)
    (k21 : PySem.W.keepIn K (.ref f21) = true)
    (a22 : PySem.W.nsIn K mainGlobals "_law_box" = some (some (.ref f22)))
    (l22 : K.lookup f22 = some ⟨oc22, od22, .func (PySem.W.fnOf "_law_box" "_law_box" (defArgs s_law_box) (defBody s_law_box) (defScope s_law_box) .none kV22 dc22 pm22 an22 cd22 ct22), sl22⟩)
    (c22 : PySem.W.codeIn K cd22 "_law_box" = true)
    (k22 : PySem.W.keepIn K (.ref f22) = true)
    (a23 : PySem.W.nsIn K mainGlobals "_law_take" = some (some (.ref f23)))
    (l23 : K.lookup f23 = some ⟨oc23, od23, .func (PySem.W.fnOf "_law_take" "_law_take" (defArgs s_law_take) (defBody s_law_take) (defScope s_law_take) .none kV23 dc23 pm23 an23 cd23 ct23), sl23⟩)
    (c23 : PySem.W.codeIn K cd23 "_law_take" = true)
    (k23 : PySem.W.keepIn K (.ref f23) = true)
    (a24 : PySem.W.nsIn K mainGlobals "_law_of" = some (some (.ref f24)))
    (l24 : K.lookup f24 = some ⟨oc24, od24, .func (PySem.W.fnOf "_law_of" "_law_of" (defArgs s_law_of) (defBody s_law_of) (defScope s_law_of) .none kV24 dc24 pm24 an24 cd24 ct24), sl24⟩)
    (c24 : PySem.W.codeIn K cd24 "_law_of" = true)
    (k24 : PySem.W.keepIn K (.ref f24) = true)
    (a25 : PySem.W.nsIn K mainGlobals "_law_cells" = some (some (.ref f25)))
    (l25 : K.lookup f25 = some ⟨oc25, od25, .func (PySem.W.fnOf "_law_cells" "_law_cells" (defArgs s_law_cells) (defBody s_law_cells) (defScope s_law_cells) .none kV25 dc25 pm25 an25 cd25 ct25), sl25⟩)
    (c25 : PySem.W.codeIn K cd25 "_law_cells" = true)
    (k25 : PySem.W.keepIn K (.ref f25) = true)
    (a26 : PySem.W.nsIn K mainGlobals "_law_values" = some (some (.ref f26)))
    (l26 : K.lookup f26 = some ⟨oc26, od26, .func (PySem.W.fnOf "_law_values" "_law_values" (defArgs s_law_values) (defBody s_law_values) (defScope s_law_values) .none kV26 dc26 pm26 an26 cd26 ct26), sl26⟩)
    (c26 : PySem.W.codeIn K cd26 "_law_values" = true)
    (k26 : PySem.W.keepIn K (.ref f26) = true)
    (a27 : PySem.W.nsIn K mainGlobals "_law_tree" = some (some (.ref f27)))
    (l27 : K.lookup f27 = some ⟨oc27, od27, .func (PySem.W.fnOf "_law_tree" "_law_tree" (defArgs s_law_tree) (defBody s_law_tree) (defScope s_law_tree) .none kV27 dc27 pm27 an27 cd27 ct27), sl27⟩)
    (c27 : PySem.W.codeIn K cd27 "_law_tree" = true)
    (k27 : PySem.W.keepIn K (.ref f27) = true)
    (a28 : PySem.W.nsIn K mainGlobals "_law_leaves" = some (some (.ref f28)))
    (l28 : K.lookup f28 = some ⟨oc28, od28, .func (PySem.W.fnOf "_law_leaves" "_law_leaves" (defArgs s_law_leaves) (defBody s_law_leaves) (defScope s_law_leaves) .none kV28 dc28 pm28 an28 cd28 ct28), sl28⟩)
    (c28 : PySem.W.codeIn K cd28 "_law_leaves" = true)
    (k28 : PySem.W.keepIn K (.ref f28) = true)
    (a29 : PySem.W.nsIn K mainGlobals "_law_shared" = some (some (.ref f29)))
    (l29 : K.lookup f29 = some ⟨oc29, od29, .func (PySem.W.fnOf "_law_shared" "_law_shared" (defArgs s_law_shared) (defBody s_law_shared) (defScope s_law_shared) .none kV29 dc29 pm29 an29 cd29 ct29), sl29⟩)
    (c29 : PySem.W.codeIn K cd29 "_law_shared" = true)
    (k29 : PySem.W.keepIn K (.ref f29) = true)
    (a30 : PySem.W.nsIn K mainGlobals "_law_parts" = some (some (.ref f30)))
    (l30 : K.lookup f30 = some ⟨oc30, od30, .func (PySem.W.fnOf "_law_parts" "_law_parts" (defArgs s_law_parts) (defBody s_law_parts) (defScope s_law_parts) .none kV30 dc30 pm30 an30 cd30 ct30), sl30⟩)
    (c30 : PySem.W.codeIn K cd30 "_law_parts" = true)
    (k30 : PySem.W.keepIn K (.ref f30) = true)
    (a31 : PySem.W.nsIn K mainGlobals "_law_absent" = some (some (.ref f31)))
    (l31 : K.lookup f31 = some ⟨oc31, od31, .func (PySem.W.fnOf "_law_absent" "_law_absent" (defArgs s_law_absent) (defBody s_law_absent) (defScope s_law_absent) .none kV31 dc31 pm31 an31 cd31 ct31), sl31⟩)
    (c31 : PySem.W.codeIn K cd31 "_law_absent" = true)
    (k31 : PySem.W.keepIn K (.ref f31) = true)
    (a32 : PySem.W.nsIn K mainGlobals "_law_less" = some (some (.ref f32)))
    (l32 : K.lookup f32 = some ⟨oc32, od32, .func (PySem.W.fnOf "_law_less" "_law_less" (defArgs s_law_less) (defBody s_law_less) (defScope s_law_less) .none kV32 dc32 pm32 an32 cd32 ct32), sl32⟩)
    (c32 : PySem.W.codeIn K cd32 "_law_less" = true)
    (k32 : PySem.W.keepIn K (.ref f32) = true)
    (a33 : PySem.W.nsIn K mainGlobals "_law_sum" = some (some (.ref f33)))
    (l33 : K.lookup f33 = some ⟨oc33, od33, .func (PySem.W.fnOf "_law_sum" "_law_sum" (defArgs s_law_sum) (defBody s_law_sum) (defScope s_law_sum) .none kV33 dc33 pm33 an33 cd33 ct33), sl33⟩)
    (c33 : PySem.W.codeIn K cd33 "_law_sum" = true)
    (k33 : PySem.W.keepIn K (.ref f33) = true)
    (a34 : PySem.W.nsIn K mainGlobals "_law_right" = some (some (.ref f34)))
    (l34 : K.lookup f34 = some ⟨oc34, od34, .func (PySem.W.fnOf "_law_right" "_law_right" (defArgs s_law_right) (defBody s_law_right) (defScope s_law_right) .none kV34 dc34 pm34 an34 cd34 ct34), sl34⟩)
    (c34 : PySem.W.codeIn K cd34 "_law_right" = true)
    (k34 : PySem.W.keepIn K (.ref f34) = true)
    (a35 : PySem.W.nsIn K mainGlobals "_law_fan_right" = some (some (.ref f35)))
    (l35 : K.lookup f35 = some ⟨oc35, od35, .func (PySem.W.fnOf "_law_fan_right" "_law_fan_right" (defArgs s_law_fan_right) (defBody s_law_fan_right) (defScope s_law_fan_right) .none kV35 dc35 pm35 an35 cd35 ct35), sl35⟩)
    (c35 : PySem.W.codeIn K cd35 "_law_fan_right" = true)
    (k35 : PySem.W.keepIn K (.ref f35) = true)
    (a36 : PySem.W.nsIn K mainGlobals "law" = some (some (.ref f36)))
    (l36 : K.lookup f36 = some ⟨oc36, od36, .func (PySem.W.fnOf "law" "law" (defArgs s_law) (defBody s_law) (defScope s_law) .none kV36 dc36 pm36 an36 cd36 ct36), sl36⟩)
    (c36 : PySem.W.codeIn K cd36 "law" = true)
    (k36 : PySem.W.keepIn K (.ref f36) = true)
    (a37 : PySem.W.findIn K (.ref Cc) "__init__" = some (some (.ref f37)))
    (i37 : PySem.W.isFn K (.ref f37) = true)
    (l37 : K.lookup f37 = some ⟨oc37, od37, .func (PySem.W.fnOf "__init__" "ReaderCount.__init__" (defArgs s_init) (defBody s_init) (defScope s_init) .none kV37 dc37 pm37 an37 cd37 ct37), sl37⟩)
    (c37 : PySem.W.codeIn K cd37 "ReaderCount.__init__" = true)
    (k37 : PySem.W.keepIn K (.ref f37) = true)
    (a38 : PySem.W.findIn K (.ref Cc) "of_group" = some (some (.ref f38)))
    (i38 : PySem.W.isFn K (.ref f38) = true)
    (l38 : K.lookup f38 = some ⟨oc38, od38, .func (PySem.W.fnOf "of_group" "ReaderCount.of_group" (defArgs s_of_group) (defBody s_of_group) (defScope s_of_group) .none kV38 dc38 pm38 an38 cd38 ct38), sl38⟩)
    (c38 : PySem.W.codeIn K cd38 "ReaderCount.of_group" = true)
    (k38 : PySem.W.keepIn K (.ref f38) = true)
    (a39 : PySem.W.findIn K (.ref Cc) "of_node" = some (some (.ref f39)))
    (i39 : PySem.W.isFn K (.ref f39) = true)
    (l39 : K.lookup f39 = some ⟨oc39, od39, .func (PySem.W.fnOf "of_node" "ReaderCount.of_node" (defArgs s_of_node) (defBody s_of_node) (defScope s_of_node) .none kV39 dc39 pm39 an39 cd39 ct39), sl39⟩)
    (c39 : PySem.W.codeIn K cd39 "ReaderCount.of_node" = true)
    (k39 : PySem.W.keepIn K (.ref f39) = true)
    (aC : PySem.W.nsIn K mainGlobals "ReaderCount" = some (some (.ref Cc)))
    (pg : PySem.W.plainGet K Cc Str.empty = true)
    (hd : PySem.W.hasDictIn K Cc = true)
    (po : PySem.W.plainOver K Cc = true)
    (sa : PySem.W.findIn K (.ref Cc) "__setattr__" = some (some (.builtin "object.__setattr__")))
    (mk : PySem.W.makesIn K Cc = true)
    (kc : PySem.W.keepIn K (.ref Cc) = true)
    (nK : PySem.W.findIn K (.ref Cc) "known_counts" = some none)
    (v_letters8 : PySem.W.nsIn K mainGlobals "MOST_LETTERS" = some (some (.int 8 t_letters8)))
    (v_value9 : PySem.W.nsIn K mainGlobals "MOST_VALUE" = some (some (.int 1000000000 t_value9)))
    (v_letters : PySem.W.nsIn K mainGlobals "LETTERS" = some (some (.str "abcdefghijklmnopqrstuvwxyz" t_letters)))
    (v_pair : PySem.W.nsIn K mainGlobals "PAIR" = some (some (.int 2 t_pair)))
    (v_cells12 : PySem.W.nsIn K mainGlobals "MOST_CELLS" = some (some (.int 12 t_cells12)))
    (v_logs60 : PySem.W.nsIn K mainGlobals "MOST_LOGS" = some (some (.int 60 t_logs60)))
    (v_counted12 : PySem.W.nsIn K mainGlobals "MOST_COUNTED" = some (some (.int 12 t_counted12)))
    (z_isinstance : PySem.W.nsIn K mainGlobals "isinstance" = some none)
    (z_str : PySem.W.nsIn K mainGlobals "str" = some none)
    (z_int : PySem.W.nsIn K mainGlobals "int" = some none)
    (z_bool : PySem.W.nsIn K mainGlobals "bool" = some none)
    (z_tuple : PySem.W.nsIn K mainGlobals "tuple" = some none)
    (z_list : PySem.W.nsIn K mainGlobals "list" = some none)
    (z_dict : PySem.W.nsIn K mainGlobals "dict" = some none)
    (z_set : PySem.W.nsIn K mainGlobals "set" = some none)
    (z_len : PySem.W.nsIn K mainGlobals "len" = some none)
    (z_all : PySem.W.nsIn K mainGlobals "all" = some none)
    (z_zip : PySem.W.nsIn K mainGlobals "zip" = some none)
    (z_sorted : PySem.W.nsIn K mainGlobals "sorted" = some none)
    (z_sum : PySem.W.nsIn K mainGlobals "sum" = some none)
    (z_range : PySem.W.nsIn K mainGlobals "range" = some none)
    (z_abs : PySem.W.nsIn K mainGlobals "abs" = some none)
    (z_min : PySem.W.nsIn K mainGlobals "min" = some none)
    (z_max : PySem.W.nsIn K mainGlobals "max" = some none)
    (z_repr : PySem.W.nsIn K mainGlobals "repr" = some none)
    (z_enumerate : PySem.W.nsIn K mainGlobals "enumerate" = some none) :
    ∃ fd : FuncData, (∀ (s : Shared) (v : Value), BindsTo s fd ⟨[v], []⟩ [("_law_script", v)]) ∧ ∀ base : Heap, K.In base → base.Ns mainGlobals mg → FnOkG l.prog w K mg base 31 fa fd ["_law_script"] (spLaw K) := by
  have e := hfa.symm.trans (PySem.W.mg_of X G a36)
  cases e
  have B : Bu mg := ⟨PySem.W.mg_none_of X G z_isinstance, PySem.W.mg_none_of X G z_str, PySem.W.mg_none_of X G z_int, PySem.W.mg_none_of X G z_bool, PySem.W.mg_none_of X G z_tuple, PySem.W.mg_none_of X G z_list, PySem.W.mg_none_of X G z_dict, PySem.W.mg_none_of X G z_set, PySem.W.mg_none_of X G z_len, PySem.W.mg_none_of X G z_all, PySem.W.mg_none_of X G z_zip, PySem.W.mg_none_of X G z_sorted, PySem.W.mg_none_of X G z_sum, PySem.W.mg_none_of X G z_range, PySem.W.mg_none_of X G z_abs, PySem.W.mg_none_of X G z_min, PySem.W.mg_none_of X G z_max, PySem.W.mg_none_of X G z_repr, PySem.W.mg_none_of X G z_enumerate⟩
  have Cn : Cs mg := ⟨⟨_, PySem.W.mg_of X G v_letters8, _, rfl⟩, ⟨_, PySem.W.mg_of X G v_value9, _, rfl⟩, ⟨_, PySem.W.mg_of X G v_letters, _, rfl⟩, ⟨_, PySem.W.mg_of X G v_pair, _, rfl⟩, ⟨_, PySem.W.mg_of X G v_cells12, _, rfl⟩, ⟨_, PySem.W.mg_of X G v_logs60, _, rfl⟩, ⟨_, PySem.W.mg_of X G v_counted12, _, rfl⟩⟩
  have T : RcT K mg Cc := ⟨⟨pg, hd, po, sa⟩, nK⟩
  have D_is_cell : Df K mg "is_cell" s_is_cell p_is_cell := df_mk (fun_mk (st := s_is_cell) l1 c1 k1) (PySem.W.mg_of X G a1) fun F => F.binds (ps := p_is_cell) fun _ _ _ _ _ _ us hl => match us, hl with | [_], _ => rfl
  have D_is_value : Df K mg "is_value" s_is_value p_is_value := df_mk (fun_mk (st := s_is_value) l2 c2 k2) (PySem.W.mg_of X G a2) fun F => F.binds (ps := p_is_value) fun _ _ _ _ _ _ us hl => match us, hl with | [_], _ => rfl
  have D_is_pair : Df K mg "is_pair" s_is_pair p_is_pair := df_mk (fun_mk (st := s_is_pair) l3 c3 k3) (PySem.W.mg_of X G a3) fun F => F.binds (ps := p_is_pair) fun _ _ _ _ _ _ us hl => match us, hl with | [_], _ => rfl
  have D_has_log_form : Df K mg "has_log_form" s_has_log_form p_has_log_form := df_mk (fun_mk (st := s_has_log_form) l4 c4 k4) (PySem.W.mg_of X G a4) fun F => F.binds (ps := p_has_log_form) fun _ _ _ _ _ _ us hl => match us, hl with | [_], _ => rfl
  have D_cells_in : Df K mg "cells_in" s_cells_in p_cells_in := df_mk (fun_mk (st := s_cells_in) l5 c5 k5) (PySem.W.mg_of X G a5) fun F => F.binds (ps := p_cells_in) fun _ _ _ _ _ _ us hl => match us, hl with | [_], _ => rfl
  have D_shared_cells : Df K mg "shared_cells" s_shared_cells p_shared_cells := df_mk (fun_mk (st := s_shared_cells) l6 c6 k6) (PySem.W.mg_of X G a6) fun F => F.binds (ps := p_shared_cells) fun _ _ _ _ _ _ us hl => match us, hl with | [_], _ => rfl
  have D_agreeing : Df K mg "agreeing" s_agreeing p_agreeing := df_mk (fun_mk (st := s_agreeing) l7 c7 k7) (PySem.W.mg_of X G a7) fun F => F.binds (ps := p_agreeing) fun _ _ _ _ _ _ us hl => match us, hl with | [_, _], _ => rfl
  have D_unread_shared : Df K mg "unread_shared" s_unread_shared p_unread_shared := df_mk (fun_mk (st := s_unread_shared) l8 c8 k8) (PySem.W.mg_of X G a8) fun F => F.binds (ps := p_unread_shared) fun _ _ _ _ _ _ us hl => match us, hl with | [_, _], _ => rfl
  have D_parts_by : Df K mg "parts_by" s_parts_by p_parts_by := df_mk (fun_mk (st := s_parts_by) l9 c9 k9) (PySem.W.mg_of X G a9) fun F => F.binds (ps := p_parts_by) fun _ _ _ _ _ _ us hl => match us, hl with | [_, _], _ => rfl
  have D_splitting_cells : Df K mg "splitting_cells" s_splitting_cells p_splitting_cells := df_mk (fun_mk (st := s_splitting_cells) l10 c10 k10) (PySem.W.mg_of X G a10) fun F => F.binds (ps := p_splitting_cells) fun _ _ _ _ _ _ us hl => match us, hl with | [_], _ => rfl
  have D_blocks : Df K mg "blocks" s_blocks p_blocks := df_mk (fun_mk (st := s_blocks) l11 c11 k11) (PySem.W.mg_of X G a11) fun F => F.binds (ps := p_blocks) fun _ _ _ _ _ _ us hl => match us, hl with | [_], _ => rfl
  have D_stuck_block : Df K mg "stuck_block" s_stuck_block p_stuck_block := df_mk (fun_mk (st := s_stuck_block) l12 c12 k12) (PySem.W.mg_of X G a12) fun F => F.binds (ps := p_stuck_block) fun _ _ _ _ _ _ us hl => match us, hl with | [_], _ => rfl
  have D_single_group : Df K mg "single_group" s_single_group p_single_group := df_mk (fun_mk (st := s_single_group) l13 c13 k13) (PySem.W.mg_of X G a13) fun F => F.binds (ps := p_single_group) fun _ _ _ _ _ _ us hl => match us, hl with | [_], _ => rfl
  have D_check_reader : Df K mg "check_reader" s_check_reader p_check_reader := df_mk (fun_mk (st := s_check_reader) l14 c14 k14) (PySem.W.mg_of X G a14) fun F => F.binds (ps := p_check_reader) fun _ _ _ _ _ _ us hl => match us, hl with | [_], _ => rfl
  have D_check_logs : Df K mg "check_logs" s_check_logs p_check_logs := df_mk (fun_mk (st := s_check_logs) l15 c15 k15) (PySem.W.mg_of X G a15) fun F => F.binds (ps := p_check_logs) fun _ _ _ _ _ _ us hl => match us, hl with | [_], _ => rfl
  have D_factorial : Df K mg "factorial" s_factorial p_factorial := df_mk (fun_mk (st := s_factorial) l16 c16 k16) (PySem.W.mg_of X G a16) fun F => F.binds (ps := p_factorial) fun _ _ _ _ _ _ us hl => match us, hl with | [_], _ => rfl
  have D_count_readers : Df K mg "count_readers" s_count_readers p_count_readers := df_mk (fun_mk (st := s_count_readers) l17 c17 k17) (PySem.W.mg_of X G a17) fun F => F.binds (ps := p_count_readers) fun _ _ _ _ _ _ us hl => match us, hl with | [_], _ => rfl
  have D_check_log : Df K mg "check_log" s_check_log p_check_log := df_mk (fun_mk (st := s_check_log) l18 c18 k18) (PySem.W.mg_of X G a18) fun F => F.binds (ps := p_check_log) fun _ _ _ _ _ _ us hl => match us, hl with | [_, _], _ => rfl
  have D_group_after : Df K mg "group_after" s_group_after p_group_after := df_mk (fun_mk (st := s_group_after) l19 c19 k19) (PySem.W.mg_of X G a19) fun F => F.binds (ps := p_group_after) fun _ _ _ _ _ _ us hl => match us, hl with | [_, _, _], _ => rfl
  have D_available : Df K mg "available" s_available p_available := df_mk (fun_mk (st := s_available) l20 c20 k20) (PySem.W.mg_of X G a20) fun F => F.binds (ps := p_available) fun _ _ _ _ _ _ us hl => match us, hl with | [_, _, _], _ => rfl
  have D_count_orders : Df K mg "count_orders" s_count_orders p_count_orders := df_mk (fun_mk (st := s_count_orders) l21 c21 k21) (PySem.W.mg_of X G a21) fun F => F.binds (ps := p_count_orders) fun _ _ _ _ _ _ us hl => match us, hl with | [_, _], _ => rfl
  have D_law_box : Df K mg "_law_box" s_law_box p_law_box := df_mk (fun_mk (st := s_law_box) l22 c22 k22) (PySem.W.mg_of X G a22) fun F => F.binds (ps := p_law_box) fun _ _ _ _ _ _ us hl => match us, hl with | [_, _], _ => rfl
  have D_law_take : Df K mg "_law_take" s_law_take p_law_take := df_mk (fun_mk (st := s_law_take) l23 c23 k23) (PySem.W.mg_of X G a23) fun F => F.binds (ps := p_law_take) fun _ _ _ _ _ _ us hl => match us, hl with | [_, _], _ => rfl
  have D_law_of : Df K mg "_law_of" s_law_of p_law_of := df_mk (fun_mk (st := s_law_of) l24 c24 k24) (PySem.W.mg_of X G a24) fun F => F.binds (ps := p_law_of) fun _ _ _ _ _ _ us hl => match us, hl with | [_, _], _ => rfl
  have D_law_cells : Df K mg "_law_cells" s_law_cells p_law_cells := df_mk (fun_mk (st := s_law_cells) l25 c25 k25) (PySem.W.mg_of X G a25) fun F => F.binds (ps := p_law_cells) fun _ _ _ _ _ _ us hl => match us, hl with | [_, _], _ => rfl
  have D_law_values : Df K mg "_law_values" s_law_values p_law_values := df_mk (fun_mk (st := s_law_values) l26 c26 k26) (PySem.W.mg_of X G a26) fun F => F.binds (ps := p_law_values) fun _ _ _ _ _ _ us hl => match us, hl with | [_, _], _ => rfl
  have D_law_tree : Df K mg "_law_tree" s_law_tree p_law_tree := df_mk (fun_mk (st := s_law_tree) l27 c27 k27) (PySem.W.mg_of X G a27) fun F => F.binds (ps := p_law_tree) fun _ _ _ _ _ _ us hl => match us, hl with | [_, _, _], _ => rfl
  have D_law_leaves : Df K mg "_law_leaves" s_law_leaves p_law_leaves := df_mk (fun_mk (st := s_law_leaves) l28 c28 k28) (PySem.W.mg_of X G a28) fun F => F.binds (ps := p_law_leaves) fun _ _ _ _ _ _ us hl => match us, hl with | [_], _ => rfl
  have D_law_shared : Df K mg "_law_shared" s_law_shared p_law_shared := df_mk (fun_mk (st := s_law_shared) l29 c29 k29) (PySem.W.mg_of X G a29) fun F => F.binds (ps := p_law_shared) fun _ _ _ _ _ _ us hl => match us, hl with | [_, _], _ => rfl
  have D_law_parts : Df K mg "_law_parts" s_law_parts p_law_parts := df_mk (fun_mk (st := s_law_parts) l30 c30 k30) (PySem.W.mg_of X G a30) fun F => F.binds (ps := p_law_parts) fun _ _ _ _ _ _ us hl => match us, hl with | [_, _], _ => rfl
  have D_law_absent : Df K mg "_law_absent" s_law_absent p_law_absent := df_mk (fun_mk (st := s_law_absent) l31 c31 k31) (PySem.W.mg_of X G a31) fun F => F.binds (ps := p_law_absent) fun _ _ _ _ _ _ us hl => match us, hl with | [_], _ => rfl
  have D_law_less : Df K mg "_law_less" s_law_less p_law_less := df_mk (fun_mk (st := s_law_less) l32 c32 k32) (PySem.W.mg_of X G a32) fun F => F.binds (ps := p_law_less) fun _ _ _ _ _ _ us hl => match us, hl with | [_, _], _ => rfl
  have D_law_sum : Df K mg "_law_sum" s_law_sum p_law_sum := df_mk (fun_mk (st := s_law_sum) l33 c33 k33) (PySem.W.mg_of X G a33) fun F => F.binds (ps := p_law_sum) fun _ _ _ _ _ _ us hl => match us, hl with | [_], _ => rfl
  have D_law_right : Df K mg "_law_right" s_law_right p_law_right := df_mk (fun_mk (st := s_law_right) l34 c34 k34) (PySem.W.mg_of X G a34) fun F => F.binds (ps := p_law_right) fun _ _ _ _ _ _ us hl => match us, hl with | [_, _, _], _ => rfl
  have D_law_fan_right : Df K mg "_law_fan_right" s_law_fan_right p_law_fan_right := df_mk (fun_mk (st := s_law_fan_right) l35 c35 k35) (PySem.W.mg_of X G a35) fun F => F.binds (ps := p_law_fan_right) fun _ _ _ _ _ _ us hl => match us, hl with | [_], _ => rfl
  have D_law : Df K mg "law" s_law p_law := df_mk (fun_mk (st := s_law) l36 c36 k36) (PySem.W.mg_of X G a36) fun F => F.binds (ps := p_law) fun _ _ _ _ _ _ us hl => match us, hl with | [_], _ => rfl
  have M_init : DfM K Cc "__init__" "ReaderCount.__init__" s_init p_init := dfm_mk (fun_mk (st := s_init) l37 c37 k37) ⟨a37, i37, k37⟩ fun F => F.binds (ps := p_init) fun _ _ _ _ _ _ us hl => match us, hl with | [_], _ => rfl
  have M_of_group : DfM K Cc "of_group" "ReaderCount.of_group" s_of_group p_of_group := dfm_mk (fun_mk (st := s_of_group) l38 c38 k38) ⟨a38, i38, k38⟩ fun F => F.binds (ps := p_of_group) fun _ _ _ _ _ _ us hl => match us, hl with | [_, _, _], _ => rfl
  have M_of_node : DfM K Cc "of_node" "ReaderCount.of_node" s_of_node p_of_node := dfm_mk (fun_mk (st := s_of_node) l39 c39 k39) ⟨a39, i39, k39⟩ fun F => F.binds (ps := p_of_node) fun _ _ _ _ _ _ us hl => match us, hl with | [_, _, _, _], _ => rfl
  refine ⟨PySem.W.fnOf "law" "law" (defArgs s_law) (defBody s_law) (defScope s_law) .none kV36 dc36 pm36 an36 cd36 ct36, fun s v => .of_eq rfl, fun base _ _ => ?_⟩
  have o1 := ok_is_cell (P := l.prog) (w := w) (base := base) D_is_cell B Cn
  have o2 := ok_is_value (P := l.prog) (w := w) (base := base) D_is_value B Cn
  have o3 := ok_is_pair D_is_pair B Cn o1 o2
  have o4 := ok_has_log_form D_has_log_form B o3
  have o5 := ok_shared_cells (P := l.prog) (w := w) (base := base) D_shared_cells B
  have o6 := ok_agreeing (P := l.prog) (w := w) (base := base) D_agreeing B
  have o7 := ok_unread_shared D_unread_shared B o5
  have o8 := ok_parts_by (P := l.prog) (w := w) (base := base) D_parts_by B
  have o9 := ok_splitting_cells D_splitting_cells B o5
  have o10 := ok_blocks D_blocks B o9 o8
  have o11 := ok_stuck_block D_stuck_block B o10
  have o12 := ok_single_group D_single_group B o11
  have o13 := ok_check_reader D_check_reader B o12
  have o14 := ok_check_logs D_check_logs B o13
  have o15 := ok_factorial (P := l.prog) (w := w) (base := base) D_factorial B
  have o16 := ok_cells_in (P := l.prog) (w := w) (base := base) D_cells_in B
  have o17 := ok_count_readers D_count_readers T B Cn (PySem.W.mg_of X G aC) M_init M_of_group M_of_node ⟨mk, kc⟩ o13 o16 o15 o7 o8
  have o18 := ok_check_log D_check_log B o14 o4
  have o19 := ok_group_after D_group_after B o6
  have o20 := ok_available D_available B o19 o7
  have o21 := ok_count_orders D_count_orders B Cn o18 o20
  have b1 := ok_law_box (P := l.prog) (w := w) (base := base) D_law_box B
  have b2 := ok_law_take (P := l.prog) (w := w) (base := base) D_law_take B
  have b3 := ok_law_of D_law_of B b2
  have b4 := ok_law_cells D_law_cells B b2 b3
  have b5 := ok_law_values D_law_values B b2
  have b6 := ok_law_tree D_law_tree B b2 b5 8
  have b7 := ok_law_leaves (P := l.prog) (w := w) (base := base) D_law_leaves B
  have b8 := ok_law_shared (P := l.prog) (w := w) (base := base) D_law_shared B
  have b9 := ok_law_parts (P := l.prog) (w := w) (base := base) D_law_parts B
  have b10 := ok_law_absent (P := l.prog) (w := w) (base := base) D_law_absent B
  have b11 := ok_law_less (P := l.prog) (w := w) (base := base) D_law_less B
  have b12 := ok_law_sum D_law_sum B b8 b9 b11 o17
  have b13 := ok_law_right D_law_right B o17 b12 o21 b10
  have b14 := ok_law_fan_right D_law_fan_right B b2 b4 o17
  obtain ⟨f', fd', F, hm, _, _, oc', od', sl', lk⟩ := ok_law D_law B b1 b2 b4 b6 b7 b13 b14
  have e1 := hm.symm.trans (PySem.W.mg_of X G a36)
  cases e1
  have e2 := lk.symm.trans l36
  injection e2 with e2
  injection e2 with _ _ e3 _
  injection e3 with e3
  exact e3 ▸ F
end Ro

/-! RoEnd2: the claim's theorem. Written by gen/end.py. -/
open PySem PySem.W PyProof.Rows in
set_option pp.maxSteps 150 in
set_option maxRecDepth 100000 in
set_option maxHeartbeats 0 in
theorem PySem.Challenge.cw_readorder_k86_whole_counts_by_their_part_holds : PySem.Challenge.rw_readorder_k86_whole_counts_by_their_part.Holds := by
  w_on; o_law; k_head; (case hw => w_witness2)
  k_fill
  refine Ro.walkG (l := PySem.Challenge.rw_readorder_k86_whole_counts_by_their_part) (n := 63) (k := 31) (sp := Ro.spLaw) (x := "_law_script") rfl (by decide) rfl ⟨rfl, by decide, by decide⟩ (fun w h Y => PySem.W.kIn_of Y) ?F (fun K H a ns hl _ hS => ⟨a, ns, rfl, hS, hl, fun _ => rfl⟩)
  case F =>
    intro w mg fa h KX G hmg
    refine' Ro.all_joined KX G hmg ?a1 ?l1 ?c1 ?k1 ?a2 ?l2 ?c2 ?k2 ?a3 ?l3 ?c3 ?k3 ?a4 ?l4 ?c4 ?k4 ?a5 ?l5 ?c5 ?k5 ?a6 ?l6 ?c6 ?k6 ?a7 ?l7 ?c7 ?k7 ?a8 ?l8 ?c8 ?k8 ?a9 ?l9 ?c9 ?k9 ?a10 ?l10 ?c10 ?k10 ?a11 ?l11 ?c11 ?k11 ?a12 ?l12 ?c12 ?k12 ?a13 ?l13 ?c13 ?k13 ?a14 ?l14 ?c14 ?k14 ?a15 ?l15 ?c15 ?k15 ?a16 ?l16 ?c16 ?k16 ?a17 ?l17 ?c17 ?k17 ?a18 ?l18 ?c18 ?k18 ?a19 ?l19 ?c19 ?k19 ?a20 ?l20 ?c20 ?k20 ?a21 ?l21 ?c21 ?k21 ?a22 ?l22 ?c22 ?k22 ?a23 ?l23 ?c23 ?k23 ?a24 ?l24 ?c24 ?k24 ?a25 ?l25 ?c25 ?k25 ?a26 ?l26 ?c26 ?k26 ?a27 ?l27 ?c27 ?k27 ?a28 ?l28 ?c28 ?k28 ?a29 ?l29 ?c29 ?k29 ?a30 ?l30 ?c30 ?k30 ?a31 ?l31 ?c31 ?k31 ?a32 ?l32 ?c32 ?k32 ?a33 ?l33 ?c33 ?k33 ?a34 ?l34 ?c34 ?k34 ?a35 ?l35 ?c35 ?k35 ?a36 ?l36 ?c36 ?k36 ?a37 ?i37 ?l37 ?c37 ?k37 ?a38 ?i38 ?l38 ?c38 ?k38 ?a39 ?i39 ?l39 ?c39 ?k39 ?aC ?pg ?hd ?po ?sa ?mk ?kc ?nK ?v_letters8 ?v_value9 ?v_letters ?v_pair ?v_cells12 ?v_logs60 ?v_counted12 ?z_isinstance ?z_str ?z_int ?z_bool ?z_tuple ?z_list ?z_dict ?z_set ?z_len ?z_all ?z_zip ?z_sorted ?z_sum ?z_range ?z_abs ?z_min ?z_max ?z_repr ?z_enumerate
    (case aC => k_is)
    (case pg => k_is)
    (case hd => k_is)
    (case po => k_is)
    (case sa => k_is)
    (case mk => k_is)
    (case kc => k_is)
    (case nK => k_is)
    (case a1 => k_is)
    (case l1 => k_is)
    (case c1 => k_is)
    (case k1 => k_is)
    (case a2 => k_is)
    (case l2 => k_is)
    (case c2 => k_is)
    (case k2 => k_is)
    (case a3 => k_is)
    (case l3 => k_is)
    (case c3 => k_is)
    (case k3 => k_is)
    (case a4 => k_is)
    (case l4 => k_is)
    (case c4 => k_is)
    (case k4 => k_is)
    (case a5 => k_is)
    (case l5 => k_is)
    (case c5 => k_is)
    (case k5 => k_is)
    (case a6 => k_is)
    (case l6 => k_is)
    (case c6 => k_is)
    (case k6 => k_is)
    (case a7 => k_is)
    (case l7 => k_is)
    (case c7 => k_is)
    (case k7 => k_is)
    (case a8 => k_is)
    (case l8 => k_is)
    (case c8 => k_is)
    (case k8 => k_is)
    (case a9 => k_is)
    (case l9 => k_is)
    (case c9 => k_is)
    (case k9 => k_is)
    (case a10 => k_is)
    (case l10 => k_is)
    (case c10 => k_is)
    (case k10 => k_is)
    (case a11 => k_is)
    (case l11 => k_is)
    (case c11 => k_is)
    (case k11 => k_is)
    (case a12 => k_is)
    (case l12 => k_is)
    (case c12 => k_is)
    (case k12 => k_is)
    (case a13 => k_is)
    (case l13 => k_is)
    (case c13 => k_is)
    (case k13 => k_is)
    (case a14 => k_is)
    (case l14 => k_is)
    (case c14 => k_is)
    (case k14 => k_is)
    (case a15 => k_is)
    (case l15 => k_is)
    (case c15 => k_is)
    (case k15 => k_is)
    (case a16 => k_is)
    (case l16 => k_is)
    (case c16 => k_is)
    (case k16 => k_is)
    (case a17 => k_is)
    (case l17 => k_is)
    (case c17 => k_is)
    (case k17 => k_is)
    (case a18 => k_is)
    (case l18 => k_is)
    (case c18 => k_is)
    (case k18 => k_is)
    (case a19 => k_is)
    (case l19 => k_is)
    (case c19 => k_is)
    (case k19 => k_is)
    (case a20 => k_is)
    (case l20 => k_is)
    (case c20 => k_is)
    (case k20 => k_is)
    (case a21 => k_is)
    (case l21 => k_is)
    (case c21 => k_is)
    (case k21 => k_is)
    (case a22 => k_is)
    (case l22 => k_is)
    (case c22 => k_is)
    (case k22 => k_is)
    (case a23 => k_is)
    (case l23 => k_is)
    (case c23 => k_is)
    (case k23 => k_is)
    (case a24 => k_is)
    (case l24 => k_is)
    (case c24 => k_is)
    (case k24 => k_is)
    (case a25 => k_is)
    (case l25 => k_is)
    (case c25 => k_is)
    (case k25 => k_is)
    (case a26 => k_is)
    (case l26 => k_is)
    (case c26 => k_is)
    (case k26 => k_is)
    (case a27 => k_is)
    (case l27 => k_is)
    (case c27 => k_is)
    (case k27 => k_is)
    (case a28 => k_is)
    (case l28 => k_is)
    (case c28 => k_is)
    (case k28 => k_is)
    (case a29 => k_is)
    (case l29 => k_is)
    (case c29 => k_is)
    (case k29 => k_is)
    (case a30 => k_is)
    (case l30 => k_is)
    (case c30 => k_is)
    (case k30 => k_is)
    (case a31 => k_is)
    (case l31 => k_is)
    (case c31 => k_is)
    (case k31 => k_is)
    (case a32 => k_is)
    (case l32 => k_is)
    (case c32 => k_is)
    (case k32 => k_is)
    (case a33 => k_is)
    (case l33 => k_is)
    (case c33 => k_is)
    (case k33 => k_is)
    (case a34 => k_is)
    (case l34 => k_is)
    (case c34 => k_is)
    (case k34 => k_is)
    (case a35 => k_is)
    (case l35 => k_is)
    (case c35 => k_is)
    (case k35 => k_is)
    (case a36 => k_is)
    (case l36 => k_is)
    (case c36 => k_is)
    (case k36 => k_is)
    (case a37 => k_is)
    (case i37 => k_is)
    (case l37 => k_is)
    (case c37 => k_is)
    (case k37 => k_is)
    (case a38 => k_is)
    (case i38 => k_is)
    (case l38 => k_is)
    (case c38 => k_is)
    (case k38 => k_is)
    (case a39 => k_is)
    (case i39 => k_is)
    (case l39 => k_is)
    (case c39 => k_is)
    (case k39 => k_is)
    (case v_letters8 => k_is)
    (case v_value9 => k_is)
    (case v_letters => k_is)
    (case v_pair => k_is)
    (case v_cells12 => k_is)
    (case v_logs60 => k_is)
    (case v_counted12 => k_is)
    (case z_isinstance => k_is)
    (case z_str => k_is)
    (case z_int => k_is)
    (case z_bool => k_is)
    (case z_tuple => k_is)
    (case z_list => k_is)
    (case z_dict => k_is)
    (case z_set => k_is)
    (case z_len => k_is)
    (case z_all => k_is)
    (case z_zip => k_is)
    (case z_sorted => k_is)
    (case z_sum => k_is)
    (case z_range => k_is)
    (case z_abs => k_is)
    (case z_min => k_is)
    (case z_max => k_is)
    (case z_repr => k_is)
    (case z_enumerate => k_is)
#print axioms PySem.Challenge.cw_readorder_k86_whole_counts_by_their_part_holds
