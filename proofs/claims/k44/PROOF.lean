import PyProof.Rows.All
import Wide.All
import OpenK.AllK
import Wide.FinOn
import HandS.ForMost
import HandS.DictSub
import HandS.DictComp
import HandS.SetKeys
import HandS.Walk
import HandS.SortInts
import HandS.SortRule
import HandS.Deep
import HandS.Flow
import HandS.Wide
import HandS.Finally
import HandS.IsInst
import PySem.Challenge.RW_solvedpapers_k44_ways_by_turns
set_option Elab.async false
set_option linter.all false
set_option maxRecDepth 100000
set_option maxHeartbeats 4000000
section P_K44a
set_option autoImplicit false
namespace L2.K44
/-- a limit: height x - height y ≤ k -/
structure Lim where
  x : Int
  y : Int
  k : Int
  lab : Int
deriving DecidableEq

def Holds (h : Int → Int) (l : Lim) : Prop := h l.x - h l.y ≤ l.k
def Feas (ls : List Lim) : Prop := ∃ h : Int → Int, ∀ l ∈ ls, Holds h l

def fset (d : Int → Int) (p v : Int) : Int → Int := fun q => if q = p then v else d q
theorem fset_same {d : Int → Int} {p v : Int} : fset d p v p = v := by simp [fset]
theorem fset_ne {d : Int → Int} {p q v : Int} (h : q ≠ p) : fset d p v q = d q := by simp [fset, h]

/-! ### rounds -/
def rstep (s : (Int → Int) × Bool) (l : Lim) : (Int → Int) × Bool :=
  if s.1 l.x > s.1 l.y + l.k then (fset s.1 l.x (s.1 l.y + l.k), false) else s
def roundF (d : Int → Int) (ls : List Lim) : (Int → Int) × Bool := ls.foldl rstep (d, true)
def bf : Nat → (Int → Int) → List Lim → Bool
  | 0, _, _ => false
  | n + 1, d, ls => if (roundF d ls).2 then true else bf n (roundF d ls).1 ls

theorem fold_false : ∀ (ls : List Lim) (d : Int → Int), (ls.foldl rstep (d, false)).2 = false
  | [], _ => rfl
  | l :: ls, d => by
    simp only [List.foldl_cons, rstep]
    split
    · exact fold_false ls _
    · exact fold_false ls _
theorem fold_le : ∀ (ls : List Lim) (s : (Int → Int) × Bool) (p : Int), (ls.foldl rstep s).1 p ≤ s.1 p
  | [], _, _ => Int.le_refl _
  | l :: ls, s, p => by
    simp only [List.foldl_cons]
    refine Int.le_trans (fold_le ls _ p) ?_
    unfold rstep
    split
    · by_cases e : p = l.x
      · subst e; simp only [fset_same]; omega
      · simp only [fset_ne e]; omega
    · omega
theorem fold_ge {e : Int → Int} : ∀ (ls : List Lim) (s : (Int → Int) × Bool) (ps : List Int), (∀ l ∈ ls, Holds e l) → (∀ l ∈ ls, l.x ∈ ps ∧ l.y ∈ ps) → (∀ p ∈ ps, e p ≤ s.1 p) → ∀ p ∈ ps, e p ≤ (ls.foldl rstep s).1 p
  | [], _, _, _, _, h => h
  | l :: ls, s, ps, he, hp, h => by
    simp only [List.foldl_cons]
    refine fold_ge ls _ ps (fun q hq => he q (List.mem_cons_of_mem _ hq)) (fun q hq => hp q (List.mem_cons_of_mem _ hq)) ?_
    intro p m
    unfold rstep
    split
    · by_cases c : p = l.x
      · subst c
        simp only [fset_same]
        have h1 := he l List.mem_cons_self
        have h2 := h l.y (hp l List.mem_cons_self).2
        unfold Holds at h1
        omega
      · simp only [fset_ne c]; exact h p m
    · exact h p m
theorem fold_calm : ∀ (ls : List Lim) (d : Int → Int), (ls.foldl rstep (d, true)).2 = true → (ls.foldl rstep (d, true)).1 = d ∧ ∀ l ∈ ls, Holds d l
  | [], _, _ => ⟨rfl, fun _ h => nomatch h⟩
  | l :: ls, d, h => by
    simp only [List.foldl_cons, rstep] at h ⊢
    split at h
    · rw [fold_false] at h; cases h
    · rename_i hc
      rw [if_neg hc]
      obtain ⟨h1, h2⟩ := fold_calm ls d h
      refine ⟨h1, fun q hq => ?_⟩
      rcases List.mem_cons.mp hq with rfl | hq
      · unfold Holds; omega
      · exact h2 q hq
theorem fold_hold : ∀ (ls : List Lim) (d : Int → Int), (∀ l ∈ ls, Holds d l) → ls.foldl rstep (d, true) = (d, true)
  | [], _, _ => rfl
  | l :: ls, d, h => by
    have h1 := h l List.mem_cons_self
    unfold Holds at h1
    simp only [List.foldl_cons, rstep]
    rw [if_neg (by omega)]
    exact fold_hold ls d fun q hq => h q (List.mem_cons_of_mem _ hq)
/-- behind a round each limit's first place is at most the second one's of before, plus k -/
theorem fold_tight : ∀ (ls : List Lim) (s : (Int → Int) × Bool) (l : Lim), l ∈ ls → (ls.foldl rstep s).1 l.x ≤ s.1 l.y + l.k
  | q :: ls, s, l, h => by
    simp only [List.foldl_cons]
    rcases List.mem_cons.mp h with rfl | h
    · refine Int.le_trans (fold_le ls _ _) ?_
      unfold rstep
      split
      · simp only [fset_same]; omega
      · omega
    · have h1 := fold_tight ls (rstep s q) l h
      have h2 := fold_le [q] s l.y
      simp only [List.foldl_cons, List.foldl_nil] at h2
      omega
/-- where a round is not calm, some place of ps falls -/
theorem fold_falls : ∀ (ls : List Lim) (d : Int → Int) (ps : List Int), (∀ l ∈ ls, l.x ∈ ps ∧ l.y ∈ ps) → (ls.foldl rstep (d, true)).2 = false → ∃ p ∈ ps, (ls.foldl rstep (d, true)).1 p < d p
  | [], _, _, _, h => nomatch h
  | l :: ls, d, ps, hp, h => by
    simp only [List.foldl_cons, rstep] at h ⊢
    split at h
    · rename_i c
      rw [if_pos c]
      refine ⟨l.x, (hp l List.mem_cons_self).1, ?_⟩
      have := fold_le ls (fset d l.x (d l.y + l.k), false) l.x
      simp only [fset_same] at this
      omega
    · rename_i c
      rw [if_neg c]
      exact fold_falls ls d ps (fun q hq => hp q (List.mem_cons_of_mem _ hq)) h

def iter (ls : List Lim) : Nat → (Int → Int)
  | 0 => fun _ => 0
  | n + 1 => (roundF (iter ls n) ls).1

def sumOn (ps : List Int) (d : Int → Int) : Int := (ps.map d).sum
theorem sumOn_le {ps : List Int} {d e : Int → Int} (h : ∀ p ∈ ps, d p ≤ e p) : sumOn ps d ≤ sumOn ps e := by
  induction ps with
  | nil => exact Int.le_refl _
  | cons p ps ih =>
    have h1 := ih fun q hq => h q (List.mem_cons_of_mem _ hq)
    have h2 := h p List.mem_cons_self
    simp only [sumOn, List.map_cons, List.sum_cons] at *
    omega
theorem sumOn_lt {ps : List Int} {d e : Int → Int} (h : ∀ p ∈ ps, d p ≤ e p) (hl : ∃ p ∈ ps, d p < e p) : sumOn ps d < sumOn ps e := by
  induction ps with
  | nil => obtain ⟨_, h, _⟩ := hl; nomatch h
  | cons p ps ih =>
    have hr : ∀ q ∈ ps, d q ≤ e q := fun q hq => h q (List.mem_cons_of_mem _ hq)
    have h2 := h p List.mem_cons_self
    obtain ⟨q, hq, lt⟩ := hl
    have h3 := sumOn_le hr
    rcases List.mem_cons.mp hq with rfl | hq
    · simp only [sumOn, List.map_cons, List.sum_cons] at *
      omega
    · have h1 := ih hr ⟨q, hq, lt⟩
      simp only [sumOn, List.map_cons, List.sum_cons] at *
      omega

theorem iter_nonpos (ls : List Lim) : ∀ n p, iter ls n p ≤ 0
  | 0, _ => Int.le_refl _
  | n + 1, p => Int.le_trans (fold_le ls _ p) (iter_nonpos ls n p)
theorem iter_ge {ls : List Lim} {ps : List Int} {e : Int → Int} (he : ∀ l ∈ ls, Holds e l) (hp : ∀ l ∈ ls, l.x ∈ ps ∧ l.y ∈ ps) (h0 : ∀ p ∈ ps, e p ≤ 0) : ∀ n, ∀ p ∈ ps, e p ≤ iter ls n p
  | 0 => h0
  | n + 1 => fold_ge ls _ ps he hp (iter_ge he hp h0 n)
theorem top_of (h : Int → Int) : ∀ ps : List Int, ∃ m : Int, ∀ p ∈ ps, h p ≤ m
  | [] => ⟨0, fun _ h => nomatch h⟩
  | p :: ps => by
    obtain ⟨m, hm⟩ := top_of h ps
    refine ⟨max m (h p), fun q hq => ?_⟩
    rcases List.mem_cons.mp hq with rfl | hq
    · omega
    · have := hm q hq; omega
/-- from some heights: heights that are at most zero at the places -/
theorem feas_low {ls : List Lim} (ps : List Int) (h : Feas ls) : ∃ e : Int → Int, (∀ l ∈ ls, Holds e l) ∧ ∀ p ∈ ps, e p ≤ 0 := by
  obtain ⟨g, hg⟩ := h
  obtain ⟨m, hm⟩ := top_of g ps
  refine ⟨fun p => g p - m, fun l hl => ?_, fun p hp => ?_⟩
  · have := hg l hl
    show g l.x - m - (g l.y - m) ≤ l.k
    unfold Holds at this; omega
  · have := hm p hp
    show g p - m ≤ 0
    omega
/-- the rounds come to rest -/
theorem rests {ls : List Lim} {ps : List Int} (h : Feas ls) (hp : ∀ l ∈ ls, l.x ∈ ps ∧ l.y ∈ ps) : ∃ n, (roundF (iter ls n) ls).2 = true := by
  obtain ⟨e, he, h0⟩ := feas_low ps h
  apply Classical.byContradiction
  intro no
  have all : ∀ n, (roundF (iter ls n) ls).2 = false := fun n => by
    cases c : (roundF (iter ls n) ls).2 with
    | false => rfl
    | true => exact (no ⟨n, c⟩).elim
  have fall : ∀ n : Nat, sumOn ps (iter ls n) ≤ - (n : Int) := by
    intro n
    induction n with
    | zero =>
      have : sumOn ps (fun _ => 0) ≤ 0 := by
        clear hp h0
        induction ps with
        | nil => exact Int.le_refl _
        | cons p ps ih => simp only [sumOn, List.map_cons, List.sum_cons] at *; omega
      simpa [iter] using this
    | succ n ih =>
      have h1 : sumOn ps (iter ls (n + 1)) < sumOn ps (iter ls n) := sumOn_lt (fun p _ => fold_le ls _ p) (fold_falls ls _ ps hp (all n))
      omega
  have h2 : ∀ n, sumOn ps e ≤ sumOn ps (iter ls n) := fun n => sumOn_le (iter_ge he hp h0 n)
  have h3 := h2 ((-(sumOn ps e)).toNat + 1)
  have h4 := fall ((-(sumOn ps e)).toNat + 1)
  omega

def eqs (ps : List Int) (d e : Int → Int) : Nat := (ps.filter fun p => decide (d p = e p)).length
theorem eqs_le (ps : List Int) (d e : Int → Int) : eqs ps d e ≤ ps.length := List.length_filter_le _ _
theorem eqs_all {ps : List Int} {d e : Int → Int} (h : ps.length ≤ eqs ps d e) : ∀ p ∈ ps, d p = e p := by
  induction ps with
  | nil => intro p h; nomatch h
  | cons p ps ih =>
    have hl := eqs_le ps d e
    unfold eqs at h hl ih
    rw [List.filter_cons] at h
    split at h
    · rename_i c
      simp only [List.length_cons] at h
      intro q hq
      rcases List.mem_cons.mp hq with rfl | hq
      · exact of_decide_eq_true c
      · exact ih (by omega) q hq
    · simp only [List.length_cons] at h; omega
theorem eqs_mono {ps : List Int} {d d' e : Int → Int} (h : ∀ p ∈ ps, d p = e p → d' p = e p) : eqs ps d e ≤ eqs ps d' e := by
  unfold eqs
  induction ps with
  | nil => exact Nat.le_refl _
  | cons p ps ih =>
    have h1 := ih fun q hq => h q (List.mem_cons_of_mem _ hq)
    have h2 := h p List.mem_cons_self
    rw [List.filter_cons, List.filter_cons]
    split
    · rename_i c
      rw [if_pos (decide_eq_true (h2 (of_decide_eq_true c)))]
      simp only [List.length_cons]; omega
    · split
      · simp only [List.length_cons]; omega
      · exact h1
theorem eqs_more {ps : List Int} {d d' e : Int → Int} (h : ∀ p ∈ ps, d p = e p → d' p = e p) (hx : ∃ p ∈ ps, d p ≠ e p ∧ d' p = e p) : eqs ps d e < eqs ps d' e := by
  induction ps with
  | nil => obtain ⟨_, h, _⟩ := hx; nomatch h
  | cons p ps ih =>
    have hr : ∀ q ∈ ps, d q = e q → d' q = e q := fun q hq => h q (List.mem_cons_of_mem _ hq)
    have h2 := h p List.mem_cons_self
    have h3 := eqs_mono hr
    obtain ⟨q, hq, n1, n2⟩ := hx
    unfold eqs at h3 ih ⊢
    rw [List.filter_cons, List.filter_cons]
    rcases List.mem_cons.mp hq with rfl | hq
    · rw [if_neg (by simpa using n1), if_pos (decide_eq_true n2)]
      simp only [List.length_cons]; omega
    · have h1 := ih hr ⟨q, hq, n1, n2⟩
      split
      · rename_i c
        rw [if_pos (decide_eq_true (h2 (of_decide_eq_true c)))]
        simp only [List.length_cons]; omega
      · split
        · simp only [List.length_cons]; omega
        · exact h1

/-- after as many rounds as there are places the rounds stand still -/
theorem rests_soon {ls : List Lim} {ps : List Int} (h : Feas ls) (hp : ∀ l ∈ ls, l.x ∈ ps ∧ l.y ∈ ps) : ∀ l ∈ ls, Holds (iter ls ps.length) l := by
  obtain ⟨R, hR⟩ := rests h hp
  obtain ⟨hD1, hD⟩ := fold_calm ls _ hR
  have hmono : ∀ n m p, iter ls (n + m) p ≤ iter ls n p := by
    intro n m p
    induction m with
    | zero => exact Int.le_refl _
    | succ m ih => exact Int.le_trans (fold_le ls _ p) ih
  -- D is the greatest
  have great : ∀ e : Int → Int, (∀ l ∈ ls, Holds e l) → (∀ p ∈ ps, e p ≤ 0) → ∀ p ∈ ps, e p ≤ iter ls R p := fun e he h0 => iter_ge he hp h0 R
  have low : ∀ n, ∀ p ∈ ps, iter ls R p ≤ iter ls n p := fun n => iter_ge hD hp (fun p _ => iter_nonpos ls R p) n
  have keep : ∀ n, ∀ p ∈ ps, iter ls n p = iter ls R p → iter ls (n + 1) p = iter ls R p := fun n p m e => by
    have h1 := low (n + 1) p m
    have h2 : iter ls (n + 1) p ≤ iter ls n p := fold_le ls _ p
    omega
  have grow : ∀ n, n ≤ ps.length → n ≤ eqs ps (iter ls n) (iter ls R) := by
    intro n
    induction n with
    | zero => intro _; exact Nat.zero_le _
    | succ n ih =>
      intro hn
      have h1 := ih (by omega)
      by_cases full : ∀ p ∈ ps, iter ls n p = iter ls R p
      · have h2 : eqs ps (iter ls (n + 1)) (iter ls R) = ps.length := by
          unfold eqs
          rw [List.filter_eq_self.mpr fun p m => decide_eq_true (keep n p m (full p m))]
        omega
      · -- some place is not there yet: there is a tight limit into what is not there
        have ex : ∃ l ∈ ls, iter ls n l.x ≠ iter ls R l.x ∧ iter ls n l.y = iter ls R l.y ∧ iter ls R l.x = iter ls R l.y + l.k := by
          apply Classical.byContradiction
          intro no
          have h3 := great (fun p => if iter ls n p = iter ls R p then iter ls R p else iter ls R p + 1) (fun l hl => by
            have hh := hD l hl
            unfold Holds at hh ⊢
            by_cases c1 : iter ls n l.x = iter ls R l.x <;> by_cases c2 : iter ls n l.y = iter ls R l.y
            · simp only [if_pos c1, if_pos c2]; exact hh
            · simp only [if_pos c1, if_neg c2]; omega
            · simp only [if_neg c1, if_pos c2]
              have : iter ls R l.x ≠ iter ls R l.y + l.k := fun q => no ⟨l, hl, c1, c2, q⟩
              omega
            · simp only [if_neg c1, if_neg c2]; omega) (fun p m => by
            have a := iter_nonpos ls n p
            have b := iter_nonpos ls R p
            have c := low n p m
            by_cases c1 : iter ls n p = iter ls R p
            · simp only [if_pos c1]; omega
            · simp only [if_neg c1]; omega)
          apply full
          intro p m
          have h4 := h3 p m
          split at h4
          · assumption
          · omega
        obtain ⟨l, hl, a, b, c⟩ := ex
        have t := fold_tight ls (iter ls n, true) l hl
        have t1 : iter ls (n + 1) l.x ≤ iter ls n l.y + l.k := t
        have t2 := low (n + 1) l.x (hp l hl).1
        have h4 := eqs_more (keep n) ⟨l.x, (hp l hl).1, a, by omega⟩
        omega
  have full := eqs_all (grow ps.length (Nat.le_refl _))
  intro l hl
  have h1 := hD l hl
  unfold Holds at *
  rw [full _ (hp l hl).1, full _ (hp l hl).2]
  exact h1

theorem bf_sound : ∀ (n : Nat) (d : Int → Int) (ls : List Lim), bf n d ls = true → Feas ls
  | 0, _, _, h => nomatch h
  | n + 1, d, ls, h => by
    unfold bf at h
    split at h
    · rename_i c; exact ⟨d, (fold_calm ls d c).2⟩
    · exact bf_sound n _ ls h
theorem bf_iter (ls : List Lim) (m : Nat) (hm : ∀ l ∈ ls, Holds (iter ls m) l) : ∀ (n j : Nat), j ≤ m → m < j + n → bf n (iter ls j) ls = true
  | 0, j, h1, h2 => absurd h2 (by omega)
  | n + 1, j, h1, h2 => by
    unfold bf
    split
    · rfl
    · rename_i c
      have ne : j ≠ m := fun e => by subst e; exact c (by rw [roundF, fold_hold ls _ hm])
      exact bf_iter ls m hm n (j + 1) (by omega) (by omega)
theorem bf_iff {ls : List Lim} {ps : List Int} (hp : ∀ l ∈ ls, l.x ∈ ps ∧ l.y ∈ ps) : bf (ps.length + 1) (fun _ => 0) ls = true ↔ Feas ls :=
  ⟨bf_sound _ _ ls, fun h => bf_iter ls ps.length (rests_soon h hp) (ps.length + 1) 0 (by omega) (by omega)⟩
end L2.K44
end P_K44a
section P_K44b
set_option autoImplicit false
namespace L2.K44
/-! ### a heap of triples, least first, as heapq does it -/
abbrev T3 := Int × Int × Int
def lt3 (a b : T3) : Bool := decide (a.1 < b.1 ∨ (a.1 = b.1 ∧ (a.2.1 < b.2.1 ∨ (a.2.1 = b.2.1 ∧ a.2.2 < b.2.2))))
theorem lt3_irrefl (a : T3) : lt3 a a = false := by
  unfold lt3; apply decide_eq_false; omega
/-- a ≤ b -/
def le3 (a b : T3) : Prop := lt3 b a = false
theorem le3_of_lt {a b : T3} (h : lt3 a b = true) : le3 a b := by
  unfold lt3 at h; unfold le3 lt3
  have := of_decide_eq_true h
  apply decide_eq_false; omega
theorem le3_refl (a : T3) : le3 a a := lt3_irrefl a
theorem le3_trans {a b c : T3} (h : le3 a b) (g : le3 b c) : le3 a c := by
  unfold le3 lt3 at *
  have h' := of_decide_eq_false h
  have g' := of_decide_eq_false g
  apply decide_eq_false; omega
theorem le3_fst {a b : T3} (h : le3 a b) : a.1 ≤ b.1 := by
  unfold le3 lt3 at h
  have h' := of_decide_eq_false h
  omega
section
variable {α : Type} (val : α → T3)
/-- the heap's order, by places -/
def HOrd (xs : List α) : Prop := ∀ i x p, 0 < i → xs[i]? = some x → xs[(i - 1) / 2]? = some p → le3 (val p) (val x)
theorem HOrd.root {xs : List α} (h : HOrd val xs) : ∀ (i : Nat) (x r : α), xs[i]? = some x → xs[0]? = some r → le3 (val r) (val x) := by
  intro i
  induction i using Nat.strongRecOn with
  | ind i ih =>
    intro x r hx hr
    by_cases e : i = 0
    · subst e; rw [hx] at hr; cases hr; exact le3_refl _
    · have hi : i < xs.length := (List.getElem?_eq_some_iff.mp hx).1
      have hp : (i - 1) / 2 < xs.length := by omega
      have e2 : xs[(i - 1) / 2]? = some xs[(i - 1) / 2] := List.getElem?_eq_getElem hp
      exact le3_trans (ih _ (by omega) _ r e2 hr) (h i x _ (by omega) hx e2)

def swp (xs : List α) (i j : Nat) (x y : α) : List α := (xs.set i y).set j x

/-- on the way down: all is in order but around pos -/
structure Down (xs : List α) (pos : Nat) : Prop where
  ord : ∀ i x p, 0 < i → i ≠ pos → (i - 1) / 2 ≠ pos → xs[i]? = some x → xs[(i - 1) / 2]? = some p → le3 (val p) (val x)
  thru : ∀ i x p, 0 < pos → 0 < i → (i - 1) / 2 = pos → xs[i]? = some x → xs[(pos - 1) / 2]? = some p → le3 (val p) (val x)
/-- on the way up: all is in order but pos with its parent -/
structure Up (xs : List α) (pos : Nat) : Prop where
  ord : ∀ i x p, 0 < i → i ≠ pos → xs[i]? = some x → xs[(i - 1) / 2]? = some p → le3 (val p) (val x)
  thru : ∀ i x p, 0 < pos → 0 < i → (i - 1) / 2 = pos → xs[i]? = some x → xs[(pos - 1) / 2]? = some p → le3 (val p) (val x)
variable {val}
theorem get_swp {xs : List α} {i j : Nat} {x y : α} (hi : xs[i]? = some x) (hj : xs[j]? = some y) (ne : i ≠ j) (k : Nat) : (swp xs i j x y)[k]? = if k = j then some x else if k = i then some y else xs[k]? := by
  have li : i < xs.length := (List.getElem?_eq_some_iff.mp hi).1
  have lj : j < xs.length := (List.getElem?_eq_some_iff.mp hj).1
  unfold swp
  rw [List.getElem?_set, List.getElem?_set]
  by_cases e : k = j
  · subst e
    rw [if_pos rfl, if_pos rfl]
    simp [lj]
  · rw [if_neg (Ne.symm e), if_neg e]
    by_cases e2 : k = i
    · subst e2
      rw [if_pos rfl, if_pos rfl, if_pos li]
    · rw [if_neg (Ne.symm e2), if_neg e2]
/-- one turn down: the lesser child c comes up -/
theorem Down.turn {xs : List α} {pos c : Nat} {x y : α} (D : Down val xs pos) (hc : (c - 1) / 2 = pos) (c0 : 0 < c) (hy : xs[c]? = some y) (hx : xs[pos]? = some x)
    (least : ∀ i z, 0 < i → (i - 1) / 2 = pos → xs[i]? = some z → le3 (val y) (val z)) : Down val (swp xs c pos y x) c := by
  have ne : c ≠ pos := by omega
  have G := get_swp hy hx ne
  constructor
  · intro i a p i0 ic pc ha hp
    rw [G] at ha hp
    rw [if_neg ic] at ha
    rw [if_neg pc] at hp
    by_cases e : i = pos
    · subst e
      rw [if_pos rfl] at ha
      cases ha
      rw [if_neg (by omega)] at hp
      exact D.thru c y p (by omega) c0 hc hy hp
    · rw [if_neg e] at ha
      by_cases e2 : (i - 1) / 2 = pos
      · rw [if_pos e2] at hp
        cases hp
        exact least i a i0 e2 ha
      · rw [if_neg e2] at hp
        exact D.ord i a p i0 e e2 ha hp
  · intro i a p _ i0 pi ha hp
    rw [G] at ha hp
    rw [hc, if_pos rfl] at hp
    cases hp
    rw [if_neg (by omega), if_neg (by omega)] at ha
    exact D.ord i a _ i0 (by omega) (by omega) ha (by rw [pi]; exact hy)
theorem Down.up {xs : List α} {pos : Nat} (D : Down val xs pos) (leaf : xs.length ≤ 2 * pos + 1) : Up val xs pos :=
  ⟨fun i x p i0 ne hx hp => D.ord i x p i0 ne (fun e => by
    have := (List.getElem?_eq_some_iff.mp hx).1
    omega) hx hp, D.thru⟩
theorem Up.turn {xs : List α} {pos : Nat} {x y : α} (U : Up val xs pos) (p0 : 0 < pos) (hx : xs[pos]? = some x) (hy : xs[(pos - 1) / 2]? = some y) (lt : lt3 (val x) (val y) = true) :
    Up val (swp xs ((pos - 1) / 2) pos y x) ((pos - 1) / 2) := by
  have ne : (pos - 1) / 2 ≠ pos := by omega
  have G := get_swp hy hx ne
  have lxy := le3_of_lt lt
  constructor
  · intro i a p i0 ip ha hp
    rw [G] at ha hp
    by_cases e : i = pos
    · subst e
      rw [if_pos rfl] at ha
      cases ha
      rw [if_neg (by omega), if_pos rfl] at hp
      cases hp
      exact lxy
    · rw [if_neg e, if_neg ip] at ha
      by_cases e2 : (i - 1) / 2 = pos
      · rw [if_pos e2] at hp
        cases hp
        exact U.thru i a _ p0 i0 e2 ha hy
      · rw [if_neg e2] at hp
        by_cases e3 : (i - 1) / 2 = (pos - 1) / 2
        · rw [if_pos e3] at hp
          cases hp
          exact le3_trans lxy (U.ord i a y i0 e ha (by rw [e3]; exact hy))
        · rw [if_neg e3] at hp
          exact U.ord i a p i0 e ha hp
  · intro i a p q0 i0 ip ha hp
    rw [G] at ha hp
    rw [if_neg (by omega), if_neg (by omega)] at hp
    have hpy := U.ord _ y p q0 ne hy hp
    by_cases e : i = pos
    · subst e
      rw [if_pos rfl] at ha
      cases ha
      exact hpy
    · rw [if_neg e, if_neg (by omega)] at ha
      exact le3_trans hpy (U.ord i a y i0 e ha (by rw [ip]; exact hy))
theorem Up.done {xs : List α} {pos : Nat} (U : Up val xs pos) (h : pos = 0 ∨ ∀ x y, xs[pos]? = some x → xs[(pos - 1) / 2]? = some y → lt3 (val x) (val y) = false) : HOrd val xs := by
  intro i x p i0 hx hp
  by_cases e : i = pos
  · subst e
    rcases h with h | h
    · omega
    · exact h x p hx hp
  · exact U.ord i x p i0 e hx hp
theorem Up.push {xs : List α} {x : α} (h : HOrd val xs) : Up val (xs ++ [x]) xs.length := by
  constructor
  · intro i a p i0 ne ha hp
    have l := (List.getElem?_eq_some_iff.mp ha).1
    rw [List.length_append, List.length_singleton] at l
    rw [List.getElem?_append_left (by omega)] at ha hp
    exact h i a p i0 ha hp
  · intro i a p _ i0 e ha _
    have l := (List.getElem?_eq_some_iff.mp ha).1
    rw [List.length_append, List.length_singleton] at l
    omega
/-- the last one laid at the root -/
theorem Down.root {xs : List α} {x : α} (h : HOrd val xs) : Down val (xs.dropLast.set 0 x) 0 := by
  constructor
  · intro i a p i0 _ ne ha hp
    rw [List.getElem?_set_ne (by omega)] at ha hp
    rw [List.getElem?_dropLast] at ha hp
    split at ha
    · split at hp
      · exact h i a p i0 ha hp
      · cases hp
    · cases ha
  · intro i a p h0
    omega
theorem swp_length (xs : List α) (i j : Nat) (x y : α) : (swp xs i j x y).length = xs.length := by
  unfold swp; rw [List.length_set, List.length_set]
theorem set_perm {xs : List α} {i : Nat} {x : α} (y : α) (hx : xs[i]? = some x) : List.Perm (x :: xs.set i y) (y :: xs) := by
  induction xs generalizing i with
  | nil => simp at hx
  | cons a r ih =>
    cases i with
    | zero =>
      simp at hx
      subst hx
      exact List.Perm.swap y a r
    | succ i =>
      simp at hx
      rw [List.set_cons_succ]
      exact (List.Perm.swap a x _).trans (((ih hx).cons a).trans (List.Perm.swap y a r))
theorem swp_perm {xs : List α} {i j : Nat} {x y : α} (hi : xs[i]? = some x) (hj : xs[j]? = some y) (ne : i ≠ j) : List.Perm (swp xs i j x y) xs := by
  have h1 := set_perm (xs := xs) y hi
  have hj' : (xs.set i y)[j]? = some y := by rw [List.getElem?_set_ne ne]; exact hj
  have h2 := set_perm (xs := xs.set i y) x hj'
  exact ((h2.trans h1).cons_inv)
end
end L2.K44
end P_K44b
section P_K44c
set_option autoImplicit false
namespace L2.K44
/-! ### rings -/
/-- the row of this number (nothing asked beyond the list) -/
def row (ls : List Lim) (i : Nat) : Lim := ls.getD i ⟨0, 0, 0, 0⟩
theorem row_of {ls : List Lim} {i : Nat} {l : Lim} (h : ls[i]? = some l) : row ls i = l := by
  unfold row; rw [List.getD_eq_getElem?_getD, h]; rfl
/-- each one's second place is the next one's first place, up to z -/
inductive Chain (ls : List Lim) (z : Int) : Int → List Nat → Prop where
  | last {p : Int} {i : Nat} (hx : (row ls i).x = p) (hy : (row ls i).y = z) : Chain ls z p [i]
  | step {p : Int} {i : Nat} {is : List Nat} (hx : (row ls i).x = p) (r : Chain ls z (row ls i).y is) : Chain ls z p (i :: is)
def ksum (ls : List Lim) (is : List Nat) : Int := (is.map fun i => (row ls i).k).sum
structure Ring (ls : List Lim) (is : List Nat) : Prop where
  lt : ∀ i ∈ is, i < ls.length
  ch : ∃ p, Chain ls p p is
  nd : (is.map fun i => (row ls i).x).Nodup
  neg : ksum ls is < 0
theorem Chain.sum_ge {ls : List Lim} {h : Int → Int} {z : Int} : ∀ {p : Int} {is : List Nat}, Chain ls z p is → (∀ i ∈ is, Holds h (row ls i)) → h p - h z ≤ ksum ls is
  | _, _, .last hx hy, a => by
    have := a _ List.mem_cons_self
    unfold Holds at this
    simp only [ksum, List.map_cons, List.map_nil, List.sum_cons, List.sum_nil]
    rw [← hx, ← hy]; omega
  | _, _, .step (is := is) (i := i) hx r, a => by
    have := a _ List.mem_cons_self
    unfold Holds at this
    have ih := Chain.sum_ge r fun i hi => a i (List.mem_cons_of_mem _ hi)
    simp only [ksum, List.map_cons, List.sum_cons] at ih ⊢
    rw [← hx]; omega
theorem Ring.infeas {ls : List Lim} {is : List Nat} (r : Ring ls is) : ¬ Feas ls := by
  rintro ⟨h, hh⟩
  obtain ⟨p, c⟩ := r.ch
  have := c.sum_ge (h := h) fun i hi => by
    have := r.lt i hi
    have e : row ls i = ls[i] := row_of (List.getElem?_eq_getElem this)
    rw [e]
    exact hh _ (List.getElem_mem _)
  have := r.neg
  omega
theorem Chain.ne {ls : List Lim} {z p : Int} {is : List Nat} (c : Chain ls z p is) : is ≠ [] := by cases c <;> simp
/-! ### one limit settled -/
structure DInv (ls : List Lim) (n : Nat) (ks : List Int) (h : Int → Int) (x y k : Int) (lo : List Int) (low : Int → Int) (c : Int → Nat) (q : List T3) : Prop where
  nd : lo.Nodup
  yno : y ∉ lo
  loks : ∀ p ∈ lo, p ∈ ks
  cau : ∀ (i : Nat) (p : Int), lo[i]? = some p → (c p = n ∧ p = x ∧ low p = h y + k) ∨ (∃ l, c p < n ∧ ls[c p]? = some l ∧ l.x = p ∧ (∃ j : Nat, j < i ∧ lo[j]? = some l.y) ∧ low p = low l.y + l.k)
  neg : ∀ p ∈ lo, low p < h p
  ent : ∀ e ∈ q, e.1 < 0 ∧ ∃ i : Nat, e.2.2 = (i : Int) ∧ ((i = n ∧ e.2.1 = x ∧ h x + e.1 = h y + k) ∨ (∃ l, i < n ∧ ls[i]? = some l ∧ l.x = e.2.1 ∧ l.y ∈ lo ∧ h e.2.1 + e.1 = low l.y + l.k))
  mono : ∀ p ∈ lo, ∀ e ∈ q, low p - h p ≤ e.1
  clo : ∀ (i : Nat) l, i < n → ls[i]? = some l → l.y ∈ lo → (l.x ∈ lo ∧ low l.x ≤ low l.y + l.k) ∨ (l.x ∉ lo ∧ (h l.x ≤ low l.y + l.k ∨ (low l.y + l.k - h l.x, l.x, (i : Int)) ∈ q))
  xin : (x ∈ lo ∧ low x = h y + k) ∨ (lo = [] ∧ (h y + k - h x, x, (n : Int)) ∈ q ∧ ∀ e ∈ q, e = (h y + k - h x, x, (n : Int)))
section
variable {ls : List Lim} {n : Nat} {ks : List Int} {h : Int → Int} {x y k : Int} {lo : List Int} {low : Int → Int} {c : Int → Nat} {q q' : List T3} {e : T3}
theorem DInv.start (hlt : h y + k - h x < 0) : DInv ls n ks h x y k [] (fun _ => 0) (fun _ => 0) [(h y + k - h x, x, (n : Int))] := by
  refine ⟨List.nodup_nil, by simp, by simp, fun i p hp => by simp at hp, by simp, fun e he => ?_, by simp, fun i l _ _ hl => by simp at hl, .inr ⟨rfl, by simp, by simp⟩⟩
  rw [List.mem_singleton] at he
  subst he
  exact ⟨hlt, n, rfl, .inl ⟨rfl, rfl, by show h x + (h y + k - h x) = h y + k; omega⟩⟩
theorem DInv.perm (D : DInv ls n ks h x y k lo low c q) (p : ∀ e, e ∈ q' ↔ e ∈ q) : DInv ls n ks h x y k lo low c q' :=
  ⟨D.nd, D.yno, D.loks, D.cau, D.neg, fun e he => D.ent e ((p e).mp he), fun p' hp e he => D.mono p' hp e ((p e).mp he),
    fun i l a b d => (D.clo i l a b d).imp id fun ⟨u, v⟩ => ⟨u, v.imp id fun w => (p _).mpr w⟩, D.xin.imp id fun ⟨a, b, d⟩ => ⟨a, (p _).mpr b, fun e he => d e ((p e).mp he)⟩⟩
/-- an entry of a place that has fallen is dropped -/
theorem DInv.skip (D : DInv ls n ks h x y k lo low c (e :: q)) (m : e.2.1 ∈ lo) : DInv ls n ks h x y k lo low c q := by
  refine ⟨D.nd, D.yno, D.loks, D.cau, D.neg, fun f hf => D.ent f (List.mem_cons_of_mem _ hf), fun p hp f hf => D.mono p hp f (List.mem_cons_of_mem _ hf), fun i l a b d => ?_, ?_⟩
  · rcases D.clo i l a b d with u | ⟨u, v⟩
    · exact .inl u
    · refine .inr ⟨u, ?_⟩
      rcases v with v | v
      · exact .inl v
      · rcases List.mem_cons.mp v with w | w
        · rw [← w] at m; exact (u m).elim
        · exact .inr w
  · rcases D.xin with u | u
    · exact .inl u
    · rw [u.1] at m; simp at m
/-- what falls next -/
def fallsOf (ls : List Lim) (h : Int → Int) (lo : List Int) (low : Int → Int) (is : List Nat) : List T3 :=
  is.filterMap fun i => if low (row ls i).y + (row ls i).k - h (row ls i).x < 0 ∧ (row ls i).x ∉ lo then some (low (row ls i).y + (row ls i).k - h (row ls i).x, (row ls i).x, (i : Int)) else none
def idx (ls : List Lim) (n : Nat) (u : Int) : List Nat := (List.range n).filter fun i => decide ((row ls i).y = u)
theorem mem_idx {i : Nat} {u : Int} : i ∈ idx ls n u ↔ i < n ∧ (row ls i).y = u := by
  unfold idx; rw [List.mem_filter, List.mem_range]; simp
def nset (c : Int → Nat) (p : Int) (v : Nat) : Int → Nat := fun r => if r = p then v else c r
theorem DInv.fall (D : DInv ls n ks h x y k lo low c (e :: q)) (i0 : Nat) (hi0 : e.2.2 = (i0 : Int)) (le : n ≤ ls.length) (ok : ∀ l ∈ ls.take n, Holds h l) (xk : x ∈ ks) (lk : ∀ l ∈ ls, l.x ∈ ks ∧ l.y ∈ ks) (least : ∀ f ∈ q, e.1 ≤ f.1) (no : e.2.1 ∉ lo) (ny : e.2.1 ≠ y) :
    DInv ls n ks h x y k (lo ++ [e.2.1]) (fset low e.2.1 (h e.2.1 + e.1)) (nset c e.2.1 i0) (q ++ fallsOf ls h (lo ++ [e.2.1]) (fset low e.2.1 (h e.2.1 + e.1)) (idx ls n e.2.1)) := by
  obtain ⟨ch, pl, nu⟩ := e
  simp only at *
  have lsame : ∀ p ∈ lo, fset low pl (h pl + ch) p = low p := fun p hp => fset_ne (fun z : p = pl => no (by rw [← z]; exact hp))
  have lnew : fset low pl (h pl + ch) pl = h pl + ch := fset_same
  have csame : ∀ p ∈ lo, nset c pl i0 p = c p := fun p hp => if_neg (fun z : p = pl => no (by rw [← z]; exact hp))
  have cnew : nset c pl i0 pl = i0 := if_pos rfl
  obtain ⟨hneg, i, ei, hent⟩ := D.ent _ List.mem_cons_self
  simp only at ei hneg hent
  have : i = i0 := by rw [hi0] at ei; exact (Int.ofNat.inj ei).symm
  subst this
  have holds : ∀ (j : Nat) l, j < n → ls[j]? = some l → Holds h l := fun j l a b => ok l (List.mem_of_getElem? (i := j) (by rw [List.getElem?_take, if_pos a]; exact b))
  have mlo : ∀ p, p ∈ lo ++ [pl] ↔ p ∈ lo ∨ p = pl := fun p => by rw [List.mem_append, List.mem_singleton]
  have mfall : ∀ f, f ∈ fallsOf ls h (lo ++ [pl]) (fset low pl (h pl + ch)) (idx ls n pl) → ∃ j l, j < n ∧ ls[j]? = some l ∧ l.y = pl ∧ f = (h pl + ch + l.k - h l.x, l.x, (j : Int)) ∧ h pl + ch + l.k - h l.x < 0 ∧ l.x ∉ lo ++ [pl] := fun f hf => by
    unfold fallsOf at hf
    obtain ⟨j, hj, ej⟩ := List.mem_filterMap.mp hf
    obtain ⟨j1, j2⟩ := mem_idx.mp hj
    have e3 : ls[j]? = some (row ls j) := by
      have : j < ls.length := by omega
      rw [List.getElem?_eq_getElem this, row_of (List.getElem?_eq_getElem this)]
    split at ej
    · rename_i cnd
      rw [j2, lnew] at ej cnd
      exact ⟨j, _, j1, e3, j2, (Option.some.inj ej).symm, cnd.1, cnd.2⟩
    · cases ej
  refine ⟨?_, ?_, ?_, ?_, ?_, ?_, ?_, ?_, ?_⟩
  · exact List.nodup_append.mpr ⟨D.nd, by simp, by rintro a ha b hb rfl; rw [List.mem_singleton] at hb; subst hb; exact no ha⟩
  · rw [mlo]; rintro (u | u)
    · exact D.yno u
    · exact ny u.symm
  · intro p hp
    rcases (mlo p).mp hp with u | rfl
    · exact D.loks p u
    · rcases hent with ⟨_, u, _⟩ | ⟨l, _, u, v, _⟩
      · rw [u]; exact xk
      · rw [← v]; exact (lk l (List.mem_of_getElem? u)).1
  · intro j p hp
    by_cases hj : j < lo.length
    · rw [List.getElem?_append_left hj] at hp
      have mp := List.mem_of_getElem? hp
      rw [csame p mp, lsame p mp]
      rcases D.cau j p hp with u | ⟨l, u1, u2, u3, ⟨j2, u4, u5⟩, u6⟩
      · exact .inl u
      · exact .inr ⟨l, u1, u2, u3, ⟨j2, u4, by rw [List.getElem?_append_left (by omega)]; exact u5⟩, by rw [lsame _ (List.mem_of_getElem? u5)]; exact u6⟩
    · rw [List.getElem?_append_right (by omega)] at hp
      have hj2 : j = lo.length := by
        have := (List.getElem?_eq_some_iff.mp hp).1
        simp at this; omega
      subst hj2
      simp at hp
      subst hp
      rw [cnew, lnew]
      rcases hent with ⟨u1, u2, u3⟩ | ⟨l, u1, u2, u3, u4, u5⟩
      · exact .inl ⟨u1, u2, by rw [u2]; exact u3⟩
      · obtain ⟨j2, hj2⟩ := List.getElem?_of_mem u4
        have hl := (List.getElem?_eq_some_iff.mp hj2).1
        exact .inr ⟨l, u1, u2, u3, ⟨j2, hl, by rw [List.getElem?_append_left hl]; exact hj2⟩, by rw [lsame _ u4]; exact u5⟩
  · intro p hp
    rcases (mlo p).mp hp with u | rfl
    · rw [lsame p u]; exact D.neg p u
    · rw [lnew]; omega
  · intro f hf
    rcases List.mem_append.mp hf with hf | hf
    · obtain ⟨a, i2, b, d⟩ := D.ent f (List.mem_cons_of_mem _ hf)
      refine ⟨a, i2, b, d.imp id ?_⟩
      rintro ⟨l, u1, u2, u3, u4, u5⟩
      exact ⟨l, u1, u2, u3, (mlo _).mpr (.inl u4), by rw [lsame _ u4]; exact u5⟩
    · obtain ⟨j, l, j1, j2, j3, rfl, j5, j6⟩ := mfall f hf
      exact ⟨j5, j, rfl, .inr ⟨l, j1, j2, rfl, (mlo _).mpr (.inr j3), by rw [j3, lnew]; show h l.x + (h pl + ch + l.k - h l.x) = _; omega⟩⟩
  · intro p hp f hf
    have key : fset low pl (h pl + ch) p - h p ≤ ch := by
      rcases (mlo p).mp hp with u | rfl
      · rw [lsame p u]; exact D.mono p u _ List.mem_cons_self
      · rw [lnew]; omega
    rcases List.mem_append.mp hf with hf | hf
    · have := least f hf; omega
    · obtain ⟨j, l, j1, j2, j3, rfl, j5, j6⟩ := mfall f hf
      have hh := holds j l j1 j2
      unfold Holds at hh
      rw [j3] at hh
      show _ ≤ h pl + ch + l.k - h l.x
      omega
  · intro j l j1 j2 hy
    have hh := holds j l j1 j2
    unfold Holds at hh
    rcases (mlo _).mp hy with u | u
    · rw [lsame _ u]
      rcases D.clo j l j1 j2 u with ⟨v1, v2⟩ | ⟨v1, v2⟩
      · exact .inl ⟨(mlo _).mpr (.inl v1), by rw [lsame _ v1]; exact v2⟩
      · by_cases cx : l.x = pl
        · refine .inl ⟨(mlo _).mpr (.inr cx), ?_⟩
          rw [cx, lnew]
          rw [cx] at v2
          rcases v2 with v2 | v2
          · omega
          · rcases List.mem_cons.mp v2 with w | w
            · have : low l.y + l.k - h pl = ch := congrArg Prod.fst w
              omega
            · have : ch ≤ low l.y + l.k - h pl := least _ w
              omega
        · refine .inr ⟨fun z => ((mlo _).mp z).elim v1 cx, v2.imp id fun w => ?_⟩
          rcases List.mem_cons.mp w with w | w
          · have : l.x = pl := congrArg (fun t : T3 => t.2.1) w
            exact (cx this).elim
          · exact List.mem_append_left _ w
    · rw [u, lnew]
      rw [u] at hh
      by_cases mx : l.x ∈ lo
      · refine .inl ⟨(mlo _).mpr (.inl mx), ?_⟩
        rw [lsame _ mx]
        have : low l.x - h l.x ≤ ch := D.mono _ mx _ List.mem_cons_self
        omega
      · by_cases cx : l.x = pl
        · refine .inl ⟨(mlo _).mpr (.inr cx), ?_⟩
          rw [cx, lnew]
          rw [cx] at hh
          omega
        · have nx : l.x ∉ lo ++ [pl] := fun z => ((mlo _).mp z).elim mx cx
          refine .inr ⟨nx, ?_⟩
          by_cases cc : h l.x ≤ h pl + ch + l.k
          · exact .inl cc
          · refine .inr (List.mem_append_right _ ?_)
            unfold fallsOf
            refine List.mem_filterMap.mpr ⟨j, mem_idx.mpr ⟨j1, by rw [row_of j2]; exact u⟩, ?_⟩
            rw [row_of j2, u, lnew, if_pos ⟨by omega, nx⟩]
  · rcases D.xin with u | u
    · exact .inl ⟨(mlo _).mpr (.inl u.1), by rw [lsame _ u.1]; exact u.2⟩
    · have w := u.2.2 _ List.mem_cons_self
      have w1 : pl = x := congrArg (fun t : T3 => t.2.1) w
      have w2 : ch = h y + k - h x := congrArg (fun t : T3 => t.1) w
      refine .inl ⟨(mlo _).mpr (.inr w1.symm), ?_⟩
      rw [← w1, lnew, w2, w1]; omega
/-- the heights behind it -/
def lowered (h : Int → Int) (lo : List Int) (low : Int → Int) : Int → Int := fun p => if p ∈ lo then low p else h p
theorem DInv.done {l0 : Lim} (D : DInv ls n ks h x y k lo low c []) (le : n < ls.length) (new : ls[n]? = some l0) (hx : l0.x = x) (hy : l0.y = y) (hk : l0.k = k) (ok : ∀ l ∈ ls.take n, Holds h l) : ∀ l ∈ ls.take (n + 1), Holds (lowered h lo low) l := by
  intro l hl
  have hle : ∀ p, lowered h lo low p ≤ h p := fun p => by
    unfold lowered
    split
    · exact Int.le_of_lt (D.neg p (by assumption))
    · exact Int.le_refl _
  obtain ⟨i, hi⟩ := List.getElem?_of_mem hl
  rw [List.getElem?_take] at hi
  split at hi
  · rename_i hin
    by_cases e : i = n
    · subst e
      rw [new] at hi
      cases hi
      unfold Holds
      rw [hx, hy, hk]
      obtain ⟨xl, xe⟩ := D.xin.resolve_right (by simp)
      have e1 : lowered h lo low y = h y := if_neg D.yno
      have e2 : lowered h lo low x = low x := if_pos xl
      rw [e1, e2, xe]
      omega
    · have lt : i < n := by omega
      have hh : Holds h l := ok l (List.mem_of_getElem? (i := i) (by rw [List.getElem?_take, if_pos lt]; exact hi))
      unfold Holds at hh ⊢
      by_cases my : l.y ∈ lo
      · have ey : lowered h lo low l.y = low l.y := if_pos my
        rw [ey]
        rcases D.clo i l lt hi my with ⟨u, v⟩ | ⟨u, v⟩
        · have ex : lowered h lo low l.x = low l.x := if_pos u
          rw [ex]; omega
        · have ex : lowered h lo low l.x = h l.x := if_neg u
          rw [ex]
          rcases v with v | v
          · omega
          · simp at v
      · have ey : lowered h lo low l.y = h l.y := if_neg my
        rw [ey]
        have := hle l.x
        omega
  · cases hi
/-- the numbers that the causes tell from a place on, the last one n -/
inductive IsCh (c : Int → Nat) (n : Nat) (ls : List Lim) : Int → List Nat → Prop where
  | last {p : Int} (h : c p = n) : IsCh c n ls p [n]
  | step {p : Int} {is : List Nat} (h : c p < n) (r : IsCh c n ls (row ls (c p)).y is) : IsCh c n ls p (c p :: is)
theorem IsCh.congr {c c' : Int → Nat} {lo : List Int} (hc : ∀ p ∈ lo, c' p = c p) (cl : ∀ p ∈ lo, c p < n → (row ls (c p)).y ∈ lo) : ∀ {p : Int} {is : List Nat}, IsCh c n ls p is → p ∈ lo → IsCh c' n ls p is
  | _, _, .last h, m => .last ((hc _ m).trans h)
  | p, _, .step h r, m => by
    have e := hc p m
    have r' := IsCh.congr hc cl r (cl p m h)
    rw [← e] at r' h ⊢
    exact .step h r'
theorem DInv.closed (D : DInv ls n ks h x y k lo low c q) : ∀ p ∈ lo, c p < n → (row ls (c p)).y ∈ lo := by
  intro p hp hn
  obtain ⟨i, hi⟩ := List.getElem?_of_mem hp
  rcases D.cau i p hi with ⟨u, _⟩ | ⟨l, u1, u2, u3, ⟨j2, _, u5⟩, u6⟩
  · omega
  · rw [row_of u2]; exact List.mem_of_getElem? u5
theorem DInv.chain (D : DInv ls n ks h x y k lo low c q) {l0 : Lim} (new : ls[n]? = some l0) (hx : l0.x = x) (hy : l0.y = y) (hk : l0.k = k) : ∀ (i : Nat) (p : Int), lo[i]? = some p →
    ∃ is, IsCh c n ls p is ∧ Chain ls y p is ∧ ksum ls is = low p - h y ∧ (∀ j ∈ is, j ≤ n ∧ ∃ i2 : Nat, i2 ≤ i ∧ lo[i2]? = some (row ls j).x) ∧ (is.map fun j => (row ls j).x).Nodup := by
  intro i
  induction i using Nat.strongRecOn with
  | ind i ih =>
    intro p hp
    rcases D.cau i p hp with ⟨u1, u2, u3⟩ | ⟨l, u1, u2, u3, ⟨j2, u4, u5⟩, u6⟩
    · refine ⟨[n], .last u1, .last (by rw [row_of new, hx, u2]) (by rw [row_of new, hy]), ?_, fun j hj => ?_, by simp⟩
      · simp only [ksum, List.map_cons, List.map_nil, List.sum_cons, List.sum_nil, row_of new]; omega
      · rw [List.mem_singleton] at hj; subst hj
        exact ⟨Nat.le_refl _, i, Nat.le_refl _, by rw [row_of new, hx, ← u2]; exact hp⟩
    · obtain ⟨is, a1, a2, a3, a4, a5⟩ := ih j2 u4 l.y u5
      have er := row_of u2
      refine ⟨c p :: is, .step u1 (by rw [er]; exact a1), .step (by rw [er]; exact u3) (by rw [er]; exact a2), ?_, fun j hj => ?_, ?_⟩
      · simp only [ksum, List.map_cons, List.sum_cons] at a3 ⊢
        rw [er]; omega
      · rcases List.mem_cons.mp hj with rfl | hj
        · exact ⟨Nat.le_of_lt u1, i, Nat.le_refl _, by rw [er, u3]; exact hp⟩
        · obtain ⟨b1, i2, b2, b3⟩ := a4 j hj
          exact ⟨b1, i2, by omega, b3⟩
      · rw [List.map_cons, List.nodup_cons]
        refine ⟨fun m => ?_, a5⟩
        obtain ⟨j, hj, ej⟩ := List.mem_map.mp m
        obtain ⟨b1, i2, b2, b3⟩ := a4 j hj
        rw [ej, er, u3] at b3
        have : i2 = i := by
          obtain ⟨p1, q1⟩ := List.getElem?_eq_some_iff.mp b3
          obtain ⟨p2, q2⟩ := List.getElem?_eq_some_iff.mp hp
          exact (List.getElem_inj D.nd).mp (q1.trans q2.symm)
        omega
theorem DInv.ring (D : DInv ls n ks h x y k lo low c (e :: q)) {l0 : Lim} (new : ls[n]? = some l0) (hx : l0.x = x) (hy : l0.y = y) (hk : l0.k = k) (i0 : Nat) (hi0 : e.2.2 = (i0 : Int)) (py : e.2.1 = y) :
    ∃ is, IsCh (nset c y i0) n ls y is ∧ Ring ls is := by
  obtain ⟨ch, pl, nu⟩ := e
  simp only at hi0 py
  obtain ⟨hneg, i, ei, hent⟩ := D.ent _ List.mem_cons_self
  simp only at ei hneg hent
  have : i = i0 := by rw [hi0] at ei; exact (Int.ofNat.inj ei).symm
  subst this
  subst py
  have nl : n < ls.length := (List.getElem?_eq_some_iff.mp new).1
  have cnew : nset c pl i pl = i := if_pos rfl
  rcases hent with ⟨u1, u2, u3⟩ | ⟨l, u1, u2, u3, u4, u5⟩
  · subst u1
    refine ⟨[i], .last cnew, fun j hj => ?_, ⟨pl, .last (by rw [row_of new, hx, u2]) (by rw [row_of new, hy])⟩, by simp, ?_⟩
    · rw [List.mem_singleton] at hj; subst hj; exact nl
    · simp only [ksum, List.map_cons, List.map_nil, List.sum_cons, List.sum_nil, row_of new]
      rw [← u2] at u3
      omega
  · obtain ⟨i2, hi2⟩ := List.getElem?_of_mem u4
    obtain ⟨is, a1, a2, a3, a4, a5⟩ := D.chain new hx hy hk i2 l.y hi2
    have er := row_of u2
    have a1' : IsCh (nset c pl i) n ls l.y is := IsCh.congr (fun p hp => if_neg (fun z : p = pl => D.yno (by rw [← z]; exact hp))) D.closed a1 u4
    refine ⟨i :: is, ?_, fun j hj => ?_, ⟨pl, .step (by rw [er]; exact u3) (by rw [er]; exact a2)⟩, ?_, ?_⟩
    · have s := IsCh.step (c := nset c pl i) (n := n) (ls := ls) (p := pl) (is := is) (by rw [cnew]; exact u1) (by rw [cnew, er]; exact a1')
      rw [cnew] at s
      exact s
    · rcases List.mem_cons.mp hj with rfl | hj
      · omega
      · have := (a4 j hj).1; omega
    · rw [List.map_cons, List.nodup_cons]
      refine ⟨fun m => ?_, a5⟩
      obtain ⟨j, hj, ej⟩ := List.mem_map.mp m
      obtain ⟨b1, i3, b2, b3⟩ := a4 j hj
      rw [ej, er, u3] at b3
      exact D.yno (List.mem_of_getElem? b3)
    · simp only [ksum, List.map_cons, List.sum_cons] at a3 ⊢
      rw [er]; omega
/-! ### the measure: entries, and settled limits that lead out of places not lowered yet -/
def leads (ls : List Lim) (n : Nat) (lo : List Int) : Nat := ((List.range n).filter fun i => decide ((row ls i).y ∉ lo)).length
theorem count_split {α : Type} (p r : α → Bool) (s : α → Bool) : ∀ (xs : List α), (∀ a ∈ xs, p a = (r a || s a)) → (∀ a ∈ xs, r a = true → s a = false) → (xs.filter p).length = (xs.filter r).length + (xs.filter s).length
  | [], _, _ => rfl
  | a :: xs, h, g => by
    have ih := count_split p r s xs (fun b hb => h b (List.mem_cons_of_mem _ hb)) (fun b hb => g b (List.mem_cons_of_mem _ hb))
    have h1 := h a List.mem_cons_self
    have g1 := g a List.mem_cons_self
    simp only [List.filter_cons]
    cases hr : r a <;> cases hs : s a <;> simp [hr, hs] at h1 g1 ⊢ <;> simp [h1] <;> omega
theorem leads_fall {ls : List Lim} {n : Nat} {lo : List Int} {p : Int} (hp : p ∉ lo) : leads ls n lo = leads ls n (lo ++ [p]) + (idx ls n p).length := by
  unfold leads idx
  refine count_split _ _ _ _ (fun i _ => ?_) (fun i _ hr => ?_)
  · by_cases e : (row ls i).y = p
    · rw [e]; simp [hp]
    · by_cases m : (row ls i).y ∈ lo <;> simp [m, e]
  · have := of_decide_eq_true hr
    apply decide_eq_false
    intro e
    exact this (by rw [e]; simp)
theorem falls_len {ls : List Lim} {h low : Int → Int} {lo : List Int} (is : List Nat) : (fallsOf ls h lo low is).length ≤ is.length := List.length_filterMap_le _ _
end
end L2.K44
end P_K44c
section P_H1
namespace L2.KB
open PySem PySem.Spec PyProof.Rows L2.K44
theorem entry_sift : entryFor table "_heapq.heapify.sift" = some Builtin.«_heapq.heapify.sift» := entryFor_of_tree (by kernel_rfl)
theorem plain_sift : plainId "_heapq.heapify.sift" = true := by decide +kernel
def LAt (h : Heap) (a : Addr) (rs : List Addr) : Prop := ∃ n, h.get? a = some { cls := .type "list", data := .seq (rs.map Value.ref).toArray n }
def IsT3 (h : Heap) (r : Addr) (t : T3) : Prop := ∃ its : List Value, IsTup h r its.toArray ∧ IntsAre its [t.1, t.2.1, t.2.2]
theorem IsT3.ne {h : Heap} {r a : Addr} {t : T3} {rs : List Addr} (x : IsT3 h r t) (l : LAt h a rs) : r ≠ a := by
  rintro rfl
  obtain ⟨its, ⟨o, ho, hc, _⟩, _⟩ := x
  obtain ⟨n, e⟩ := l
  rw [e] at ho; cases ho
  simp at hc
theorem IsT3.keep {h h' : Heap} {r : Addr} {t : T3} (x : IsT3 h r t) (k : ∀ o, h.get? r = some o → h'.get? r = some o) : IsT3 h' r t := by
  obtain ⟨its, ⟨o, ho, c⟩, i⟩ := x
  exact ⟨its, ⟨o, k o ho, c⟩, i⟩
theorem lex_lt3 (a b : T3) : HT.lexLt [a.1, a.2.1, a.2.2] [b.1, b.2.1, b.2.2] = lt3 a b := by
  unfold lt3 HT.lexLt HT.lexLt HT.lexLt HT.lexLt
  by_cases h1 : a.1 = b.1
  · rw [if_pos h1]
    by_cases h2 : a.2.1 = b.2.1
    · rw [if_pos h2]
      by_cases h3 : a.2.2 = b.2.2
      · rw [if_pos h3]; symm; apply decide_eq_false; omega
      · rw [if_neg h3]; apply decide_eq_decide.mpr; omega
    · rw [if_neg h2]; apply decide_eq_decide.mpr; omega
  · rw [if_neg h1]; apply decide_eq_decide.mpr; omega
section
variable {prog : Program} {w : World} {A : Around} {E : Value → Shared → Prop} {s : Shared}
theorem lt_t3 {l b : Addr} {x y : T3} {Q : Value → Shared → Prop} (hl : IsT3 s.heap l x) (hb : IsT3 s.heap b y) 
    (hu : A.units < cLine) (h : Q (.bool (lt3 x y)) s) : wpAny (model prog w) A (richCompare .Lt (.ref l) (.ref b)) Q E s := by
  obtain ⟨i1, p1, q1⟩ := hl
  obtain ⟨i2, p2, q2⟩ := hb
  exact HT.lt_tupInts p1 p2 q1 q2 hu (by rw [lex_lt3]; exact h)
theorem at_some {xs : Array Value} {i : Nat} {v : Value} {Q : Value → Shared → Prop} (e : xs[i]? = some v) (h : Q v s) : wpAny (model prog w) A (match xs[i]? with | some v => pure v | none => unsupported "internal:_heapq.index") Q E s := by
  rw [e]; exact wpAny_pure h
variable {Q : Fin → Shared → Prop} 
theorem upd_swap {a : Addr} {i j : Nat} {x y : Addr} {rs : List Addr} {n : Nat} {Q : Unit → Shared → Prop} (hl : s.heap.get? a = some { cls := .type "list", data := .seq (rs.map Value.ref).toArray n }) (hz : rs.length ≤ sizeLine)
    (h : ∀ h', LAt h' a (swp rs i j x y) → Heap.SameBut a s.heap h' → Q () { s with heap := h' }) : wpAny (model prog w) A (updateSeq a fun xs => (xs.setIfInBounds i (.ref y)).setIfInBounds j (.ref x)) Q E s := by
  have q := PySem.IsL.update hl fun xs => (xs.setIfInBounds i (.ref y)).setIfInBounds j (.ref x)
  have e : (((rs.map Value.ref).toArray.setIfInBounds i (.ref y)).setIfInBounds j (.ref x)) = ((swp rs i j x y).map Value.ref).toArray := by
    unfold swp
    simp [List.map_set]
  rw [e] at q
  exact wpAny_updateSeq hl rfl (h _ ⟨_, q⟩ (Heap.SameBut.update ..)) (by simpa using hz) (by simp; omega)
abbrev siftC (a : Addr) (down : Bool) (pos : Nat) (res : Value) : Code := .builtin "_heapq.heapify.sift" ⟨[.ref a, .bool false, .bool down, rawInt pos, rawInt 0, res, rawInt (-1)], []⟩
theorem sift_down2 (a : Addr) (pos : Nat) (res : Value) (rs : List Addr) (val : Addr → T3) (hl : LAt s.heap a rs) (hv : ∀ r ∈ rs, IsT3 s.heap r (val r)) (l r x : Addr) (hl1 : rs[2 * pos + 1]? = some l) (hr1 : rs[2 * pos + 1 + 1]? = some r) 
  (hx1 : rs[pos]? = some x) (h2 : rs.length ≤ sizeLine) (hu : A.units < cLine)
  (k1 : lt3 (val l) (val r) = true → ∀ h', LAt h' a (swp rs (2 * pos + 1) pos l x) → Heap.SameBut a s.heap h' → Q (.again (siftC a true (2 * pos + 1) res)) { s with heap := h' })
  (k2 : lt3 (val l) (val r) = false → ∀ h', LAt h' a (swp rs (2 * pos + 1 + 1) pos r x) → Heap.SameBut a s.heap h' → Q (.again (siftC a true (2 * pos + 1 + 1) res)) { s with heap := h' }) : 
   wpAny (model prog w) A (Builtin.«_heapq.heapify.sift» ⟨[.ref a, .bool false, .bool true, rawInt pos, rawInt 0, res, rawInt (-1)], []⟩) Q E s := by
  obtain ⟨n, hl⟩ := hl
  obtain ⟨hp, g, d, tk, os⟩ := s
  have h1 := (List.getElem?_eq_some_iff.mp hr1).1
  have e1 : (pos : Int).toNat < (rs.map Value.ref).toArray.size / 2 := by simp; omega
  have e2 : 2 * (pos : Int).toNat + 1 + 1 < (rs.map Value.ref).toArray.size := by simp; omega
  have e3 : (rs.map Value.ref).toArray[2 * (pos : Int).toNat + 1]? = some (.ref l) := by simp [hl1]
  have e4 : (rs.map Value.ref).toArray[2 * (pos : Int).toNat + 1 + 1]? = some (.ref r) := by simp [hr1]
  have e5 : (rs.map Value.ref).toArray[(pos : Int).toNat]? = some (.ref x) := by simp [hx1]
  have i1 := hv l (List.mem_of_getElem? hl1)
  have i2 := hv r (List.mem_of_getElem? hr1)
  unfold Builtin.«_heapq.heapify.sift»
  repeat (any_goals (first | assumption | (with_reducible refine lt_t3 i1 i2 hu ?_) | (refine at_some (by assumption) ?_) | (refine wpAny_ite_true (decide_eq_true (by assumption)) ?_) | wp_step))
  cases hc : lt3 (val l) (val r) with
  | true =>
    refine wpAny_ite_false rfl ?_
    repeat (any_goals (first | assumption | (with_reducible refine upd_swap hl h2 fun h' g1 g2 => ?_) | (refine at_some (by assumption) ?_) | wp_step))
    exact k1 hc h' g1 g2
  | false =>
    refine wpAny_ite_true rfl ?_
    repeat (any_goals (first | assumption | (with_reducible refine upd_swap hl h2 fun h' g1 g2 => ?_) | (refine at_some (by assumption) ?_) | wp_step))
    exact k2 hc h' g1 g2
theorem sift_down1 (a : Addr) (pos : Nat) (res : Value) (rs : List Addr) (hl : LAt s.heap a rs) (l x : Addr) (hl1 : rs[2 * pos + 1]? = some l) (hn : rs.length = 2 * pos + 2)
  (hx1 : rs[pos]? = some x) (h2 : rs.length ≤ sizeLine)
  (k1 : ∀ h', LAt h' a (swp rs (2 * pos + 1) pos l x) → Heap.SameBut a s.heap h' → Q (.again (siftC a true (2 * pos + 1) res)) { s with heap := h' }) : 
   wpAny (model prog w) A (Builtin.«_heapq.heapify.sift» ⟨[.ref a, .bool false, .bool true, rawInt pos, rawInt 0, res, rawInt (-1)], []⟩) Q E s := by
  obtain ⟨n, hl⟩ := hl
  obtain ⟨hp, g, d, tk, os⟩ := s
  have e1 : (pos : Int).toNat < (rs.map Value.ref).toArray.size / 2 := by simp; omega
  have e2 : ¬ 2 * (pos : Int).toNat + 1 + 1 < (rs.map Value.ref).toArray.size := by simp; omega
  have e3 : (rs.map Value.ref).toArray[2 * (pos : Int).toNat + 1]? = some (.ref l) := by simp [hl1]
  have e5 : (rs.map Value.ref).toArray[(pos : Int).toNat]? = some (.ref x) := by simp [hx1]
  unfold Builtin.«_heapq.heapify.sift»
  repeat (any_goals (first | assumption | (refine wpAny_ite_true (decide_eq_true e1) ?_) | (refine wpAny_ite_false (decide_eq_false e2) ?_) | (with_reducible refine upd_swap hl h2 fun h' g1 g2 => ?_) | (refine at_some (by assumption) ?_) | wp_step))
  exact k1 h' g1 g2
theorem sift_leaf (a : Addr) (pos : Nat) (res : Value) (rs : List Addr) (hl : LAt s.heap a rs) (hn : rs.length ≤ 2 * pos + 1)
  (k1 : Q (.again (siftC a false pos res)) s) : 
   wpAny (model prog w) A (Builtin.«_heapq.heapify.sift» ⟨[.ref a, .bool false, .bool true, rawInt pos, rawInt 0, res, rawInt (-1)], []⟩) Q E s := by
  obtain ⟨n, hl⟩ := hl
  obtain ⟨hp, g, d, tk, os⟩ := s
  have e1 : ¬ (pos : Int).toNat < (rs.map Value.ref).toArray.size / 2 := by simp; omega
  unfold Builtin.«_heapq.heapify.sift»
  repeat (any_goals (first | assumption | (refine wpAny_ite_false (decide_eq_false e1) ?_) | wp_step))
theorem sift_up (a : Addr) (pos : Nat) (res : Value) (rs : List Addr) (val : Addr → T3) (hl : LAt s.heap a rs) (hv : ∀ r ∈ rs, IsT3 s.heap r (val r)) (x y : Addr) (p0 : 0 < pos) (hx1 : rs[pos]? = some x) (hy1 : rs[(pos - 1) / 2]? = some y) 
  (h2 : rs.length ≤ sizeLine) (hu : A.units < cLine)
  (k1 : lt3 (val x) (val y) = true → ∀ h', LAt h' a (swp rs ((pos - 1) / 2) pos y x) → Heap.SameBut a s.heap h' → Q (.again (siftC a false ((pos - 1) / 2) res)) { s with heap := h' })
  (k2 : lt3 (val x) (val y) = false → Q (.done (.ret res)) s) : 
   wpAny (model prog w) A (Builtin.«_heapq.heapify.sift» ⟨[.ref a, .bool false, .bool false, rawInt pos, rawInt 0, res, rawInt (-1)], []⟩) Q E s := by
  obtain ⟨n, hl⟩ := hl
  obtain ⟨hp, g, d, tk, os⟩ := s
  have e1 : (pos : Int).toNat > Int.toNat 0 := by simp; omega
  have e3 : (rs.map Value.ref).toArray[(pos : Int).toNat]? = some (.ref x) := by simp [hx1]
  have e5 : (rs.map Value.ref).toArray[((pos : Int).toNat - 1) / 2]? = some (.ref y) := by simp [hy1]
  have i1 := hv x (List.mem_of_getElem? hx1)
  have i2 := hv y (List.mem_of_getElem? hy1)
  unfold Builtin.«_heapq.heapify.sift»
  repeat (any_goals (first | assumption | (with_reducible refine lt_t3 i1 i2 hu ?_) | (refine at_some (by assumption) ?_) | (refine wpAny_ite_true (decide_eq_true e1) ?_) | wp_step))
  cases hc : lt3 (val x) (val y) with
  | true =>
    refine wpAny_ite_true rfl ?_
    repeat (any_goals (first | assumption | (with_reducible refine upd_swap hl h2 fun h' g1 g2 => ?_) | (refine at_some (by assumption) ?_) | wp_step))
    exact k1 hc h' g1 g2
  | false =>
    refine wpAny_ite_false rfl ?_
    have k3 := k2 hc
    repeat (any_goals (first | assumption | wp_step))
theorem sift_root (a : Addr) (res : Value) (rs : List Addr) (hl : LAt s.heap a rs) 
  (k2 : Q (.done (.ret res)) s) : 
   wpAny (model prog w) A (Builtin.«_heapq.heapify.sift» ⟨[.ref a, .bool false, .bool false, rawInt 0, rawInt 0, res, rawInt (-1)], []⟩) Q E s := by
  obtain ⟨n, hl⟩ := hl
  obtain ⟨hp, g, d, tk, os⟩ := s
  unfold Builtin.«_heapq.heapify.sift»
  repeat (any_goals (first | assumption | wp_step))
end
end L2.KB
end P_H1
section P_H2
namespace L2.KB
open PySem PySem.Spec PyProof.Rows L2.K44
theorem entry_hpush : entryFor table "_heapq.heappush" = some Builtin.«_heapq.heappush» := entryFor_of_tree (by kernel_rfl)
theorem kind_hpush : builtinKind "_heapq.heappush" = none := by kernel_rfl
theorem plain_hpush : plainId "_heapq.heappush" = true := by decide +kernel
theorem args_hpush (a b : Value) : argsOk "_heapq.heappush" ⟨[a, b], []⟩ := by unfold argsOk; kernel_rfl
theorem entry_hpop : entryFor table "_heapq.heappop" = some Builtin.«_heapq.heappop» := entryFor_of_tree (by kernel_rfl)
theorem kind_hpop : builtinKind "_heapq.heappop" = none := by kernel_rfl
theorem plain_hpop : plainId "_heapq.heappop" = true := by decide +kernel
theorem args_hpop (a : Value) : argsOk "_heapq.heappop" ⟨[a], []⟩ := by unfold argsOk; kernel_rfl
section
variable {prog : Program} {w : World} {A : Around} {E : Value → Shared → Prop} {s : Shared} {R : Result → Shared → Prop}
/-- what the sift hands back -/
def SiftBack (R : Result → Shared → Prop) (a : Addr) (val : Addr → T3) (res : Value) (rs : List Addr) (s : Shared) : Prop :=
  ∀ (h' : Heap) (rs' : List Addr), List.Perm rs' rs → HOrd val rs' → LAt h' a rs' → (∀ b, b ≠ a → h'.get? b = s.heap.get? b) → R (.ok (.ret res)) { s with heap := h' }
theorem sift_up_code (a : Addr) (res : Value) (val : Addr → T3) (hu : A.units + 1 < cLine) : ∀ (pos : Nat) (rs : List Addr) (s : Shared), LAt s.heap a rs → (∀ r ∈ rs, IsT3 s.heap r (val r)) → pos < rs.length → rs.length ≤ sizeLine → Up val rs pos →
    SiftBack R a val res rs s → codeAny (model prog w) A (siftC a false pos res) R s := by
  intro pos
  induction pos using Nat.strongRecOn with
  | ind pos ih =>
    intro rs s hl hv hp hz U k
    refine codeAny_builtin entry_sift ?_
    rw [Around.under_plainId plain_sift _]
    by_cases p0 : pos = 0
    · subst p0
      refine sift_root a res rs hl ?_
      exact k s.heap rs (List.Perm.refl _) (U.done (.inl rfl)) hl fun _ _ => rfl
    · have hx1 : rs[pos]? = some rs[pos] := List.getElem?_eq_getElem hp
      have hq : (pos - 1) / 2 < rs.length := by omega
      have hy1 : rs[(pos - 1) / 2]? = some rs[(pos - 1) / 2] := List.getElem?_eq_getElem hq
      refine sift_up a pos res rs val hl hv rs[pos] rs[(pos - 1) / 2] (by omega) hx1 hy1 hz hu (fun lt h' g1 g2 => ?_) (fun ge => ?_)
      · refine ⟨plainId_quiet plain_sift _, ?_⟩
        have pm := swp_perm hy1 hx1 (by omega : (pos - 1) / 2 ≠ pos)
        refine ih ((pos - 1) / 2) (by omega) _ _ g1 (fun r hr => ?_) (by rw [swp_length]; exact hq) (by rw [swp_length]; exact hz) (U.turn (by omega) hx1 hy1 lt) fun h2 rs' p1 o1 l1 kp => ?_
        · have hr' := pm.mem_iff.mp hr
          exact (hv r hr').keep fun o e => (g2.2 r ((hv r hr').ne hl)).trans e
        · exact k h2 rs' (p1.trans pm) o1 l1 fun b hb => (kp b hb).trans (g2.2 b hb)
      · exact k s.heap rs (List.Perm.refl _) (U.done (.inr fun x y ex ey => by rw [hx1] at ex; rw [hy1] at ey; cases ex; cases ey; exact ge)) hl fun _ _ => rfl
theorem sift_down_code (a : Addr) (res : Value) (val : Addr → T3) (hu : A.units + 1 < cLine) : ∀ (m pos : Nat) (rs : List Addr) (s : Shared), rs.length - pos = m → LAt s.heap a rs → (∀ r ∈ rs, IsT3 s.heap r (val r)) → pos < rs.length → rs.length ≤ sizeLine → Down val rs pos →
    SiftBack R a val res rs s → codeAny (model prog w) A (siftC a true pos res) R s := by
  intro m
  induction m using Nat.strongRecOn with
  | ind m ih =>
    intro pos rs s hm hl hv hp hz D k
    refine codeAny_builtin entry_sift ?_
    rw [Around.under_plainId plain_sift _]
    have hx1 : rs[pos]? = some rs[pos] := List.getElem?_eq_getElem hp
    have go : ∀ (c : Nat) (y : Addr) (h' : Heap), (c - 1) / 2 = pos → 0 < c → rs[c]? = some y → (∀ i z, 0 < i → (i - 1) / 2 = pos → rs[i]? = some z → le3 (val y) (val z)) → LAt h' a (swp rs c pos y rs[pos]) → Heap.SameBut a s.heap h' →
        codeAny (model prog w) A (siftC a true c res) R { s with heap := h' } := fun c y h' hc c0 hy least g1 g2 => by
      have hcl := (List.getElem?_eq_some_iff.mp hy).1
      have pm := swp_perm hy hx1 (by omega : c ≠ pos)
      refine ih (rs.length - c) (by omega) c _ _ (by rw [swp_length]) g1 (fun r hr => ?_) (by rw [swp_length]; exact hcl) (by rw [swp_length]; exact hz) (D.turn hc c0 hy hx1 least) fun h2 rs' p1 o1 l1 kp => ?_
      · have hr' := pm.mem_iff.mp hr
        exact (hv r hr').keep fun o e => (g2.2 r ((hv r hr').ne hl)).trans e
      · exact k h2 rs' (p1.trans pm) o1 l1 fun b hb => (kp b hb).trans (g2.2 b hb)
    by_cases h1 : rs.length ≤ 2 * pos + 1
    · refine sift_leaf a pos res rs hl h1 ⟨plainId_quiet plain_sift _, ?_⟩
      exact sift_up_code a res val hu pos rs s hl hv hp hz (D.up h1) k
    · have hl1 : rs[2 * pos + 1]? = some rs[2 * pos + 1] := List.getElem?_eq_getElem (by omega)
      by_cases h2 : rs.length = 2 * pos + 2
      · refine sift_down1 a pos res rs hl rs[2 * pos + 1] rs[pos] hl1 h2 hx1 hz fun h' g1 g2 => ⟨plainId_quiet plain_sift _, ?_⟩
        refine go _ _ h' (by omega) (by omega) hl1 (fun i z i0 ip hz' => ?_) g1 g2
        have il := (List.getElem?_eq_some_iff.mp hz').1
        have e : i = 2 * pos + 1 := by omega
        subst e
        rw [hl1] at hz'; cases hz'; exact le3_refl _
      · have hr1 : rs[2 * pos + 1 + 1]? = some rs[2 * pos + 1 + 1] := List.getElem?_eq_getElem (by omega)
        refine sift_down2 a pos res rs val hl hv _ _ _ hl1 hr1 hx1 hz hu (fun lt h' g1 g2 => ⟨plainId_quiet plain_sift _, ?_⟩) (fun ge h' g1 g2 => ⟨plainId_quiet plain_sift _, ?_⟩)
        · refine go _ _ h' (by omega) (by omega) hl1 (fun i z i0 ip hz' => ?_) g1 g2
          have e : i = 2 * pos + 1 ∨ i = 2 * pos + 1 + 1 := by omega
          rcases e with rfl | rfl
          · rw [hl1] at hz'; cases hz'; exact le3_refl _
          · rw [hr1] at hz'; cases hz'; exact le3_of_lt lt
        · refine go _ _ h' (by omega) (by omega) hr1 (fun i z i0 ip hz' => ?_) g1 g2
          have e : i = 2 * pos + 1 ∨ i = 2 * pos + 1 + 1 := by omega
          rcases e with rfl | rfl
          · rw [hl1] at hz'; cases hz'; exact ge
          · rw [hr1] at hz'; cases hz'; exact le3_refl _
end
end L2.KB
end P_H2
section P_H3
namespace L2.KB
open PySem PySem.Spec PyProof.Rows L2.K44
section
variable {prog : Program} {w : World} {A : Around} {E : Value → Shared → Prop} {s : Shared} {R : Result → Shared → Prop}
/-- a call of a built-in function that goes on by itself -/
theorem call_function_raw {id : String} {B : PySem.Builtin} {args : List Value} {Q : Value → Shared → Prop} (kind : builtinKind id = none) (plain : plainId id = true)
    (entry : entryFor table id = some B) (ok : argsOk id ⟨args, []⟩)
    (hfin : wpAny (model prog w) A.in1 (B ⟨args, []⟩) (fun fin s' => match fin with | .done f => wants Q E (.ok f) s' | .again c' => c'.quiet = true ∧ codeAny (model prog w) A c' (wants Q E) s') (fun e s' => wants Q E (.error e) s') s) :
    wpAny (model prog w) A (call (.builtin id) args) Q E s := by
  refine wpAny_call (codeAny_call_builtin plain entry ?_)
  simp only [checkBuiltinCall, kind]
  cases hsig : Manifest.signature? id with
  | none => exact wpAny_pure hfin
  | some sig =>
    simp only [argsOk, hsig] at ok
    have h2 : Bind.checkArgs id sig ⟨args, []⟩ = pure () := ok
    show wpAny _ _ (Bind.checkArgs id sig ⟨args, []⟩) _ _ s
    rw [h2]; exact wpAny_pure hfin
theorem upd_push {a r : Addr} {rs : List Addr} {n : Nat} {Q : Unit → Shared → Prop} (hl : s.heap.get? a = some { cls := .type "list", data := .seq (rs.map Value.ref).toArray n }) (hz : rs.length < sizeLine)
    (h : ∀ h', LAt h' a (rs ++ [r]) → Heap.SameBut a s.heap h' → Q () { s with heap := h' }) : wpAny (model prog w) A (updateSeq a fun xs => xs.push (.ref r)) Q E s := by
  have q := PySem.IsL.update hl fun xs => xs.push (.ref r)
  have e : (rs.map Value.ref).toArray.push (.ref r) = ((rs ++ [r]).map Value.ref).toArray := by simp
  rw [e] at q
  exact wpAny_updateSeq hl rfl (h _ ⟨_, q⟩ (Heap.SameBut.update ..)) (by simpa using (Nat.le_of_lt hz)) (by simp; omega)
theorem push_run {a r : Addr} (rs : List Addr) {Q : Fin → Shared → Prop} (hl : LAt s.heap a rs) (hz : rs.length < sizeLine)
    (h : ∀ h', LAt h' a (rs ++ [r]) → Heap.SameBut a s.heap h' → Q (.again (siftC a false rs.length .none)) { s with heap := h' }) : wpAny (model prog w) A (Builtin.«_heapq.heappush» ⟨[.ref a, .ref r], []⟩) Q E s := by
  obtain ⟨n, hl⟩ := hl
  obtain ⟨hp, g, d, tk, os⟩ := s
  have ty : (⟨hp, g, d, tk, os⟩ : Shared).TypeIs (.ref a) "list" := ⟨_, hl, rfl⟩
  have sb := sub_list_self
  unfold Builtin.«_heapq.heappush»
  repeat (any_goals (first | assumption | (with_reducible refine upd_push hl hz fun h' g1 g2 => ?_) | wp_step))
  obtain ⟨n2, l2⟩ := id g1
  repeat (any_goals (first | assumption | wp_step))
  have e : (((rs ++ [r]).map Value.ref).toArray.size - 1) = rs.length := by simp
  rw [e]
  exact h h' g1 g2
theorem upd_pop {a x : Addr} {rs : List Addr} {n : Nat} {Q : Unit → Shared → Prop} (hl : s.heap.get? a = some { cls := .type "list", data := .seq ((rs ++ [x]).map Value.ref).toArray n }) (hz : rs.length < sizeLine)
    (h : ∀ h', LAt h' a rs → Heap.SameBut a s.heap h' → Q () { s with heap := h' }) : wpAny (model prog w) A (updateSeq a fun xs => xs.pop) Q E s := by
  have q := PySem.IsL.update hl fun xs => xs.pop
  have e : ((rs ++ [x]).map Value.ref).toArray.pop = (rs.map Value.ref).toArray := by simp
  rw [e] at q
  exact wpAny_updateSeq hl rfl (h _ ⟨_, q⟩ (Heap.SameBut.update ..)) (by simp; omega) (by simp; omega)
theorem upd_set0 {a x : Addr} {rs : List Addr} {n : Nat} {Q : Unit → Shared → Prop} (hl : s.heap.get? a = some { cls := .type "list", data := .seq (rs.map Value.ref).toArray n }) (hz : rs.length < sizeLine)
    (h : ∀ h', LAt h' a (rs.set 0 x) → Heap.SameBut a s.heap h' → Q () { s with heap := h' }) : wpAny (model prog w) A (updateSeq a fun xs => xs.setIfInBounds 0 (.ref x)) Q E s := by
  have q := PySem.IsL.update hl fun xs => xs.setIfInBounds 0 (.ref x)
  have e : (rs.map Value.ref).toArray.setIfInBounds 0 (.ref x) = ((rs.set 0 x).map Value.ref).toArray := by simp [List.map_set]
  rw [e] at q
  exact wpAny_updateSeq hl rfl (h _ ⟨_, q⟩ (Heap.SameBut.update ..)) (by simp; omega) (by simp; omega)
theorem pop_run1 {a x : Addr} {Q : Fin → Shared → Prop} (hl : LAt s.heap a [x])
    (h : ∀ h', LAt h' a [] → Heap.SameBut a s.heap h' → Q (.done (.ret (.ref x))) { s with heap := h' }) : wpAny (model prog w) A (Builtin.«_heapq.heappop» ⟨[.ref a], []⟩) Q E s := by
  obtain ⟨n, hl⟩ := hl
  obtain ⟨hp, g, d, tk, os⟩ := s
  have ty : (⟨hp, g, d, tk, os⟩ : Shared).TypeIs (.ref a) "list" := ⟨_, hl, rfl⟩
  have sb := sub_list_self
  have eb : ([x].map Value.ref).toArray.back? = some (.ref x) := rfl
  have hl' : (⟨hp, g, d, tk, os⟩ : Shared).heap.get? a = some { cls := .type "list", data := .seq (([] ++ [x]).map Value.ref).toArray n } := hl
  unfold Builtin.«_heapq.heappop»
  repeat (any_goals (first | assumption | (with_reducible refine upd_pop (rs := []) hl' (by decide) fun h' g1 g2 => ?_) | wp_step))
  exact h h' g1 g2
theorem pop_run {a x f : Addr} {rs : List Addr} {Q : Fin → Shared → Prop} (hl : LAt s.heap a (rs ++ [x])) (h0 : rs[0]? = some f) (hz : rs.length < sizeLine)
    (h : ∀ h', LAt h' a (rs.set 0 x) → (∀ b, b ≠ a → h'.get? b = s.heap.get? b) → Q (.again (siftC a true 0 (.ref f))) { s with heap := h' }) : wpAny (model prog w) A (Builtin.«_heapq.heappop» ⟨[.ref a], []⟩) Q E s := by
  obtain ⟨n, hl⟩ := hl
  obtain ⟨hp, g, d, tk, os⟩ := s
  have ty : (⟨hp, g, d, tk, os⟩ : Shared).TypeIs (.ref a) "list" := ⟨_, hl, rfl⟩
  have sb := sub_list_self
  have eb : ((rs ++ [x]).map Value.ref).toArray.back? = some (.ref x) := by simp
  unfold Builtin.«_heapq.heappop»
  repeat (any_goals (first | assumption | wp_step))
  rw [eb]
  repeat (any_goals (first | assumption | (with_reducible refine upd_pop hl hz fun h' g1 g2 => ?_) | wp_step))
  have hr : 0 < rs.length := (List.getElem?_eq_some_iff.mp h0).1
  refine wpAny_ite_false (decide_eq_false (fun q => by simp at q; rw [q] at hr; simp at hr)) ?_
  have e0 : ((rs ++ [x]).map Value.ref).toArray[0]? = some (.ref f) := by
    simp only [List.map_append, List.getElem?_toArray]
    rw [List.getElem?_append_left (by simpa using hr), List.getElem?_map, h0]
    rfl
  obtain ⟨n1, l1⟩ := id g1
  repeat (any_goals (first | assumption | (with_reducible refine upd_set0 l1 hz fun h2 g3 g4 => ?_) | (refine at_some e0 ?_) | wp_step))
  exact h h2 g3 fun b hb => (g4.2 b hb).trans (g2.2 b hb)
end

/-! ### the two calls over the layer -/
section
variable {X : Cx}
abbrev tup3 (t : T3) : HO := .tup [.int t.1, .int t.2.1, .int t.2.2]
def rHPush : List V → Hp → VK → Prop := fun vs H Q => ∃ (a r : Addr) (rs : List Addr) (val : Addr → T3), vs = [.ref a, .ref r] ∧ H a = some (.lst (rs.map V.ref)) ∧ (∀ q ∈ rs, H q = some (tup3 (val q))) ∧
  H r = some (tup3 (val r)) ∧ HOrd val rs ∧ rs.length < sizeLine ∧ ∀ rs' : List Addr, List.Perm rs' (r :: rs) → HOrd val rs' → Q .non (upd H a (.lst (rs'.map V.ref)))
def rHPop : List V → Hp → VK → Prop := fun vs H Q => ∃ (a : Addr) (rs : List Addr) (val : Addr → T3), vs = [.ref a] ∧ H a = some (.lst (rs.map V.ref)) ∧ (∀ q ∈ rs, H q = some (tup3 (val q))) ∧
  rs ≠ [] ∧ HOrd val rs ∧ ∀ (r : Addr) (rs' : List Addr), List.Perm (r :: rs') rs → HOrd val rs' → (∀ q ∈ rs', le3 (val r) (val q)) → Q (.ref r) (upd H a (.lst (rs'.map V.ref)))
theorem refs_of : ∀ {rs : List Addr} {us : List Value}, Vals (rs.map V.ref) us → us = rs.map Value.ref
  | [], _, .nil => rfl
  | _ :: _, _, .cons r t => by
    cases r
    rw [refs_of t]
    rfl
theorem vals_refs : ∀ rs : List Addr, Vals (rs.map V.ref) (rs.map Value.ref)
  | [] => .nil
  | _ :: rs => .cons rfl (vals_refs rs)
theorem inv_t3 {pins : List (Addr × Obj)} {σ : L2.St} {H : Hp} {s : Shared} (I : Inv X pins σ H s) {r : Addr} {t : T3} (h : H r = some (tup3 t)) : IsT3 s.heap r t := by
  obtain ⟨its, rv, ht, _⟩ := I.tuple (SqT.of h)
  exact ⟨its, ht, intsAre_of (ns := [t.1, t.2.1, t.2.2]) rv⟩
theorem inv_lat {pins : List (Addr × Obj)} {σ : L2.St} {H : Hp} {s : Shared} (I : Inv X pins σ H s) {a : Addr} {rs : List Addr} (h : H a = some (.lst (rs.map V.ref))) : rs.length ≤ sizeLine ∧ LAt s.heap a rs := by
  obtain ⟨z, its, n, rv, e, g⟩ := I.lstM h
  rw [refs_of rv] at g
  exact ⟨by simpa using z, n, g⟩
/-- the list at a is another one now -/
theorem inv_latW {pins : List (Addr × Obj)} {σ : L2.St} {H : Hp} {s : Shared} {h' : Heap} (I : Inv X pins σ H s) {a : Addr} {xs : List V} {rs : List Addr} (h : H a = some (.lst xs)) (z : rs.length ≤ sizeLine) (l : LAt h' a rs)
    (k : ∀ b, b ≠ a → h'.get? b = s.heap.get? b) : Inv X pins σ (upd H a (.lst (rs.map V.ref))) { s with heap := h' } := by
  obtain ⟨n, g⟩ := l
  refine I.write (t' := s.toks) (x := a) (e := a) (by rw [h]; exact trivial) (.inl rfl) (fun b u hb hu => (k b hb).trans hu) ⟨_, g⟩ ?_
  exact ⟨by simpa using z, _, n, vals_refs rs, g⟩
theorem cr_hpush (hu : X.A.units + 1 < cLine) : CallR X (.builtin "_heapq.heappush") rHPush := by
  intro pins s σ H vs us Q I rv h
  obtain ⟨a, r, rs, val, rfl, hl, hv, hr, ho, hz, q⟩ := h
  cases rv with
  | cons r1 t => cases t with
  | cons r2 t =>
    cases t
    cases r1
    cases r2
    have l1 := inv_lat I hl
    refine call_function_raw kind_hpush plain_hpush entry_hpush (args_hpush _ _) (push_run rs l1.2 hz fun h' g1 g2 => ⟨plainId_quiet plain_sift _, ?_⟩)
    have ne : ∀ p t, H p = some (tup3 t) → p ≠ a := fun p t e => ne_of e hl (by intro z; cases z)
    refine sift_up_code a .none val hu rs.length _ _ g1 (fun p hp => ?_) (by simp) (by simp; omega) (Up.push ho) fun h2 rs' p1 o1 l2 kp => ?_
    · rw [List.mem_append, List.mem_singleton] at hp
      have e : H p = some (tup3 (val p)) := by
        rcases hp with hp | rfl
        · exact hv p hp
        · exact hr
      exact (inv_t3 I e).keep fun o eo => (g2.2 p (ne p _ e)).trans eo
    · have pm : List.Perm rs' (r :: rs) := p1.trans (List.perm_append_singleton r rs)
      have hl2 : rs'.length ≤ sizeLine := by rw [p1.length_eq]; simp; omega
      exact ⟨.non, _, inv_latW I hl hl2 l2 fun b hb => (kp b hb).trans (g2.2 b hb), rfl, q rs' pm o1⟩
theorem cr_hpop (hu : X.A.units + 1 < cLine) : CallR X (.builtin "_heapq.heappop") rHPop := by
  intro pins s σ H vs us Q I rv h
  obtain ⟨a, rs, val, rfl, hl, hv, hne, ho, q⟩ := h
  rw [Vals.ref1 rv]
  have l1 := inv_lat I hl
  have ne : ∀ p t, H p = some (tup3 t) → p ≠ a := fun p t e => ne_of e hl (by intro z; cases z)
  obtain ⟨x, hx⟩ : ∃ x, rs = rs.dropLast ++ [x] := ⟨rs.getLast hne, (List.dropLast_concat_getLast hne).symm⟩
  refine call_function_raw kind_hpop plain_hpop entry_hpop (args_hpop _) ?_
  cases hd : rs.dropLast with
  | nil =>
    rw [hd] at hx
    have e : rs = [x] := hx
    subst e
    refine pop_run1 l1.2 fun h' g1 g2 => ?_
    refine ⟨.ref x, _, inv_latW I (rs := []) hl (Nat.zero_le _) g1 g2.2, rfl, q x [] (List.Perm.refl _) (fun i a p _ e => by simp at e) fun p hp => nomatch hp⟩
  | cons f ds =>
    have hlen : rs.length = ds.length + 2 := by rw [hx, hd]; simp
    have l2 : LAt s.heap a (rs.dropLast ++ [x]) := by rw [← hx]; exact l1.2
    refine pop_run (f := f) l2 (by rw [hd]; rfl) (by rw [hd]; simp; omega) fun h' g1 g2 => ⟨plainId_quiet plain_sift _, ?_⟩
    have f0 : rs[0]? = some f := by rw [hx, hd]; rfl
    have hset : rs.dropLast.set 0 x = x :: ds := by rw [hd]; rfl
    have D := Down.root (x := x) ho
    rw [hset] at g1 D
    have pm0 : List.Perm (f :: x :: ds) rs := by
      rw [hx, hd]
      show List.Perm (f :: x :: ds) (f :: (ds ++ [x]))
      exact (List.perm_append_singleton x ds).symm.cons f
    refine sift_down_code a (.ref f) val hu _ 0 (x :: ds) _ rfl g1 (fun p hp => ?_) (by simp) (by simp; omega) D fun h2 rs' p1 o1 l3 kp => ?_
    · have hp' : p ∈ rs := pm0.mem_iff.mp (List.mem_cons_of_mem _ hp)
      have e := hv p hp'
      exact (inv_t3 I e).keep fun o eo => (g2 p (ne p _ e)).trans eo
    · have pm : List.Perm (f :: rs') rs := (p1.cons f).trans pm0
      have hl2 : rs'.length ≤ sizeLine := by rw [p1.length_eq]; simp; omega
      refine ⟨.ref f, _, inv_latW I hl hl2 l3 fun b hb => (kp b hb).trans (g2 b hb), rfl, q f rs' pm o1 fun p hp => ?_⟩
      obtain ⟨i, hi⟩ := List.getElem?_of_mem (pm.mem_iff.mp (List.mem_cons_of_mem _ hp))
      exact HOrd.root val ho i p f hi f0
end
end L2.KB
end P_H3
section P_H4
/-! del xs[a:] of a list -/
namespace L2.KB
open PySem PySem.Spec PyProof.Rows
theorem zip_take {α : Type} (n a : Nat) (xs : List α) (sel : Nat → Bool) (h : ∀ k, k < n → sel k = decide (a ≤ k)) : ∀ (j : Nat), j + xs.length ≤ n →
    ((xs.zipIdx j).filterMap fun p : α × Nat => if sel p.2 = true then none else some p.1) = xs.take (a - j) := by
  induction xs with
  | nil => intro j _; simp
  | cons x r ih =>
    intro j hj
    rw [List.length_cons] at hj
    rw [List.zipIdx_cons, List.filterMap_cons]
    have h1 := ih (j + 1) (by omega)
    rw [h j (by omega)]
    by_cases c : a ≤ j
    · rw [if_pos (decide_eq_true c)]
      simp only
      rw [h1, show a - j = 0 by omega, show a - (j + 1) = 0 by omega]
      simp
    · rw [if_neg (by simpa using c)]
      simp only
      rw [h1, show a - j = (a - (j + 1)) + 1 by omega, List.take_succ_cons]
theorem bounds_tail {a n : Nat} : sliceBounds (some (a : Int)) none none n = (((min a n : Nat) : Int), (n : Int), 1) := by
  simp only [sliceBounds, Option.getD_none]
  have h1 : ¬ ((a : Int) < 0) := by omega
  simp only [h1, if_false, show (1 : Int) > 0 by decide, if_true]
  congr 1
  omega
section
variable {prog : Program} {w : World} {A : Around} {E : Value → Shared → Prop} {s : Shared}
theorem delItem_tail {l sl : Addr} {items : List Value} {n : Nat} {vl vu : Value} {a : Nat} {Q : Unit → Shared → Prop}
    (e : s.heap.get? l = some { cls := .type "list", data := .seq items.toArray n }) 
    (hs : s.heap.IsSliceOf sl vl vu .none) (pl : IsPart vl (some (a : Int))) (pu : IsPart vu none) 
    (hsz : items.length ≤ sizeLine) (h : ∀ f : Array Value → Array Value, f items.toArray = (items.take a).toArray → Q () { s with heap := s.heap.update l (Obj.mapSeq f) }) :
    wpAny (model prog w) A (delItem (.ref l) (.ref sl)) Q E s := by
  have hl : s.heap.IsList l items.toArray := PySem.IsL.isList e
  obtain ⟨os, hos, hcs, hds⟩ := id hs
  have hTs : s.TypeIs (.ref sl) "slice" := ⟨os, hos, hcs⟩
  have hstep : ¬ ((rawPart none == rawInt 0) = true) := Bool.false_ne_true
  have hf : ∀ g : Nat → Bool, (∀ k, k < items.length → g k = decide (a ≤ k)) → ((items.toArray.toList.zipIdx.filterMap fun p : Value × Nat => if g p.2 = true then none else some p.1).toArray) = (items.take a).toArray := fun g hg => by
    have q := zip_take items.length a items g hg 0 (by omega)
    rw [Nat.sub_zero] at q
    rw [List.toList_toArray]
    exact congrArg List.toArray q
  refine wpAny_delItem_slot hl.typeIs (by decide) PySem.F.slot_list_delitem (wpAny_call_entry PySem.F.slot_list_delitem hl.typeIs PySem.F.entry_list_delitem ?_ (PySem.F.args_list_delitem_2 _ _))
  show wpAny _ _ (Builtin.List.listSubscript? (.ref sl) >>= _) _ _ s
  refine wpAny_bind ?_
  unfold Builtin.List.listSubscript?
  refine wpAny_bind (wpAny_specialOf hTs slice_no_index ?_)
  simp only [Option.isNone_none, if_true]
  refine wpAny_pure ?_
  show wpAny _ _ (typeOf (.ref sl) >>= _) _ _ s
  refine wpAny_bind (wpAny_typeOf hTs ?_)
  first
    | rw [if_neg (by decide)]
    | refine PySem.W.KFB.if_not (by decide) ?_
  rw [listSliceParts_eq]
  refine wpAny_bind (wpAny_bind (wpAny_field hos hds (x := .none) rfl (wpAny_bind (wpAny_listPart .none ?_))))
  rw [if_neg hstep]
  refine wpAny_bind (wpAny_field hos hds (x := vl) rfl (wpAny_bind (wpAny_listPart pl ?_)))
  refine wpAny_bind (wpAny_field hos hds (x := vu) rfl (wpAny_bind (wpAny_listPart pu (wpAny_pure ?_))))
  refine wpAny_bind (m := Builtin.List.listItems (.ref l)) ?_
  unfold Builtin.List.listItems
  refine wpAny_bind (wpAny_seqItems e rfl (wpAny_pure ?_))
  refine wpAny_bind (wpAny_of_eq ((sliceIndices_raw (some (a : Int)) none none items.toArray.size (by simp)).trans (congrArg (pure : Int × Int × Int → Sem (Int × Int × Int)) bounds_tail)) ?_)
  refine wpAny_bind (wpAny_rule ?_)
  have hg := hf (fun k => (if (1 : Int) > 0 then decide (((min a items.toArray.size : Nat) : Int) ≤ (k : Int)) && decide ((k : Int) < ((items.toArray.size : Nat) : Int)) && ((k : Int) - ((min a items.toArray.size : Nat) : Int)) % 1 == 0 else false)) (fun k hk => by
    show (decide (((min a items.toArray.size : Nat) : Int) ≤ (k : Int)) && decide ((k : Int) < ((items.toArray.size : Nat) : Int)) && (((k : Int) - ((min a items.toArray.size : Nat) : Int)) % 1 == 0)) = decide (a ≤ k)
    have e1 : (((k : Int) - ((min a items.toArray.size : Nat) : Int)) % 1 == 0) = true := by
      rw [Int.emod_one]; rfl
    have hk' : k < items.toArray.size := by simpa using hk
    rw [e1, Bool.and_true, show decide ((k : Int) < ((items.toArray.size : Nat) : Int)) = true from decide_eq_true (by omega), Bool.and_true]
    exact decide_eq_decide.mpr (by omega))
  refine wpAny_bind (show wpAny _ _ (updateSeq l _) _ _ s from wpAny_updateSeq e rfl ?_ (by simpa using hsz) ?_)
  · refine wpAny_bind (wpAny_letGo ?_)
    exact wpAny_pure ⟨.none, rfl, h _ hg⟩
  · exact Nat.le_trans (Nat.le_of_eq (congrArg Array.size hg)) (by rw [List.size_toArray, List.length_take]; omega)
end
section
variable {X : Cx}
/-- del xs[i:], i from 0 -/
def tDelTail (to ti : TE) : TS := fun D σ H => to σ H fun x H1 => ti σ H1 fun y H2 => ∃ (l : Addr) (xs : List V) (a : Nat), x = .ref l ∧ y = .int (a : Int) ∧ H2 l = some (.lst xs) ∧ D.nx σ (upd H2 l (.lst (xs.take a)))
theorem ps_delTail {o i : Expr} {to ti : TE} {tpos p2 pos : Pos} (ho : PE X o to) (hi : PE X i ti) : PS X (.Delete [.Subscript o (.Slice (some i) none none p2) tpos] pos) (tDelTail to ti) := by
  refine ⟨fun pins s σ H D I h => ?_⟩
  refine wpAny_Delete (wpAny_deleteEach_cons (wpAny_delete_Subscript (thn (ho.run pins s σ H _ I h) fun u s1 ⟨x, H1, I1, rx, q1⟩ => wpAny_Slice ?_)))
  rw [evalPart_some]
  refine thn (hi.run pins s1 σ H1 _ I1 q1) fun iv s2 ⟨y, H2, I2, ry, q2⟩ => ?_
  obtain ⟨l, xs, a, ex, ey, hH, q2⟩ := q2
  subst ex
  subst ey
  cases (show u = Value.ref l from rx)
  obtain ⟨t, rfl⟩ := (show ∃ t, iv = Value.int a t from ry)
  rw [evalPart_none]
  refine wpAny_pure ?_
  refine wpAny_pure ?_
  have I4 : Inv X pins σ H2 { s2 with heap := s2.heap.push { cls := .type "slice", data := .fields #[.int a t, .none, .none] } } := I2.kept (t' := s2.toks) fun b ob q => Heap.get?_push_of_some _ q
  obtain ⟨z, its, n, r, hl, e⟩ := I4.lstM hH
  refine delItem_tail e (Heap.IsSliceOf.new ..) (.int _ _) .none (by omega) fun f hf => ?_
  refine wpAny_deleteEach_nil ⟨σ, _, I4.lset (its' := its.take a) (t' := s2.toks) hH e hf (r.take a) (by rw [List.length_take]; omega), q2⟩
end
end L2.KB
end P_H4
section P_KB
/-! readings taken from the left, one rule a head -/
namespace L2.KB
open PySem PySem.Spec PyProof.Rows
/-- a def of the module, as its callers use it -/
structure Cal (P : Program) (w : World) (K : PySem.W.Frag) (mg : Str → Option Value) (base : Heap) (k : Nat) (x : Str) (f : Addr) (fd : FuncData) (ps : List Str) (sp : Sp) : Prop where
  ok : FnOk P w K mg base CX0 k f fd ps sp
  mg : mg x = some (.ref f)
  kp : PySem.W.keepIn K (.ref f) = true
  bd : Binds K fd ps []
/-- a method of a class -/
structure CalM (P : Program) (w : World) (K : PySem.W.Frag) (mg : Str → Option Value) (base : Heap) (k : Nat) (C : Addr) (x : Str) (f : Addr) (fd : FuncData) (ps : List Str) (sp : Sp) : Prop where
  ok : FnOk P w K mg base CX0 k f fd ps sp
  mt : Meth K C x f
  bd : Binds K fd ps []
section
variable {X : Cx} {e o : Expr} {es : List Expr} {t : TA} {te : TE} {p pos apos : Pos} {k : Nat} {x : Str} {f : Addr} {fd : FuncData} {ps : List Str} {sp : Sp}
theorem pe_f (c : Cal X.prog X.w X.K X.mg X.base k x f fd ps sp) (hr : Room k X.A) (ha : PA X (e :: es) t) (hg : Gl X x := by rfl) (hdb : (x == ("__debug__" : Str)) = false := by decide) 
    (he : starEach (e :: es) X.env = (false, eval e X.env) :: starEach es X.env := by rfl) (hpl : (backTo pos (starEach es X.env)).any (·.1) = false := by rfl) : PE X (.Call (.Name x p) (e :: es) [] pos) (tCall sp [] E0 t) :=
  pe_call c.ok hr hg c.mg c.kp c.bd .nil pass0 ha hdb he hpl
theorem pe_mm {pl : Sem Bool} {C : Addr} (c : CalM X.prog X.w X.K X.mg X.base k C x f fd ps sp) (hr : Room k X.A) (cl : Cls X.K C) (ho : PE X o te) (ha : PA X (e :: es) t)
    (hst : starEach (e :: es) X.env = (false, eval e X.env) :: starEach es X.env := by rfl) (hpl : (backTo pos (starEach es X.env)).any (·.1) = false := by rfl)
    (ht : eval (.Call (.Attribute o x apos) (e :: es) [] pos) X.env = (do
      let ov ← eval o X.env
      standAt apos.atName
      let (f, first) ← holding [ov] (getMethod ov x pl)
      callWith pos f first (backTo pos (starEach (e :: es) X.env)) (backToKw pos (keywordEach [] X.env))) := by rfl) : PE X (.Call (.Attribute o x apos) (e :: es) [] pos) (tMeth C x sp [] E0 te t) :=
  pe_meth ho cl c.mt c.ok hr c.bd .nil pass0 ha hst hpl ht
theorem pe_mm0 {pl : Sem Bool} {C : Addr} (c : CalM X.prog X.w X.K X.mg X.base k C x f fd ps sp) (hr : Room k X.A) (cl : Cls X.K C) (ho : PE X o te)
    (ht : eval (.Call (.Attribute o x apos) [] [] pos) X.env = (do
      let ov ← eval o X.env
      standAt apos.atName
      let (f, first) ← holding [ov] (getMethod ov x pl)
      callWith pos f first (backTo pos (starEach [] X.env)) (backToKw pos (keywordEach [] X.env))) := by rfl) : PE X (.Call (.Attribute o x apos) [] [] pos) (tMeth C x sp [] E0 te tNil) :=
  pe_meth0 ho cl c.mt c.ok hr c.bd .nil pass0 ht
end

/-! ### heaps -/
theorem upd_new {H : Hp} {p a : Addr} {o u : HO} (np : H p = none) (e : H a = some u) : upd H p o a = some u := (upd_ne (ne_of_none e np)).trans e
theorem upd_old {H : Hp} {p a : Addr} {o u : HO} (ne : a ≠ p) (e : H a = some u) : upd H p o a = some u := (upd_ne ne).trans e
theorem upd_none {H : Hp} {p a : Addr} {o : HO} (ne : a ≠ p) (e : H a = none) : upd H p o a = none := (upd_ne ne).trans e

/-! ### rules for readings -/
section
variable {K : PySem.W.Frag} {σ : L2.St} {H : Hp} {Q : VK} {QB : Bool → Hp → Prop} {QA : List V → Hp → Prop} {D : Ends} {v x y : V} {i j : Int} {n : Nat} {ta tb tc te : TE} {t u : TS} {tl : TA} {r : R2} {g : TG} {c d : TT} {b : Bool}
theorem r_var (h : σ[n]? = some (some v)) (q : Q v H) : tVar n σ H Q := ⟨v, h, q⟩
theorem r_c (q : Q v H) : tC v σ H Q := q
theorem r_op (h : ta σ H fun x H1 => tb σ H1 fun y H2 => r x y H2 Q) : tOp r ta tb σ H Q := h
theorem r_I0 {g : Int → Int → V} (q : Q (g i j) H) : rI0 g (.int i) (.int j) H Q := ⟨i, j, rfl, rfl, q⟩
theorem r_I {C : Int → Int → Prop} {g : Int → Int → V} (c : C i j) (q : Q (g i j) H) : rI C g (.int i) (.int j) H Q := ⟨i, j, rfl, rfl, c, q⟩
theorem r_U {g : Int → V} (q : Q (g i) H) : rU g (.int i) H Q := ⟨i, rfl, q⟩
theorem r_un {r : V → Hp → VK → Prop} (h : ta σ H fun x H1 => r x H1 Q) : tUn r ta σ H Q := h
theorem r_seq (h : t { D with nx := u D } σ H) : tSeq t u D σ H := h
theorem r_next (h : D.nx σ H) : tNext D σ H := h
theorem r_asg (h : te σ H fun x H1 => g x σ H1 D.nx) : tAsg te g D σ H := h
theorem r_name {m : Nat} {Q : L2.St → Hp → Prop} (h : Q (σ.set m (some v)) H) : gName m v σ H Q := h
theorem r_ret (h : te σ H D.rt) : tRet te D σ H := h
theorem r_drop (h : te σ H fun _ H1 => D.nx σ H1) : tDrop te D σ H := h
theorem r_if (h : c σ H fun b H1 => if b = true then t D σ H1 else u D σ H1) : tIfS c t u D σ H := h
theorem r_cons (h : ta σ H fun x H1 => tl σ H1 fun xs H2 => QA (x :: xs) H2) : tCons ta tl σ H QA := h
theorem r_nil (h : QA [] H) : tNil σ H QA := h
theorem r_cb {rr : List V → Hp → VK → Prop} (h : tl σ H fun vs H1 => rr vs H1 Q) : tCB rr tl σ H Q := h
theorem r_call {sp : Sp} {E : XK} (h : tl σ H fun vs H1 => sp (vs ++ []) H1 Q E) : tCall sp [] E tl σ H Q := h
def kFld (K : PySem.W.Frag) (f : Str) (x : V) (H : Hp) (Q : VK) : Prop := ∃ a C dx fs v, x = .ref a ∧ H a = some (.ins C dx fs) ∧ Cls K C ∧ NoAttr K C f ∧ fs.lookup f = some v ∧ Q v H
theorem r_fld {f : Str} (h : ta σ H fun x H1 => kFld K f x H1 Q) : tFld K ta f σ H Q := h
theorem k_fld {f : Str} {a C dx : Addr} {fs : List (Str × V)} (h : H a = some (.ins C dx fs)) (c : Cls K C) (n : NoAttr K C f) (l : fs.lookup f = some v) (q : Q v H) : kFld K f (.ref a) H Q := ⟨a, C, dx, fs, v, rfl, h, c, n, l, q⟩
def kSFld (K : PySem.W.Frag) (f : Str) (D : Ends) (σ : L2.St) (y x : V) (H : Hp) : Prop := ∃ a C dx fs, x = .ref a ∧ H a = some (.ins C dx fs) ∧ Cls K C ∧ NoAttr K C f ∧ fs.length < 1000 ∧ D.nx σ (upd H a (.ins C dx (putF f y fs)))
theorem r_sfld {f : Str} (h : tb σ H fun y H1 => ta σ H1 fun x H2 => kSFld K f D σ y x H2) : sFld K ta tb f D σ H := h
theorem k_sfld {f : Str} {a C dx : Addr} {fs fs' : List (Str × V)} (h : H a = some (.ins C dx fs)) (c : Cls K C) (n : NoAttr K C f) (l : fs.length < 1000) (e : putF f y fs = fs') (q : D.nx σ (upd H a (.ins C dx fs'))) : kSFld K f D σ y (.ref a) H :=
  ⟨a, C, dx, fs, rfl, h, c, n, l, by rw [e]; exact q⟩
theorem r_test (h : te σ H fun x H' => ∃ k, x = .bl k ∧ QB k H') : tTest te σ H QB := h
theorem r_tb (h : te σ H fun x H' => ∃ k, x = .bl k ∧ QB k H') : tB te σ H QB := h
theorem k_bl {P : Bool → Prop} (q : P b) : ∃ k, V.bl b = .bl k ∧ P k := ⟨b, rfl, q⟩
theorem r_notV (h : ta σ H fun x H1 => ∃ c, x = .bl c ∧ Q (.bl (!c)) H1) : tNotV ta σ H Q := h
theorem r_andV (h : ta σ H fun x H1 => ∃ c, x = .bl c ∧ if c = true then tb σ H1 Q else Q (.bl false) H1) : tAndV ta tb σ H Q := h
theorem r_orV (h : ta σ H fun x H1 => ∃ c, x = .bl c ∧ if c = true then Q (.bl true) H1 else tb σ H1 Q) : tOrV ta tb σ H Q := h
theorem r_ifE (h : c σ H fun k H1 => if k = true then ta σ H1 Q else tb σ H1 Q) : tIf c ta tb σ H Q := h
theorem r_tand (h : c σ H fun k H1 => if k = true then d σ H1 QB else QB false H1) : tAnd c d σ H QB := h
theorem r_tor (h : c σ H fun k H1 => if k = true then QB true H1 else d σ H1 QB) : tOr c d σ H QB := h
theorem r_tnot (h : c σ H fun k H1 => QB (!k) H1) : tNot c σ H QB := h
theorem r_ixL {p : Addr} {xs : List V} (h : SqL K H p xs) (a : atI xs i = some v) (q : Q v H) : rIxL K (.ref p) (.int i) H Q := ⟨p, xs, i, v, rfl, rfl, h, a, q⟩
theorem r_ixT {p : Addr} {xs : List V} (h : SqT K H p xs) (a : atI xs i = some v) (q : Q v H) : rIxT K (.ref p) (.int i) H Q := ⟨p, xs, i, v, rfl, rfl, h, a, q⟩
theorem r_tup (h : tl σ H fun xs H1 => xs.length ≤ sizeLine ∧ ∀ p, H1 p = none → Q (.ref p) (upd H1 p (.tup xs))) : tTup tl σ H Q := h
theorem r_lst (h : tl σ H fun xs H1 => xs.length ≤ sizeLine ∧ ∀ p, H1 p = none → Q (.ref p) (upd H1 p (.lst xs))) : tLst tl σ H Q := h
theorem k_new {xs : List V} {P : Addr → Prop} (n : xs.length ≤ sizeLine) (h : ∀ p, H p = none → P p) : xs.length ≤ sizeLine ∧ ∀ p, H p = none → P p := ⟨n, h⟩
theorem len1 {x : V} : [x].length ≤ sizeLine := by show 1 ≤ sizeLine; decide
theorem len2 {x y : V} : [x, y].length ≤ sizeLine := by show 2 ≤ sizeLine; decide
theorem len3 {x y z : V} : [x, y, z].length ≤ sizeLine := by show 3 ≤ sizeLine; decide
theorem len4 {x y z w : V} : [x, y, z, w].length ≤ sizeLine := by show 4 ≤ sizeLine; decide
theorem len0 : ([] : List V).length ≤ sizeLine := Nat.zero_le _
def kDGet (Q : VK) (x y : V) (H : Hp) : Prop := ∃ a v, x = .ref a ∧ DGet H a y (some v) ∧ Q v H
theorem r_dget (h : ta σ H fun x H1 => tb σ H1 fun y H2 => kDGet Q x y H2) : tDGet ta tb σ H Q := h
theorem k_dgetS {a : Addr} {kvs : List (Key × V)} {z : Str} (h : H a = some (.dK kvs)) (e : valV kvs (.inr z) = some v) (q : Q v H) : kDGet Q (.ref a) (.str z) H := ⟨a, v, rfl, by rw [← e]; exact DGet.k (k := Sum.inr z) h, q⟩
theorem k_dgetI {a : Addr} {kvs : List (Key × V)} (h : H a = some (.dK kvs)) (e : valV kvs (.inl i) = some v) (q : Q v H) : kDGet Q (.ref a) (.int i) H := ⟨a, v, rfl, by rw [← e]; exact DGet.k (k := Sum.inl i) h, q⟩
def kDPut (D : Ends) (σ : L2.St) (v x y : V) (H : Hp) : Prop := ∃ a H4, x = .ref a ∧ DPut H a y v H4 ∧ D.nx σ H4
theorem r_dput (h : tc σ H fun v H1 => ta σ H1 fun x H2 => tb σ H2 fun y H3 => kDPut D σ v x y H3) : sDPut ta tb tc D σ H := h
theorem k_dputS {a : Addr} {kvs kvs' : List (Key × V)} {z : Str} (h : H a = some (.dK kvs)) (l : kvs.length < sizeLine) (e : putK kvs (.inr z) v = kvs') (q : D.nx σ (upd H a (.dK kvs'))) : kDPut D σ v (.ref a) (.str z) H :=
  ⟨a, _, rfl, DPut.k (k := Sum.inr z) h l, by rw [e]; exact q⟩
theorem k_dputI {a : Addr} {kvs kvs' : List (Key × V)} (h : H a = some (.dK kvs)) (l : kvs.length < sizeLine) (e : putK kvs (.inl i) v = kvs') (q : D.nx σ (upd H a (.dK kvs'))) : kDPut D σ v (.ref a) (.int i) H :=
  ⟨a, _, rfl, DPut.k (k := Sum.inl i) h l, by rw [e]; exact q⟩
def kDIn (Q : VK) (f : Bool → Bool) (y x : V) (H : Hp) : Prop := ∃ a o, x = .ref a ∧ DGet H a y o ∧ Q (.bl (f o.isSome)) H
theorem r_din (h : tb σ H fun y H1 => ta σ H1 fun x H2 => kDIn Q (fun b => b) y x H2) : tDIn tb ta σ H Q := h
theorem r_dnotin (h : tb σ H fun y H1 => ta σ H1 fun x H2 => kDIn Q (fun b => !b) y x H2) : tDNotIn tb ta σ H Q := h
theorem k_dinI {f : Bool → Bool} {a : Addr} {kvs : List (Key × V)} {o : Option V} (h : H a = some (.dK kvs)) (e : valV kvs (.inl i) = o) (q : Q (.bl (f o.isSome)) H) : kDIn Q f (.int i) (.ref a) H := ⟨a, o, rfl, by rw [← e]; exact DGet.k (k := Sum.inl i) h, q⟩
def kMeth (C : Addr) (m : Str) (sp : Sp) (E : XK) (tl : TA) (σ : L2.St) (x : V) (H : Hp) (Q : VK) : Prop := ∃ a dx fs, x = .ref a ∧ H a = some (.ins C dx fs) ∧ fs.lookup m = none ∧ tl σ H fun vs H2 => sp (x :: (vs ++ [])) H2 Q E
theorem r_meth {C : Addr} {m : Str} {sp : Sp} {E : XK} (h : ta σ H fun x H1 => kMeth C m sp E tl σ x H1 Q) : tMeth C m sp [] E ta tl σ H Q := h
theorem k_meth {C a dx : Addr} {m : Str} {sp : Sp} {E : XK} {fs : List (Str × V)} (h : H a = some (.ins C dx fs)) (l : fs.lookup m = none) (q : tl σ H fun vs H2 => sp (.ref a :: (vs ++ [])) H2 Q E) : kMeth C m sp E tl σ (.ref a) H Q := ⟨a, dx, fs, rfl, h, l, q⟩
def kApp (Q : VK) (x : V) (tl : TA) (K : PySem.W.Frag) (σ : L2.St) (H : Hp) : Prop := tyV K "list" x H ∧ tl σ H fun xs H2 => rAppend x xs H2 Q
theorem r_app (h : ta σ H fun x H1 => kApp Q x tl K σ H1) : tBM K "list" rAppend ta tl σ H Q := h
theorem k_app {l : Addr} {xs : List V} (h : H l = some (.lst xs)) (q : tl σ H fun vs H2 => rAppend (.ref l) vs H2 Q) : kApp Q (.ref l) tl K σ H := ⟨.inl ⟨rfl, xs, SqL.of h⟩, q⟩
theorem k_append {l : Addr} {xs : List V} (h : H l = some (.lst xs)) (n : xs.length < sizeLine) (q : Q .non (upd H l (.lst (xs ++ [v])))) : rAppend (.ref l) [v] H Q := ⟨l, xs, v, rfl, rfl, h, n, q⟩
theorem r_slice {rr : V → Option Int → Option Int → Hp → VK → Prop} {tlo thi : TO} (h : te σ H fun x H1 => tlo σ H1 fun l H2 => thi σ H2 fun u H3 => rr x l u H3 Q) : tSl rr te tlo thi σ H Q := h
theorem r_part {QO : Option Int → Hp → Prop} (h : te σ H fun x H1 => ∃ i, x = .int i ∧ QO (some i) H1) : tPart te σ H QO := h
theorem k_part {P : Int → Prop} (q : P i) : ∃ k, V.int i = .int k ∧ P k := ⟨i, rfl, q⟩
theorem r_nopart {QO : Option Int → Hp → Prop} (h : QO none H) : tNoPart σ H QO := h
theorem k_slL {a : Addr} {xs : List V} {lo hi : Option Int} (h : SqL K H a xs) (q : ∀ p, H p = none → Q (.ref p) (upd H p (.lst (cutV xs lo hi)))) : rSlL K (.ref a) lo hi H Q := ⟨a, xs, rfl, h, q⟩
theorem r_rng1 {R : It → Hp → Prop} (h : tl σ H fun vs H1 => ∃ j : Int, vs = [.int j] ∧ -(2 ^ 62) ≤ j ∧ j < 2 ^ 62 ∧ R (Itr 0 j.toNat) H1) : iRng1 tl σ H R := h
theorem k_lenL {p : Addr} {xs : List V} {P : List V → Prop} (h : SqL K H p xs) (q : P xs) : ∃ p' ys, [V.ref p] = [.ref p'] ∧ (SqL K H p' ys ∨ SqT K H p' ys) ∧ P ys := ⟨p, xs, rfl, .inl h, q⟩
theorem k_int1 {P : Int → Prop} {R : Bool → Prop} (q : P i) : (∃ k, [V.int i] = [.int k] ∧ P k) ∨ ∃ k, [V.int i] = [.bl k] ∧ R k := .inl ⟨i, rfl, q⟩
theorem k_ints2 {P : Int → Int → Prop} (q : P i j) : ∃ k m, [V.int i, V.int j] = [.int k, .int m] ∧ P k m := ⟨i, j, rfl, q⟩
theorem k_lenD {p : Addr} {kvs : List (Key × V)} {P : List (Key × V) → Prop} (h : H p = some (.dK kvs)) (q : P kvs) : ∃ a k, [V.ref p] = [.ref a] ∧ H a = some (.dK k) ∧ P k := ⟨p, kvs, rfl, h, q⟩
def kDel (D : Ends) (σ : St) (x y : V) (H : Hp) : Prop := ∃ (l : Addr) (xs : List V) (a : Nat), x = .ref l ∧ y = .int (a : Int) ∧ H l = some (.lst xs) ∧ D.nx σ (upd H l (.lst (xs.take a)))
theorem r_del (h : ta σ H fun x H1 => tb σ H1 fun y H2 => kDel D σ x y H2) : tDelTail ta tb D σ H := h
theorem k_del {l : Addr} {xs : List V} {a : Nat} (h : H l = some (.lst xs)) (q : D.nx σ (upd H l (.lst (xs.take a)))) : kDel D σ (.ref l) (.int (a : Int)) H := ⟨l, xs, a, rfl, rfl, h, q⟩
def kSetd (Q : VK) (tb tc : TE) (σ : St) (x : V) (H : Hp) : Prop := ∃ a, x = .ref a ∧ IsD H a ∧ tb σ H fun y H2 => tc σ H2 fun z H3 => ∃ (kvs : List (Key × V)) (k : Key), H3 a = some (.dK kvs) ∧ y = kV k ∧ kvs.length < sizeLine ∧
  (∀ v, valV kvs k = some v → Q v H3) ∧ (valV kvs k = none → Q z (upd H3 a (.dK (putK kvs k z))))
theorem r_setd (h : ta σ H fun x H1 => kSetd Q tb tc σ x H1) : tDSetd ta tb tc σ H Q := h
def kSetd2 (Q : VK) (a : Addr) (y z : V) (H : Hp) : Prop := ∃ (kvs : List (Key × V)) (k : Key), H a = some (.dK kvs) ∧ y = kV k ∧ kvs.length < sizeLine ∧ (∀ v, valV kvs k = some v → Q v H) ∧ (valV kvs k = none → Q z (upd H a (.dK (putK kvs k z))))
theorem k_setd {a : Addr} {kvs : List (Key × V)} (h : H a = some (.dK kvs)) (q : tb σ H fun y H2 => tc σ H2 fun z H3 => kSetd2 Q a y z H3) : kSetd Q tb tc σ (.ref a) H := ⟨a, rfl, .inl ⟨kvs, .inl h⟩, q⟩
theorem k_setd2 {a : Addr} {kvs : List (Key × V)} {z : V} (h : H a = some (.dK kvs)) (l : kvs.length < sizeLine) (q1 : ∀ v, valV kvs (.inl i) = some v → Q v H) (q2 : valV kvs (.inl i) = none → Q z (upd H a (.dK (putK kvs (.inl i) z)))) : kSetd2 Q a (.int i) z H := ⟨kvs, .inl i, h, rfl, l, q1, q2⟩
theorem r_eq (h : scal x y = true) (q : Q (.bl (decide (x = y))) H) : rEq x y H Q := ⟨h, q⟩
theorem r_ne (h : scal x y = true) (q : Q (.bl (!decide (x = y))) H) : rNe x y H Q := ⟨h, q⟩
theorem r_eqI (q : Q (.bl (decide (i = j))) H) : rEq (.int i) (.int j) H Q := ⟨rfl, by
  have e : decide (V.int i = V.int j) = decide (i = j) := decide_eq_decide.mpr ⟨fun q => by injection q, fun q => by rw [q]⟩
  rw [e]; exact q⟩
theorem r_neI (q : Q (.bl (!decide (i = j))) H) : rNe (.int i) (.int j) H Q := ⟨rfl, by
  have e : decide (V.int i = V.int j) = decide (i = j) := decide_eq_decide.mpr ⟨fun q => by injection q, fun q => by rw [q]⟩
  rw [e]; exact q⟩
theorem r_isN (h : ta σ H fun x H1 => Q (.bl (decide (x = .non))) H1) : tIsN ta σ H Q := h
theorem r_notN (h : ta σ H fun x H1 => Q (.bl (!decide (x = .non))) H1) : tNotN ta σ H Q := h
end
/-! ### stores at places -/
section
variable {σ : L2.St} {H : Hp} {v : V} {te ti : TE}
theorem r_gsub {t : TSet} {QS : L2.St → Hp → Prop} (h : te σ H fun o H1 => ti σ H1 fun i H2 => t o i v H2 fun H3 => QS σ H3) : gSub te ti t v σ H QS := h
theorem k_setL {p : Addr} {xs ys : List V} {k : Int} {j : Nat} {QH : Hp → Prop} (h : H p = some (.lst xs)) (hj : ixN xs.length k = some j) (e : xs.set j v = ys) (q : QH (upd H p (.lst ys))) : rSetL (.ref p) (.int k) v H QH := ⟨p, xs, k, j, rfl, rfl, h, hj, by rw [e]; exact q⟩
end
theorem k_isi {K : PySem.W.Frag} {H : Hp} {Q : VK} {x : V} {a b : String} {r : Bool} (ty : TyX K H x (.type a)) (e : kitB a b = some r) (q : Q (.bl r) H) : rIsi K [x, .ty b] H Q := ⟨x, .ty b, .type a, .type b, r, rfl, .ty b, ty, kit_ty e, q⟩
section
variable {σ : L2.St} {H : Hp} {Q : VK} {tk tv : TE} {tl : TA}
theorem r_disp {trs : List (TE × TE)} (h : ∀ p, H p = none → tPairs trs σ (upd H p (.dK [])) fun ps H2 => H2 p = some (.dK []) ∧ ∃ kvs : List (Key × V), ps = kvs.map (fun kv => (kV kv.1, kv.2)) ∧ kvs.length ≤ 15 ∧ Q (.ref p) (upd H2 p (.dK (mergeK [] kvs)))) : tDisp trs σ H Q := h
theorem r_pcons {r : List (TE × TE)} {QP : List (V × V) → Hp → Prop} (h : tk σ H fun x H1 => tv σ H1 fun y H2 => tPairs r σ H2 fun ps H3 => QP ((x, y) :: ps) H3) : tPairs ((tk, tv) :: r) σ H QP := h
theorem r_pnil {QP : List (V × V) → Hp → Prop} (h : QP [] H) : tPairs [] σ H QP := h
theorem r_make {C : Addr} {sp : Sp} {E : XK} (h : tl σ H fun vs H1 => ∀ x dx, H1 x = none → H1 dx = none → dx ≠ x → sp (.ref x :: (vs ++ [])) (upd (upd H1 dx (.own x)) x (.ins C dx [])) (fun v H2 => v = .non ∧ Q (.ref x) H2) E) : tMake C sp [] E tl σ H Q := h
def kCat (Q : VK) (x y : V) (H : Hp) : Prop := rCat x y H Q
theorem k_cat {l b : Addr} {xs zs : List V} (h1 : H l = some (.lst xs)) (h2 : H b = some (.lst zs)) (n : xs.length + zs.length ≤ sizeLine) (q : ∀ p, H p = none → Q (.ref p) (upd H p (.lst (xs ++ zs)))) : rCat (.ref l) (.ref b) H Q := ⟨l, b, xs, zs, rfl, rfl, h1, h2, n, q⟩
end
theorem at4 {a b c d r : Int} (h0 : 0 ≤ r) (h4 : r < 4) : ∃ s, atI [V.int a, V.int b, V.int c, V.int d] r = some (.int s) ∧ (s = a ∨ s = b ∨ s = c ∨ s = d) := by
  have : r = 0 ∨ r = 1 ∨ r = 2 ∨ r = 3 := by omega
  rcases this with rfl | rfl | rfl | rfl
  · exact ⟨a, rfl, .inl rfl⟩
  · exact ⟨b, rfl, .inr (.inl rfl)⟩
  · exact ⟨c, rfl, .inr (.inr (.inl rfl))⟩
  · exact ⟨d, rfl, .inr (.inr (.inr rfl))⟩
/-! ### loops -/
section
variable {K : PySem.W.Frag} {σ : L2.St} {H : Hp} {D : Ends} {x : V} {g : TG} {tb : TS} {te : TE} {tl : TA}
def kW (J : It) (g : TG) (tb : TS) (D : Ends) (σ : L2.St) (H : Hp) : Prop := ∃ W : Nat → Nat → L2.St → Hp → Prop, (∃ m, W 0 m σ H) ∧ ∀ i m σ H, W i m σ H →
  (J.stop i H ∧ D.nx σ H) ∨ (J.go i H ∧ ∃ N : L2.St → Hp → Prop, (∀ σ' H', N σ' H' → ∃ m', m' < m ∧ W (i + 1) m' σ' H') ∧ ∀ x H', J.yld i H x H' → g x σ H' fun σ2 H2 => tb { D with nx := N, ct := N, bk := D.nx } σ2 H2)
def kForL (K : PySem.W.Frag) (g : TG) (tb : TS) (D : Ends) (σ : L2.St) (x : V) (H : Hp) : Prop := ∃ a, x = .ref a ∧ (∃ xs, SqL K H a xs) ∧ kW (Itl K a) g tb D σ H
def kForT (K : PySem.W.Frag) (g : TG) (tb : TS) (D : Ends) (σ : L2.St) (x : V) (H : Hp) : Prop := ∃ a, x = .ref a ∧ (∃ xs, SqT K H a xs) ∧ kW (Itt K a) g tb D σ H
def kForR (g : TG) (tb : TS) (D : Ends) (σ : L2.St) (vs : List V) (H : Hp) : Prop := ∃ j : Int, vs = [.int j] ∧ -(2 ^ 62) ≤ j ∧ j < 2 ^ 62 ∧ kW (Itr 0 j.toNat) g tb D σ H
theorem r_forL (h : te σ H fun x H1 => kForL K g tb D σ x H1) : tFor (iList K te) g tb D σ H := h
theorem r_forT (h : te σ H fun x H1 => kForT K g tb D σ x H1) : tFor (iTup K te) g tb D σ H := h
theorem r_forR (h : tl σ H fun vs H1 => kForR g tb D σ vs H1) : tFor (iRng1 tl) g tb D σ H := h
theorem k_forL {a : Addr} {xs : List V} (h : SqL K H a xs) (Pv : Nat → L2.St → Hp → Prop) (h0 : Pv 0 σ H) (hl : ∀ i σ H, i ≤ xs.length → Pv i σ H → SqL K H a xs)
    (hs : ∀ i x σ H, xs[i]? = some x → Pv i σ H → g x σ H fun σ2 H2 => tb { D with nx := Pv (i + 1), ct := Pv (i + 1), bk := D.nx } σ2 H2) (hd : ∀ σ H, Pv xs.length σ H → D.nx σ H) : kForL K g tb D σ (.ref a) H :=
  ⟨a, rfl, ⟨xs, h⟩, for_list Pv h0 hl hs hd⟩
theorem k_forT {a : Addr} {xs : List V} (h : SqT K H a xs) (Pv : Nat → L2.St → Hp → Prop) (h0 : Pv 0 σ H) (hl : ∀ i σ H, i ≤ xs.length → Pv i σ H → SqT K H a xs)
    (hs : ∀ i x σ H, xs[i]? = some x → Pv i σ H → g x σ H fun σ2 H2 => tb { D with nx := Pv (i + 1), ct := Pv (i + 1), bk := D.nx } σ2 H2) (hd : ∀ σ H, Pv xs.length σ H → D.nx σ H) : kForT K g tb D σ (.ref a) H :=
  ⟨a, rfl, ⟨xs, h⟩, for_tup Pv h0 hl hs hd⟩
theorem k_forR {n : Nat} (hn : n < 1000000) (Pv : Nat → L2.St → Hp → Prop) (h0 : Pv 0 σ H)
    (hs : ∀ i σ H, i < n → Pv i σ H → g (.int (i : Int)) σ H fun σ2 H2 => tb { D with nx := Pv (i + 1), ct := Pv (i + 1), bk := D.nx } σ2 H2) (hd : ∀ σ H, Pv n σ H → D.nx σ H) : kForR g tb D σ [.int (n : Int)] H :=
  ⟨n, rfl, by omega, by omega, by
    show kW (Itr 0 n) g tb D σ H
    refine for_range Pv h0 (fun i σ H hi p => ?_) hd
    rw [Int.zero_add]
    exact hs i σ H hi p⟩
end
/-! ### the keys of a dict, locked while they are walked -/
section
variable {K : PySem.W.Frag} {σ : L2.St} {H : Hp} {D : Ends} {Q : VK} {x : V} {g : TG} {tb : TS} {te : TE}
def kForK (g : TG) (tb : TS) (D : Ends) (σ : L2.St) (x : V) (H : Hp) : Prop := ∃ d o, x = .ref d ∧ ((∃ kvs, H d = some (.frz o (.dK kvs)) ∧ kW (Itk d o kvs) g tb D σ H) ∨ ∃ kvs, H d = some (.frz o (.dT kvs)) ∧ kW (Itkt d o kvs) g tb D σ H)
theorem r_forK (h : te σ H fun x H1 => kForK g tb D σ x H1) : tFor (iKeys te) g tb D σ H := h
theorem k_forK {d : Addr} {o : Obj} {kvs : List (Key × V)} (h : H d = some (.frz o (.dK kvs))) (Pv : Nat → L2.St → Hp → Prop) (h0 : Pv 0 σ H) (hG : ∀ i σ H, i ≤ kvs.length → Pv i σ H → H d = some (.frz o (.dK kvs)))
    (hs : ∀ i k v σ H, kvs[i]? = some (k, v) → Pv i σ H → g (kV k) σ H fun σ2 H2 => tb { D with nx := Pv (i + 1), ct := Pv (i + 1), bk := D.nx } σ2 H2) (hd : ∀ σ H, Pv kvs.length σ H → D.nx σ H) : kForK g tb D σ (.ref d) H :=
  ⟨d, o, rfl, .inl ⟨kvs, h, for_it walk_keys Pv h0 hG (fun i x σ H H' _ p y => by
    obtain ⟨rfl, k, v, e, rfl⟩ := y
    exact hs i k v σ _ e p) hd⟩⟩
theorem k_lock {t : TS} {d : Addr} {kvs : List (Key × V)} (h : H d = some (.dK kvs)) (q : ∀ od, t ⟨fun σ' H' => H' d = some (.frz od (.dK kvs)) ∧ D.nx σ' (upd H' d (.dK kvs)), fun v H' => H' d = some (.frz od (.dK kvs)) ∧ D.rt v (upd H' d (.dK kvs)),
    fun σ' H' => H' d = some (.frz od (.dK kvs)) ∧ D.bk σ' (upd H' d (.dK kvs)), fun σ' H' => H' d = some (.frz od (.dK kvs)) ∧ D.ct σ' (upd H' d (.dK kvs))⟩ σ (upd H d (.frz od (.dK kvs)))) : tLock t D σ H := ⟨d, _, h, trivial, q⟩
theorem k_lockE {t : TE} {d : Addr} {kvs : List (Key × V)} (h : H d = some (.dK kvs)) (q : ∀ od, t σ (upd H d (.frz od (.dK kvs))) fun v H' => H' d = some (.frz od (.dK kvs)) ∧ Q v (upd H' d (.dK kvs))) : tLockE t σ H Q := ⟨d, _, h, trivial, q⟩
theorem k_dgetIz {a : Addr} {o : Obj} {kvs : List (Key × V)} {i : Int} {v : V} (h : H a = some (.frz o (.dK kvs))) (e : valV kvs (.inl i) = some v) (q : Q v H) : kDGet Q (.ref a) (.int i) H := ⟨a, v, rfl, .inl ⟨kvs, .inl i, .inr ⟨o, h⟩, rfl, e.symm⟩, q⟩
end
/-! ### comprehensions -/
section
variable {X : Cx} {K : PySem.W.Frag} {e : Expr} {ta : TE} {f : Str} {pos : Pos}
theorem pe_fldK (K : PySem.W.Frag) (hK : X.K = K) (ha : PE X e ta) (hb : attributeBase e f X.env (eval e X.env) = eval e X.env) : PE X (.Attribute e f pos) (tFld K ta f) := by subst hK; exact pe_fld ha hb
theorem ixL (K : PySem.W.Frag) (hK : X.K = K) : IxR X (rIxL K) := by subst hK; exact ix_list
theorem ixT (K : PySem.W.Frag) (hK : X.K = K) : IxR X (rIxT K) := by subst hK; exact ix_tup
theorem slL (K : PySem.W.Frag) (hK : X.K = K) : SlR X (rSlL K) := by subst hK; exact sl_list
theorem isiK (K : PySem.W.Frag) (hK : X.K = K) : CallR X (.builtin "isinstance") (rIsi K) := by subst hK; exact call_isi
end
section
variable {K : PySem.W.Frag} {σ : L2.St} {H : Hp} {Q : VK} {x : V} {g : TG} {tt : TT} {te tk tv t0 : TE} {tl : TA} {vs : List Nat}
def kLW (J : It) (g : TG) (tt : TT) (te : TE) (vs : List Nat) (σ : L2.St) (Q : VK) (D : Addr) (H1 : Hp) : Prop := ∃ W : Nat → Nat → Hp → Prop, (∃ m, W 0 m (upd H1 D (.lst []))) ∧ ∀ i m H, W i m H →
  (J.stop i H ∧ Q (.ref D) H) ∨ (J.go i H ∧ ∃ Nx : Hp → Prop, (∀ H', Nx H' → ∃ m', m' < m ∧ W (i + 1) m' H') ∧ ∀ x H', J.yld i H x H' → g x (wipe σ vs) H' fun σ2 H2 => wipe σ2 vs = wipe σ vs ∧ tt σ2 H2 fun b H3 =>
    if b = true then te σ2 H3 fun y H4 => ∃ acc, H4 D = some (.lst acc) ∧ acc.length < sizeLine ∧ Nx (upd H4 D (.lst (acc ++ [y]))) else Nx H3)
def kLc (K : PySem.W.Frag) (g : TG) (tt : TT) (te : TE) (vs : List Nat) (σ : L2.St) (Q : VK) (x : V) (H : Hp) : Prop := ∃ a, x = .ref a ∧ (∃ xs, SqL K H a xs) ∧ ∀ D, H D = none → kLW (Itl K a) g tt te vs σ Q D H
def kLcR (g : TG) (tt : TT) (te : TE) (vs : List Nat) (σ : L2.St) (Q : VK) (ys : List V) (H : Hp) : Prop := ∃ j : Int, ys = [.int j] ∧ -(2 ^ 62) ≤ j ∧ j < 2 ^ 62 ∧ ∀ D, H D = none → kLW (Itr 0 j.toNat) g tt te vs σ Q D H
theorem r_lc (h : t0 σ H fun x H1 => kLc K g tt te vs σ Q x H1) : tLc (iList K t0) g tt te vs σ H Q := h
theorem r_lcR (h : tl σ H fun ys H1 => kLcR g tt te vs σ Q ys H1) : tLc (iRng1 tl) g tt te vs σ H Q := h
theorem k_lc {a : Addr} {xs : List V} (h : SqL K H a xs) (q : ∀ D, H D = none → kLW (Itl K a) g tt te vs σ Q D H) : kLc K g tt te vs σ Q (.ref a) H := ⟨a, rfl, ⟨xs, h⟩, q⟩
theorem k_lcR {n : Nat} (hn : n < 1000000) (q : ∀ D, H D = none → kLW (Itr 0 n) g tt te vs σ Q D H) : kLcR g tt te vs σ Q [.int (n : Int)] H := ⟨n, rfl, by omega, by omega, q⟩
def kDW (J : It) (g : TG) (tt : TT) (tk tv : TE) (vs : List Nat) (σ : L2.St) (Q : VK) (D : Addr) (H1 : Hp) : Prop := ∃ W : Nat → Nat → Hp → Prop, (∃ m, W 0 m (upd H1 D (.dK []))) ∧ ∀ i m H, W i m H →
  (J.stop i H ∧ Q (.ref D) H) ∨ (J.go i H ∧ ∃ Nx : Hp → Prop, (∀ H', Nx H' → ∃ m', m' < m ∧ W (i + 1) m' H') ∧ ∀ x H', J.yld i H x H' → g x (wipe σ vs) H' fun σ2 H2 => wipe σ2 vs = wipe σ vs ∧ tt σ2 H2 fun b H3 =>
    if b = true then tk σ2 H3 fun y H4 => tv σ2 H4 fun z H5 => ∃ kvs k, y = kV k ∧ H5 D = some (.dK kvs) ∧ kvs.length < sizeLine ∧ Nx (upd H5 D (.dK (putK kvs k z))) else Nx H3)
def kDc (K : PySem.W.Frag) (g : TG) (tt : TT) (tk tv : TE) (vs : List Nat) (σ : L2.St) (Q : VK) (x : V) (H : Hp) : Prop := ∃ a, x = .ref a ∧ (∃ xs, SqL K H a xs) ∧ ∀ D, H D = none → kDW (Itl K a) g tt tk tv vs σ Q D H
theorem r_dc (h : t0 σ H fun x H1 => kDc K g tt tk tv vs σ Q x H1) : tDc (iList K t0) g tt tk tv vs σ H Q := h
theorem k_dc {a : Addr} {xs : List V} (h : SqL K H a xs) (q : ∀ D, H D = none → kDW (Itl K a) g tt tk tv vs σ Q D H) : kDc K g tt tk tv vs σ Q (.ref a) H := ⟨a, rfl, ⟨xs, h⟩, q⟩
theorem dc_list {a : Addr} {xs : List V} {D : Addr} (Pv : Nat → Hp → Prop) (h0 : Pv 0 (upd H D (.dK []))) (hl : ∀ i H, i ≤ xs.length → Pv i H → SqL K H a xs)
    (hs : ∀ i x H, xs[i]? = some x → Pv i H → g x (wipe σ vs) H fun σ2 H2 => wipe σ2 vs = wipe σ vs ∧ tt σ2 H2 fun b H3 =>
      if b = true then tk σ2 H3 fun y H4 => tv σ2 H4 fun z H5 => ∃ kvs k, y = kV k ∧ H5 D = some (.dK kvs) ∧ kvs.length < sizeLine ∧ Pv (i + 1) (upd H5 D (.dK (putK kvs k z))) else Pv (i + 1) H3) (hd : ∀ H, Pv xs.length H → Q (.ref D) H) :
    kDW (Itl K a) g tt tk tv vs σ Q D H := by
  refine ⟨fun i m H => m = xs.length - i ∧ i ≤ xs.length ∧ Pv i H, ⟨xs.length, by simp, Nat.zero_le _, h0⟩, ?_⟩
  rintro i m H ⟨rfl, hi, p⟩
  have q := hl i H hi p
  by_cases hlt : i < xs.length
  · refine .inr ⟨⟨xs, xs[i], q, by simp [hlt]⟩, Pv (i + 1), fun H' p' => ⟨xs.length - (i + 1), by omega, rfl, hlt, p'⟩, fun x H' y => ?_⟩
    obtain ⟨e, y⟩ := y
    subst e
    exact hs i x _ (y xs q) p
  · have e : i = xs.length := by omega
    subst e
    exact .inl ⟨⟨xs, q, Nat.le_refl _⟩, hd H p⟩
theorem r_yes {QB : Bool → Hp → Prop} (h : QB true H) : tYes σ H QB := h
theorem r_dnew (h : ∀ p, H p = none → Q (.ref p) (upd H p (.dK []))) : tDNewK σ H Q := h
def kGet2 (Q : VK) (tk tv : TE) (σ : L2.St) (x : V) (H : Hp) : Prop := ∃ a, x = .ref a ∧ IsD H a ∧ tk σ H fun y H2 => tv σ H2 fun z H3 => ∃ o, DGet H3 a y o ∧ Q (o.getD z) H3
def kGet3 (Q : VK) (a : Addr) (y z : V) (H : Hp) : Prop := ∃ o, DGet H a y o ∧ Q (o.getD z) H
theorem r_get2 (h : t0 σ H fun x H1 => kGet2 Q tk tv σ x H1) : tDGet2 t0 tk tv σ H Q := h
theorem k_get2 {a : Addr} {kvs : List (Key × V)} (h : H a = some (.dK kvs)) (q : tk σ H fun y H2 => tv σ H2 fun z H3 => kGet3 Q a y z H3) : kGet2 Q tk tv σ (.ref a) H := ⟨a, rfl, .inl ⟨kvs, .inl h⟩, q⟩
theorem k_get3I {a : Addr} {kvs : List (Key × V)} {i : Int} {z : V} {o : Option V} (h : H a = some (.dK kvs)) (e : valV kvs (.inl i) = o) (q : Q (o.getD z) H) : kGet3 Q a (.int i) z H := ⟨o, by rw [← e]; exact DGet.k (k := Sum.inl i) h, q⟩
theorem k_gtup {a : Addr} {xs : List V} {n : Nat} {t : TGs} {QS : L2.St → Hp → Prop} (h : SqT K H a xs) (l : xs.length = n) (q : t xs σ H QS) : gTup K n t (.ref a) σ H QS := ⟨a, xs, rfl, h, l, q⟩
theorem r_gcons {t : TG} {u : TGs} {v : V} {r : List V} {QS : L2.St → Hp → Prop} (q : t v σ H fun σ' H' => u r σ' H' QS) : gCons t u (v :: r) σ H QS := ⟨v, r, rfl, q⟩
theorem r_gnil {QS : L2.St → Hp → Prop} (q : QS σ H) : gNil [] σ H QS := ⟨rfl, q⟩
def kAug (K : PySem.W.Frag) (tv : TE) (rd : V → V → Hp → VK → Prop) (f : Str) (D : Ends) (σ : L2.St) (x : V) (H : Hp) : Prop := ∃ a C dx fs v, x = .ref a ∧ H a = some (.ins C dx fs) ∧ Cls K C ∧ NoAttr K C f ∧ fs.lookup f = some v ∧
  tv σ H fun y H2 => rd v y H2 fun z H3 => ∃ dx' fs', H3 a = some (.ins C dx' fs') ∧ fs'.length < 1000 ∧ D.nx σ (upd H3 a (.ins C dx' (putF f z fs')))
theorem r_fldaug {f : Str} {rd : V → V → Hp → VK → Prop} {D : Ends} (h : t0 σ H fun x H1 => kAug K tv rd f D σ x H1) : sFldAug K t0 tv rd f D σ H := h
theorem k_fldaug {f : Str} {rd : V → V → Hp → VK → Prop} {D : Ends} {a C dx : Addr} {fs : List (Str × V)} {v : V} (h : H a = some (.ins C dx fs)) (c : Cls K C) (n : NoAttr K C f) (l : fs.lookup f = some v)
    (q : tv σ H fun y H2 => rd v y H2 fun z H3 => ∃ dx' fs', H3 a = some (.ins C dx' fs') ∧ fs'.length < 1000 ∧ D.nx σ (upd H3 a (.ins C dx' (putF f z fs')))) : kAug K tv rd f D σ (.ref a) H := ⟨a, C, dx, fs, v, rfl, h, c, n, l, q⟩
theorem r_add {i j : Int} (q : Q (.int (i + j)) H) : rAdd (.int i) (.int j) H Q := ⟨i, j, rfl, rfl, q⟩
end
theorem iteD {p A B : Prop} [Decidable p] (h1 : p → A) (h2 : ¬ p → B) : if decide p = true then A else B := by
  by_cases h : p
  · rw [if_pos (decide_eq_true h)]; exact h1 h
  · rw [if_neg (by simpa using h)]; exact h2 h
theorem iteN {p A B : Prop} [Decidable p] (h1 : ¬ p → A) (h2 : p → B) : if (!decide p) = true then A else B := by
  by_cases h : p
  · rw [if_neg (by simpa using h)]; exact h2 h
  · rw [if_pos (by simpa using h)]; exact h1 h
theorem iteB {b : Bool} {A B : Prop} (h1 : b = true → A) (h2 : b = false → B) : if b = true then A else B := by
  cases b with
  | true => rw [if_pos rfl]; exact h1 rfl
  | false => rw [if_neg Bool.false_ne_true]; exact h2 rfl
theorem mul_l {i j : Int} (h1 : -(2 ^ 64) < i) (h2 : i < 2 ^ 64) : CMul i j := .inl ⟨h1, h2⟩
theorem mul_r {i j : Int} (h1 : -(2 ^ 64) < j) (h2 : j < 2 ^ 64) : CMul i j := .inr ⟨h1, h2⟩
end L2.KB
end P_KB
section P_K44d
namespace L2.K44
open PySem PySem.Spec PyProof.Rows L2.KB
def topS (i : Nat) : Stmt := PySem.Challenge.pw_solvedpapers_k44_ways_by_turns.main.body.getD i (.Pass ⟨0, 0, 0, 0⟩)
/-! ### the object's attributes, the house's pairs -/
def wf (ah al : Addr) (n : Int) : List (Str × V) := [("_heights", .ref ah), ("_limits", .ref al), ("_settled", .int n)]
theorem wf_h {ah al : Addr} {n : Int} : (wf ah al n).lookup ("_heights" : Str) = some (.ref ah) := rfl
theorem wf_l {ah al : Addr} {n : Int} : (wf ah al n).lookup ("_limits" : Str) = some (.ref al) := rfl
theorem wf_s {ah al : Addr} {n : Int} : (wf ah al n).lookup ("_settled" : Str) = some (.int n) := rfl
theorem wf_put {ah al : Addr} {n m : Int} : putF ("_settled" : Str) (.int m) (wf ah al n) = wf ah al m := rfl
theorem wf_len {ah al : Addr} {n : Int} : (wf ah al n).length < 1000 := by show 3 < 1000; decide
def hkv (pl hd w st se : Addr) (calm : Bool) (start step : Int) : List (Key × V) := [(.inr "places", .ref pl), (.inr "heights", .ref hd), (.inr "ways", .ref w), (.inr "stand", .ref st), (.inr "seen", .ref se), (.inr "calm", .bl calm), (.inr "start", .int start), (.inr "step", .int step)]
section
variable {pl hd w st se : Addr} {calm : Bool} {start step : Int}
theorem hk_places : valV (hkv pl hd w st se calm start step) (.inr ("places" : Str)) = some (.ref pl) := rfl
theorem hk_heights : valV (hkv pl hd w st se calm start step) (.inr ("heights" : Str)) = some (.ref hd) := rfl
theorem hk_ways : valV (hkv pl hd w st se calm start step) (.inr ("ways" : Str)) = some (.ref w) := rfl
theorem hk_stand : valV (hkv pl hd w st se calm start step) (.inr ("stand" : Str)) = some (.ref st) := rfl
theorem hk_seen : valV (hkv pl hd w st se calm start step) (.inr ("seen" : Str)) = some (.ref se) := rfl
theorem hk_calm : valV (hkv pl hd w st se calm start step) (.inr ("calm" : Str)) = some (.bl calm) := rfl
theorem hk_start : valV (hkv pl hd w st se calm start step) (.inr ("start" : Str)) = some (.int start) := rfl
theorem hk_step : valV (hkv pl hd w st se calm start step) (.inr ("step" : Str)) = some (.int step) := rfl
theorem hk_pcalm {c : Bool} : putK (hkv pl hd w st se calm start step) (.inr ("calm" : Str)) (.bl c) = hkv pl hd w st se c start step := rfl
theorem hk_pstand {s : Addr} : putK (hkv pl hd w st se calm start step) (.inr ("stand" : Str)) (.ref s) = hkv pl hd w s se calm start step := rfl
theorem hk_len : (hkv pl hd w st se calm start step).length < sizeLine := by show 8 < sizeLine; decide
end
end L2.K44
end P_K44d
open L2 L2.KB in
local macro_rules | `(tactic| walk_at "hp") => `(tactic| first | assumption | exact upd_same | (apply upd_new; assumption; walk_at "hp") | (apply upd_old; walk_at "ne"; walk_at "hp"))
open L2 L2.KB in
local macro_rules | `(tactic| walk_at "ne") => `(tactic| first | assumption | exact Ne.symm (by assumption) | (apply ne_of_none (h' := by assumption); walk_at "hp") | (apply Ne.symm; apply ne_of_none (h' := by assumption); walk_at "hp") | exact ne_of (by assumption) (by assumption) (by intro z; cases z))
open L2 L2.KB in
local macro_rules | `(tactic| walk_at "ci") => `(tactic| first | exact mul_l (by decide) (by decide) | exact mul_r (by decide) (by decide) | exact mul_l (by omega) (by omega) | exact mul_r (by omega) (by omega) | exact ⟨by decide, by decide, by decide⟩ | exact ⟨by decide, by decide⟩ | (show (0 : Int) < _; first | decide | omega | assumption) | exact trivial)
open L2 L2.KB in
local macro_rules | `(tactic| walk_at "sq") => `(tactic| first | assumption | (apply SqL.of; walk_at "hp") | (apply SqT.of; walk_at "hp"))
open L2 L2.KB in
local macro_rules | `(tactic| walk_at "at") => `(tactic| first | rfl | assumption | (apply atI_nat; first | assumption | rfl))
open L2 L2.KB in
local macro_rules | `(tactic| walk_at "lz") => `(tactic| first | exact len0 | exact len1 | exact len2 | exact len3 | exact len4 | assumption)
open L2 L2.KB in
local macro_rules | `(tactic| walk_at "rd1") => `(tactic| with_reducible first
  | refine r_seq ?_ | refine r_asg ?_ | refine r_op ?_ | refine r_c ?_ | refine r_name ?_ | refine r_I0 ?_ | refine r_U ?_ | refine r_un ?_ | refine r_next ?_ | refine r_ret ?_ | refine r_drop ?_ | refine r_if ?_ | refine r_cons ?_ | refine r_nil ?_
  | refine r_cb ?_ | refine r_call ?_ | refine r_fld ?_ | refine r_sfld ?_ | refine r_test ?_ | refine r_tb ?_ | refine k_bl ?_ | refine r_notV ?_ | refine r_andV ?_ | refine r_orV ?_ | refine r_ifE ?_ | refine r_tand ?_ | refine r_tor ?_ | refine r_tnot ?_
  | refine r_tup ?_ | refine r_lst ?_ | refine r_dget ?_ | refine r_dput ?_ | refine r_din ?_ | refine r_dnotin ?_ | refine r_meth ?_ | refine r_app ?_ | refine r_slice ?_ | refine r_part ?_ | refine k_part ?_ | refine r_nopart ?_ | refine r_rng1 ?_ | refine k_int1 ?_
  | refine r_eqI ?_ | refine r_neI ?_ | refine r_isN ?_ | refine r_notN ?_ | refine k_ints2 ?_ | refine r_del ?_ | refine r_setd ?_ | refine r_forL ?_ | refine r_forT ?_ | refine r_forR ?_ | refine r_lc ?_ | refine r_lcR ?_ | refine r_dc ?_ | refine r_yes ?_ | refine r_get2 ?_ | refine r_gcons ?_ | refine r_gnil ?_ | refine r_fldaug ?_ | refine r_add ?_ | refine r_forK ?_ | refine r_gsub ?_ | refine r_pcons ?_ | refine r_pnil ?_ | refine r_make ?_)
open L2 L2.KB in
local macro_rules | `(tactic| walk_at "rd") => `(tactic| first
  | walk_at "rd1"
  | ((with_reducible apply r_var); (rfl))
  | ((with_reducible apply r_I); (walk_at "ci"))
  | ((with_reducible apply k_fld); (walk_at "hp"); (assumption); (assumption); (rfl))
  | ((with_reducible apply k_sfld); (walk_at "hp"); (assumption); (assumption); (exact Nat.le_of_ble_eq_true rfl); (rfl))
  | ((with_reducible apply r_ixL); (walk_at "sq"); (walk_at "at"))
  | ((with_reducible apply r_ixT); (walk_at "sq"); (walk_at "at"))
  | ((with_reducible apply k_new); (walk_at "lz"))
  | ((with_reducible apply k_dgetS); (walk_at "hp"); (first | exact L2.K44.hk_places | exact L2.K44.hk_heights | exact L2.K44.hk_ways | exact L2.K44.hk_stand | exact L2.K44.hk_seen | exact L2.K44.hk_calm | exact L2.K44.hk_start | exact L2.K44.hk_step | rfl))
  | ((with_reducible apply k_dputS); (walk_at "hp"); (first | assumption | exact L2.K44.hk_len | exact small1000 (Nat.le_of_ble_eq_true rfl)); (first | exact L2.K44.hk_pcalm | exact L2.K44.hk_pstand | rfl))
  | ((with_reducible apply k_meth); (walk_at "hp"); (rfl))
  | ((with_reducible apply k_app); (walk_at "hp"))
  | ((with_reducible apply k_slL); (walk_at "sq"))
  | ((with_reducible apply k_lenL); (walk_at "sq"))
  | ((with_reducible apply k_lenD); (walk_at "hp"))
  | ((with_reducible apply k_del); (walk_at "hp"))
  | ((with_reducible apply k_setd); (walk_at "hp"))
  | ((with_reducible apply k_get2); (walk_at "hp"))
  | ((with_reducible apply k_setL); (walk_at "hp"); (rfl); (rfl))
  | ((with_reducible apply k_gtup); (walk_at "sq"); (rfl))
  | ((with_reducible apply k_fldaug); (walk_at "hp"); (assumption); (assumption); (rfl)))
section P_K44e
namespace L2.K44
open PySem PySem.Spec PyProof.Rows L2.KB
def limT (l : Lim) : HO := .tup [.int l.x, .int l.y, .int l.k, .int l.lab]
def Tups (H : Hp) (tr : List Addr) (ls : List Lim) : Prop := tr.length = ls.length ∧ ∀ (i : Nat) (r : Addr) (l : Lim), tr[i]? = some r → ls[i]? = some l → H r = some (limT l)
def Keep (ex : List Addr) (H H' : Hp) : Prop := ∀ c o, H c = some o → c ∉ ex → H' c = some o
theorem Keep.refl (ex : List Addr) (H : Hp) : Keep ex H H := fun _ _ e _ => e
theorem Keep.trans {ex : List Addr} {H H1 H2 : Hp} (a : Keep ex H H1) (b : Keep ex H1 H2) : Keep ex H H2 := fun c o e n => b c o (a c o e n) n
theorem Keep.mono {ex ey : List Addr} {H H' : Hp} (k : Keep ex H H') (h : ∀ c ∈ ex, c ∈ ey) : Keep ey H H' := fun c o e n => k c o e fun m => n (h c m)
theorem Keep.new {ex : List Addr} {H H' : Hp} {p : Addr} {o : HO} (k : Keep ex H H') (np : H' p = none) : Keep ex H (upd H' p o) := fun c u e n => upd_new np (k c u e n)
theorem Keep.upd {ex : List Addr} {H H' : Hp} {p : Addr} {o : HO} (k : Keep ex H H') (m : p ∈ ex) : Keep ex H (upd H' p o) := fun c u e n => upd_old (fun z => n (z ▸ m)) (k c u e n)
/-- a fresh one of ours may change -/
theorem Keep.mine {ex : List Addr} {H H' : Hp} {p : Addr} {o : HO} (k : Keep ex H H') (np : H p = none) : Keep ex H (L2.upd H' p o) := fun c u e n => upd_old (ne_of_none e np) (k c u e n)
theorem Keep.back {ex : List Addr} {H H' : Hp} {p : Addr} (k : Keep ex H H') (hx : ∀ c ∈ ex, ∃ o, H' c = some o) (np : H' p = none) : H p = none := by
  cases e : H p with
  | none => rfl
  | some o =>
    by_cases m : p ∈ ex
    · obtain ⟨u, q⟩ := hx p m
      rw [np] at q; cases q
    · rw [k p o e m] at np; cases np
theorem limT_ne_lst {l : Lim} {xs : List V} : limT l ≠ .lst xs := fun z => by cases z
theorem Tups.keep {ex : List Addr} {H H' : Hp} {tr : List Addr} {ls : List Lim} (t : Tups H tr ls) (k : Keep ex H H') (hx : ∀ c ∈ ex, ∀ o, H c = some o → ∀ l, o ≠ limT l) : Tups H' tr ls :=
  ⟨t.1, fun i r l a b => k r _ (t.2 i r l a b) fun m => hx r m _ (t.2 i r l a b) l rfl⟩
theorem Tups.take {H : Hp} {tr : List Addr} {ls : List Lim} (t : Tups H tr ls) (c : Nat) : Tups H (tr.take c) (ls.take c) := by
  refine ⟨by rw [List.length_take, List.length_take, t.1], fun i r l a b => ?_⟩
  rw [List.getElem?_take] at a b
  split at a
  · rename_i h
    rw [if_pos h] at b
    exact t.2 i r l a b
  · cases a
theorem Tups.snoc {H : Hp} {tr : List Addr} {ls : List Lim} {r : Addr} {l : Lim} (t : Tups H tr ls) (h : H r = some (limT l)) : Tups H (tr ++ [r]) (ls ++ [l]) := by
  refine ⟨by rw [List.length_append, List.length_append, t.1]; rfl, fun i q m a b => ?_⟩
  by_cases hi : i < tr.length
  · rw [List.getElem?_append_left hi] at a
    rw [List.getElem?_append_left (by rw [← t.1]; exact hi)] at b
    exact t.2 i q m a b
  · rw [List.getElem?_append_right (by omega)] at a
    rw [List.getElem?_append_right (by rw [← t.1]; omega), ← t.1] at b
    cases e : i - tr.length with
    | zero =>
      rw [e] at a b
      cases a; cases b; exact h
    | succ j => rw [e] at a; simp at a
/-! ### the object -/
structure WGood (ks : List Int) (h : Int → Int) (ls : List Lim) (n : Nat) : Prop where
  nd : ks.Nodup
  z : 0 ∈ ks
  out : ∀ p, p ∉ ks → h p = 0
  inn : ∀ l ∈ ls, l.x ∈ ks ∧ l.y ∈ ks
  le : n ≤ ls.length
  ok : ∀ l ∈ ls.take n, Holds h l
  lz : ls.length ≤ 1000
  kz : ks.length ≤ 1000
def hkvs (ks : List Int) (h : Int → Int) : List (Key × V) := ks.map fun p => (Sum.inl p, V.int (h p))
structure WaysAt (C : Addr) (H : Hp) (w dx ah al : Addr) (tr : List Addr) (ks : List Int) (h : Int → Int) (ls : List Lim) (n : Nat) : Prop where
  hw : H w = some (.ins C dx (wf ah al n))
  hh : H ah = some (.dK (hkvs ks h))
  hl : H al = some (.lst (tr.map V.ref))
  ht : Tups H tr ls
  good : WGood ks h ls n
/-- a key more -/
def addK (ks : List Int) (p : Int) : List Int := if p ∈ ks then ks else ks ++ [p]
theorem mem_addK {ks : List Int} {p q : Int} : q ∈ addK ks p ↔ q ∈ ks ∨ q = p := by
  unfold addK
  split
  · constructor
    · exact .inl
    · rintro (h | rfl)
      · exact h
      · assumption
  · rw [List.mem_append, List.mem_singleton]
theorem nd_addK {ks : List Int} {p : Int} (h : ks.Nodup) : (addK ks p).Nodup := by
  unfold addK
  split
  · exact h
  · rename_i n
    exact List.nodup_append.mpr ⟨h, by simp, by rintro a ha b hb rfl; rw [List.mem_singleton] at hb; subst hb; exact n ha⟩
theorem len_addK {ks : List Int} {p : Int} : (addK ks p).length ≤ ks.length + 1 := by
  unfold addK
  split
  · omega
  · rw [List.length_append]; simp
theorem valV_map {f : Int → V} : ∀ {ks : List Int} {p : Int}, valV (ks.map fun q => ((Sum.inl q : Key), f q)) (.inl p) = if p ∈ ks then some (f p) else none
  | [], p => by simp [valV]
  | q :: ks, p => by
    rw [List.map_cons]
    by_cases e : q = p
    · subst e
      rw [valV_pos rfl, if_pos List.mem_cons_self]
    · rw [valV_neg (fun z => e (Sum.inl.inj z)), valV_map]
      by_cases m : p ∈ ks
      · rw [if_pos m, if_pos (List.mem_cons_of_mem _ m)]
      · rw [if_neg m, if_neg (fun z => (List.mem_cons.mp z).elim (fun y => e y.symm) m)]
theorem valV_h {ks : List Int} {h : Int → Int} {p : Int} (m : p ∈ ks) : valV (hkvs ks h) (.inl p) = some (.int (h p)) := by
  unfold hkvs; rw [valV_map, if_pos m]
theorem putK_map {f g : Int → V} {ks : List Int} {p : Int} (m : p ∈ ks) (hp : ∀ q, q ≠ p → f q = g q) : putK (ks.map fun q => ((Sum.inl q : Key), f q)) (.inl p) (g p) = ks.map fun q => ((Sum.inl q : Key), g q) := by
  unfold putK
  have e : ((ks.map fun q => ((Sum.inl q : Key), f q)).any fun kv => decide (kv.1 = .inl p)) = true := by
    rw [List.any_eq_true]
    exact ⟨_, List.mem_map.mpr ⟨p, m, rfl⟩, decide_eq_true rfl⟩
  rw [if_pos e, List.map_map]
  apply List.map_congr_left
  intro q _
  show (if (Sum.inl q : Key) = .inl p then ((Sum.inl q : Key), g p) else (Sum.inl q, f q)) = (Sum.inl q, g q)
  by_cases c : q = p
  · subst c; rw [if_pos rfl]
  · rw [if_neg (fun z => c (Sum.inl.inj z)), hp q c]
theorem putK_map_new {f g : Int → V} {ks : List Int} {p : Int} (m : p ∉ ks) (hp : ∀ q, q ≠ p → f q = g q) : putK (ks.map fun q => ((Sum.inl q : Key), f q)) (.inl p) (g p) = (ks ++ [p]).map fun q => ((Sum.inl q : Key), g q) := by
  unfold putK
  have e : ¬ ((ks.map fun q => ((Sum.inl q : Key), f q)).any fun kv => decide (kv.1 = .inl p)) = true := by
    rw [List.any_eq_true]
    rintro ⟨x, hx, hd⟩
    obtain ⟨q, hq, rfl⟩ := List.mem_map.mp hx
    have := of_decide_eq_true hd
    exact m (Sum.inl.inj this ▸ hq)
  rw [if_neg e, List.map_append]
  congr 1
  apply List.map_congr_left
  intro q hq
  rw [hp q fun c => m (c ▸ hq)]
/-! ### promises -/
def spInit (C : Addr) : Sp := fun vs H Q _ => ∃ (p dx : Addr), vs = [.ref p] ∧ H p = some (.ins C dx []) ∧ ∀ (ah al : Addr) (H' : Hp), H ah = none → H al = none → ah ≠ al → WaysAt C H' p dx ah al [] [0] (fun _ => 0) [] 0 → Keep [p] H H' → Q .non H'
def spLimit (C : Addr) : Sp := fun vs H Q _ => ∃ (w dx ah al : Addr) (tr : List Addr) (ks : List Int) (h : Int → Int) (ls : List Lim) (n : Nat) (x y k lab : Int), vs = [.ref w, .int x, .int y, .int k, .int lab] ∧
  WaysAt C H w dx ah al tr ks h ls n ∧ ls.length < 1000 ∧ ks.length < 998 ∧ ∀ (r : Addr) (H' : Hp), H r = none → WaysAt C H' w dx ah al (tr ++ [r]) (addK (addK ks x) y) h (ls ++ [⟨x, y, k, lab⟩]) n → Keep [ah, al] H H' → Q .non H'
def spLimits (C : Addr) : Sp := fun vs H Q _ => ∃ (w dx ah al : Addr) (tr : List Addr) (ks : List Int) (h : Int → Int) (ls : List Lim) (n : Nat), vs = [.ref w] ∧ WaysAt C H w dx ah al tr ks h ls n ∧ Q (.int (ls.length : Int)) H
def spBack (C : Addr) : Sp := fun vs H Q _ => ∃ (w dx ah al : Addr) (tr : List Addr) (ks : List Int) (h : Int → Int) (ls : List Lim) (n c : Nat), vs = [.ref w, .int (c : Int)] ∧ WaysAt C H w dx ah al tr ks h ls n ∧
  ∀ H' : Hp, WaysAt C H' w dx ah al (tr.take c) ks h (ls.take c) (min n (ls.take c).length) → Keep [w, al] H H' → Q .non H'
structure Txt (K : PySem.W.Frag) (mg : Str → Option Value) (C : Addr) : Prop where
  cl : Cls K C
  nH : NoAttr K C "_heights"
  nL : NoAttr K C "_limits"
  nS : NoAttr K C "_settled"
  mgC : mg "Ways" = some (.ref C)
  b_len : mg "len" = none
  b_min : mg "min" = none
  b_max : mg "max" = none
  b_list : mg "list" = none
  b_int : mg "int" = none
  b_bool : mg "bool" = none
  b_dict : mg "dict" = none
  b_range : mg "range" = none
  b_sorted : mg "sorted" = none
  b_isinstance : mg "isinstance" = none
  m_heappop : mg "heappop" = some (.builtin "_heapq.heappop")
  m_heappush : mg "heappush" = some (.builtin "_heapq.heappush")
section
variable {P : Program} {wd : World} {K : PySem.W.Frag} {mg : Str → Option Value} {base : Heap}
abbrev st_Ways___init__ : Stmt := inClass (topS 2) 0
abbrev N_Ways___init__ : List Str := ["self"]
theorem sc_Ways___init__ : FnScope N_Ways___init__ ["self"] (defScope st_Ways___init__) := ⟨rfl, rfl, rfl, by decide +kernel, rfl, by decide +kernel, by decide +kernel⟩

theorem ok_init {f C : Addr} {fd : FuncData} (F : Fun K "__init__" "Ways.__init__" st_Ways___init__ f fd) (T : Txt K mg C) : FnOk P wd K mg base CX0 1 f fd ["self"] (spInit C) := by
  refine F.ok sc_Ways___init__ (fun vs H Q E h => ?_) (fun cdv A outer s H vs Q E hr h => ?_)
  · obtain ⟨p, dx, rfl, _⟩ := h
    rfl
  · obtain ⟨p, dx, rfl, hp, k⟩ := h
    have hu := hu_of hr
    have nd := sc_Ways___init__.nd
    obtain ⟨cl, nH, nL, nS, _⟩ := id T
    refine ⟨_, (pss_cons (ps_fld (pv 0) (pe_disp (pps_cons pe_int pe_int pps_nil) rfl rfl (List.cons_ne_nil _ _) (Nat.le_of_ble_eq_true rfl)) rfl)
  (pss_cons (ps_fld (pv 0) (pe_lst pa_nil) rfl)
  (pss_one (ps_fld (pv 0) pe_int rfl)))), ?_⟩
    repeat (walk_at "rd")
    intro ah nah
    refine ⟨upd_same, [(Sum.inl 0, .int 0)], rfl, by show 1 ≤ 15; decide, ?_⟩
    rw [upd_upd]
    have pah : p ≠ ah := ne_of_none hp nah
    repeat (walk_at "rd")
    intro al nal
    have nal' : H al = none := by
      by_cases e : al = p
      · subst e; rw [upd_same] at nal; cases nal
      · rw [upd_ne e] at nal
        by_cases e2 : al = ah
        · subst e2; rw [upd_same] at nal; cases nal
        · rw [upd_ne e2] at nal; exact nal
    have pal : p ≠ al := ne_of_none hp nal'
    have aal : ah ≠ al := by
      rintro rfl
      rw [upd_ne pah.symm, upd_same] at nal; cases nal
    repeat (walk_at "rd")
    refine k ah al _ nah nal' aal ⟨?_, ?_, ?_, ⟨rfl, fun i r l a => by simp at a⟩, ⟨by simp, by simp, fun _ _ => rfl, fun l hl => by simp at hl, Nat.zero_le _, fun l hl => by simp at hl, by simp, by simp⟩⟩ ?_
    · exact upd_same
    · walk_at "hp"
    · walk_at "hp"
    · intro c o e n
      have cp : c ≠ p := by simpa using n
      exact upd_old cp (upd_old cp (upd_new nal (upd_old cp (upd_new nah e))))
abbrev st_Ways_limit : Stmt := inClass (topS 2) 1
abbrev N_Ways_limit : List Str := ["self", "x", "y", "k", "label", "place"]
theorem sc_Ways_limit : FnScope N_Ways_limit ["self", "x", "y", "k", "label"] (defScope st_Ways_limit) := ⟨rfl, rfl, rfl, by decide +kernel, rfl, by decide +kernel, by decide +kernel⟩

theorem ok_limit {f C : Addr} {fd : FuncData} (F : Fun K "limit" "Ways.limit" st_Ways_limit f fd) (T : Txt K mg C) : FnOk P wd K mg base CX0 1 f fd ["self", "x", "y", "k", "label"] (spLimit C) := by
  refine F.ok sc_Ways_limit (fun vs H Q E h => ?_) (fun cdv A outer s H vs Q E hr h => ?_)
  · obtain ⟨w, dx, ah, al, tr, ks, h, ls, n, x, y, k, lab, rfl, _⟩ := h
    rfl
  · obtain ⟨w, dx, ah, al, tr, ks, h, ls, n, x, y, kk, lab, rfl, W, lz, kz, k⟩ := h
    have hu := hu_of hr
    have nd := sc_Ways_limit.nd
    obtain ⟨cl, nH, nL, nS, _⟩ := id T
    obtain ⟨hw, hh, hl, ht, g⟩ := id W
    refine ⟨_, (pss_cons (ps_for PassesOwn.never rfl (pi_tup (pe_tup (pa_cons (pv 1) (pa_cons (pv 2) pa_nil)))) (pg_name (i := 5) nd rfl (Or.inl rfl))
    (pss_one (ps_expr (pe_dsetd (pe_fld (pv 0) rfl) (pv 5) pe_int ⟨rfl, rfl, rfl, rfl⟩))))
  (pss_one (ps_expr (pe_bm PySem.F.plainAttrs_list PySem.F.slot_list_append PySem.F.type_list_append mt_append (pe_fld (pv 0) rfl) (pa_cons (pe_tup (pa_cons (pv 1) (pa_cons (pv 2) (pa_cons (pv 3) (pa_cons (pv 4) pa_nil))))) pa_nil))))), ?_⟩
    repeat (walk_at "rd")
    intro tp ntp
    have wah : w ≠ ah := ne_of hw hh (by intro z; cases z)
    have alah : al ≠ ah := ne_of hl hh (by intro z; cases z)
    have tpah : tp ≠ ah := (ne_of_none hh ntp).symm
    refine k_forT (xs := [.int x, .int y]) (SqT.of upd_same) (fun i σ H2 => ∃ vo, σ = [some (.ref w), some (.int x), some (.int y), some (.int kk), some (.int lab), vo] ∧
      H2 ah = some (.dK (hkvs (([x, y].take i).foldl addK ks) h)) ∧ (∀ c o, H c = some o → c ≠ ah → H2 c = some o) ∧ H2 tp = some (.tup [.int x, .int y])) ⟨none, rfl, by walk_at "hp", fun c o e _ => upd_new ntp e, upd_same⟩ (fun i σ H2 _ ⟨_, _, _, _, e⟩ => SqT.of e) ?_ ?_
    · rintro i v σ H2 hi ⟨vo, rfl, e1, e2, e3⟩
      obtain ⟨z, rfl, hz⟩ : ∃ z, v = V.int z ∧ [x, y][i]? = some z := by
        rcases i with _ | _ | i
        · exact ⟨x, by simpa using hi.symm, rfl⟩
        · exact ⟨y, by simpa using hi.symm, rfl⟩
        · simp at hi
      have hst : ([x, y].take (i + 1)).foldl addK ks = addK (([x, y].take i).foldl addK ks) z := by
        rcases i with _ | _ | i
        · cases hz; rfl
        · cases hz; rfl
        · simp at hz
      have hw2 := e2 _ _ hw wah
      repeat (walk_at "rd")
      have kl : (hkvs (([x, y].take i).foldl addK ks) h).length < sizeLine := by
        unfold hkvs
        rw [List.length_map]
        rcases i with _ | _ | i
        · exact small1000 (by show ks.length ≤ 1000; omega)
        · have := len_addK (ks := ks) (p := x)
          exact small1000 (by show (addK ks x).length ≤ 1000; omega)
        · simp at hi
      refine k_setd2 e1 kl (fun v hv => ?_) (fun hn => ?_)
      · refine ⟨_, rfl, ?_, e2, e3⟩
        rw [hst]
        unfold hkvs at hv
        rw [valV_map] at hv
        by_cases m : z ∈ ([x, y].take i).foldl addK ks
        · rw [addK, if_pos m]; exact e1
        · rw [if_neg m] at hv; cases hv
      · refine ⟨_, rfl, ?_, fun c o e ne => upd_old ne (e2 c o e ne), upd_old tpah e3⟩
        rw [hst]
        unfold hkvs at hn ⊢
        rw [valV_map] at hn
        have m : z ∉ ([x, y].take i).foldl addK ks := fun m => by rw [if_pos m] at hn; cases hn
        have hz0 : h z = 0 := g.out z fun q => m (by
          rcases i with _ | _ | i
          · exact q
          · exact mem_addK.mpr (.inl q)
          · simp at hi)
        rw [addK, if_neg m]
        have e := putK_map_new (f := fun q => V.int (h q)) (g := fun q => V.int (h q)) m (fun _ _ => rfl)
        simp only [hz0] at e
        rw [upd_same, e]
    · rintro σ H2 ⟨vo, rfl, e1, e2, e3⟩
      have hw2 := e2 _ _ hw wah
      have hl2 := e2 _ _ hl alah
      repeat (walk_at "rd")
      intro r nr
      have nrH : H r = none := by
        cases e : H r with
        | none => rfl
        | some o =>
          by_cases c : r = ah
          · subst c; rw [e1] at nr; cases nr
          · rw [e2 r o e c] at nr; cases nr
      have lt : (tr.map V.ref).length < sizeLine := by
        rw [List.length_map, ht.1]; exact small1000 (by omega)
      refine k_append (by walk_at "hp") lt ?_
      have kp : Keep [ah, al] H (upd (upd H2 r (.tup [.int x, .int y, .int kk, .int lab])) al (.lst (tr.map V.ref ++ [.ref r]))) := fun c o e n => by
        have n1 : c ≠ ah := fun z => n (by simp [z])
        have n2 : c ≠ al := fun z => n (by simp [z])
        exact upd_old n2 (upd_new nr (e2 c o e n1))
      have ral : r ≠ al := (ne_of_none hl2 nr).symm
      refine k r _ nrH ⟨kp _ _ hw ?_, ?_, ?_, (ht.keep kp ?_).snoc (l := ⟨x, y, kk, lab⟩) (upd_old ral upd_same), ⟨nd_addK (nd_addK g.nd), mem_addK.mpr (.inl (mem_addK.mpr (.inl g.z))), fun p hp => g.out p fun q => hp (mem_addK.mpr (.inl (mem_addK.mpr (.inl q)))),
        fun l hl => ?_, ?_, ?_, ?_, ?_⟩⟩ kp
      · intro m
        rcases List.mem_cons.mp m with m | m
        · exact wah m
        · exact ne_of hw hl (by intro z; cases z) (List.mem_singleton.mp m)
      · exact upd_old alah.symm (upd_new nr e1)
      · rw [List.map_append]; exact upd_same
      · intro c hc o e l z
        subst z
        rcases List.mem_cons.mp hc with rfl | hc
        · rw [hh] at e; cases e
        · rw [List.mem_singleton.mp hc, hl] at e; cases e
      · rw [List.mem_append, List.mem_singleton] at hl
        rcases hl with hl | rfl
        · exact ⟨mem_addK.mpr (.inl (mem_addK.mpr (.inl (g.inn l hl).1))), mem_addK.mpr (.inl (mem_addK.mpr (.inl (g.inn l hl).2)))⟩
        · exact ⟨mem_addK.mpr (.inl (mem_addK.mpr (.inr rfl))), mem_addK.mpr (.inr rfl)⟩
      · rw [List.length_append]; have := g.le; omega
      · rw [List.take_append_of_le_length g.le]; exact g.ok
      · rw [List.length_append, List.length_singleton]; omega
      · have a := len_addK (ks := addK ks x) (p := y)
        have b := len_addK (ks := ks) (p := x)
        omega
abbrev st_Ways_limits : Stmt := inClass (topS 2) 2
abbrev N_Ways_limits : List Str := ["self"]
theorem sc_Ways_limits : FnScope N_Ways_limits ["self"] (defScope st_Ways_limits) := ⟨rfl, rfl, rfl, by decide +kernel, rfl, by decide +kernel, by decide +kernel⟩

theorem ok_limits {f C : Addr} {fd : FuncData} (F : Fun K "limits" "Ways.limits" st_Ways_limits f fd) (T : Txt K mg C) : FnOk P wd K mg base CX0 1 f fd ["self"] (spLimits C) := by
  refine F.ok sc_Ways_limits (fun vs H Q E h => ?_) (fun cdv A outer s H vs Q E hr h => ?_)
  · obtain ⟨w, dx, ah, al, tr, ks, h, ls, n, rfl, _⟩ := h
    rfl
  · obtain ⟨w, dx, ah, al, tr, ks, h, ls, n, rfl, W, k⟩ := h
    have hu := hu_of hr
    have nd := sc_Ways_limits.nd
    obtain ⟨cl, nH, nL, nS, _⟩ := id T
    obtain ⟨hw, hh, hl, ht, g⟩ := id W
    refine ⟨_, (pss_one (ps_ret (pe_callB call_len_seq (by rfl) T.b_len PySem.boot_len (pa_cons (pe_fld (pv 0) rfl) pa_nil)))), ?_⟩
    repeat (walk_at "rd")
    show Q (V.int ((tr.map V.ref).length : Int)) H
    rw [List.length_map, ht.1]
    exact k
abbrev st_Ways_back : Stmt := inClass (topS 2) 3
abbrev N_Ways_back : List Str := ["self", "count"]
theorem sc_Ways_back : FnScope N_Ways_back ["self", "count"] (defScope st_Ways_back) := ⟨rfl, rfl, rfl, by decide +kernel, rfl, by decide +kernel, by decide +kernel⟩

theorem ok_back {f C : Addr} {fd : FuncData} (F : Fun K "back" "Ways.back" st_Ways_back f fd) (T : Txt K mg C) : FnOk P wd K mg base CX0 1 f fd ["self", "count"] (spBack C) := by
  refine F.ok sc_Ways_back (fun vs H Q E h => ?_) (fun cdv A outer s H vs Q E hr h => ?_)
  · obtain ⟨w, dx, ah, al, tr, ks, h, ls, n, c, rfl, _⟩ := h
    rfl
  · obtain ⟨w, dx, ah, al, tr, ks, h, ls, n, c, rfl, W, k⟩ := h
    have hu := hu_of hr
    have nd := sc_Ways_back.nd
    obtain ⟨cl, nH, nL, nS, _⟩ := id T
    obtain ⟨hw, hh, hl, ht, g⟩ := id W
    refine ⟨_, (pss_cons (ps_delTail (pe_fld (pv 0) rfl) (pv 1))
  (pss_one (ps_fld (pv 0) (pe_callB (call_min2 rfl) (by rfl) T.b_min boot_min (pa_cons (pe_fld (pv 0) rfl) (pa_cons (pe_callB call_len_seq (by rfl) T.b_len PySem.boot_len (pa_cons (pe_fld (pv 0) rfl) pa_nil)) pa_nil))) rfl))), ?_⟩
    repeat (walk_at "rd")
    have wal : w ≠ al := ne_of hw hl (by intro z; cases z)
    have wah : w ≠ ah := ne_of hw hh (by intro z; cases z)
    have alah : al ≠ ah := ne_of hl hh (by intro z; cases z)
    have e1 : (if (((tr.map V.ref).take c).length : Int) < (n : Int) then (((tr.map V.ref).take c).length : Int) else (n : Int)) = ((min n (ls.take c).length : Nat) : Int) := by
      rw [List.length_take, List.length_map, ht.1, List.length_take]
      split <;> omega
    show Q .non _
    rw [e1]
    have kp : Keep [w, al] H (upd (upd H al (.lst ((tr.map V.ref).take c))) w (.ins C dx (putF ("_settled" : Str) (.int ((min n (ls.take c).length : Nat) : Int)) (wf ah al n)))) := fun d o e m => by
      have n1 : d ≠ w := fun z => m (by simp [z])
      have n2 : d ≠ al := fun z => m (by simp [z])
      exact upd_old n1 (upd_old n2 e)
    refine k _ ⟨upd_same, kp _ _ hh ?_, ?_, (ht.keep kp ?_).take c, ⟨g.nd, g.z, g.out, fun l hl => g.inn l (List.mem_of_mem_take hl), Nat.min_le_right _ _, fun l hl => g.ok l ?_, ?_, g.kz⟩⟩ kp
    · intro m
      rcases List.mem_cons.mp m with m | m
      · exact wah m.symm
      · exact alah (List.mem_singleton.mp m).symm
    · rw [List.map_take]; exact upd_old wal.symm upd_same
    · intro d hd o e l z
      subst z
      rcases List.mem_cons.mp hd with rfl | hd
      · rw [hw] at e; cases e
      · rw [List.mem_singleton.mp hd, hl] at e; cases e
    · rw [List.take_take] at hl
      exact (List.take_subset_take_left ls (by rw [List.length_take]; omega)) hl
    · rw [List.length_take]; have := g.lz; omega
end
end L2.K44
end P_K44e
section P_K44f
namespace L2.K44
open PySem PySem.Spec PyProof.Rows L2.KB
def spHeights (C : Addr) : Sp := fun vs H Q _ => ∃ (w dx ah al : Addr) (tr : List Addr) (ks : List Int) (h : Int → Int) (ls : List Lim) (n : Nat), vs = [.ref w] ∧ WaysAt C H w dx ah al tr ks h ls n ∧
  ∀ (H' : Hp) (d : Addr) (ss : List Int), ss.Perm ks → ss.Pairwise (· ≤ ·) → H d = none → H' d = some (.dK (hkvs ss fun p => h p - h 0)) → Keep [] H H' → Q (.ref d) H'
/-- the dict of _leading: the numbers below n of the limits that lead out of each place -/
structure LeadAt (H : Hp) (d : Addr) (ls : List Lim) (n : Nat) (kvs : List (Key × V)) (pa : Int → Addr) : Prop where
  at_ : H d = some (.dK kvs)
  len : kvs.length ≤ n
  get : ∀ u, (idx ls n u = [] ∧ valV kvs (.inl u) = none) ∨ (idx ls n u ≠ [] ∧ valV kvs (.inl u) = some (.ref (pa u)) ∧ H (pa u) = some (.lst ((idx ls n u).map fun (i : Nat) => V.int (i : Int))))
  inj : ∀ u v, idx ls n u ≠ [] → idx ls n v ≠ [] → pa u = pa v → u = v
theorem LeadAt.keep {H H' : Hp} {d : Addr} {ls : List Lim} {n : Nat} {kvs : List (Key × V)} {pa : Int → Addr} {ex : List Addr} (L : LeadAt H d ls n kvs pa) (k : Keep ex H H') (hd : d ∉ ex) (hp : ∀ u, idx ls n u ≠ [] → pa u ∉ ex) : LeadAt H' d ls n kvs pa :=
  ⟨k _ _ L.at_ hd, L.len, fun u => (L.get u).imp id fun ⟨a, b, c⟩ => ⟨a, b, k _ _ c (hp u a)⟩, L.inj⟩
def spLeading (C : Addr) : Sp := fun vs H Q _ => ∃ (w dx ah al : Addr) (tr : List Addr) (ks : List Int) (h : Int → Int) (ls : List Lim) (n : Nat), vs = [.ref w] ∧ WaysAt C H w dx ah al tr ks h ls n ∧
  ∀ (H' : Hp) (d : Addr) (kvs : List (Key × V)) (pa : Int → Addr), LeadAt H' d ls n kvs pa → Keep [] H H' → H d = none → (∀ u, idx ls n u ≠ [] → H (pa u) = none) → Q (.ref d) H'
section
variable {P : Program} {wd : World} {K : PySem.W.Frag} {mg : Str → Option Value} {base : Heap}
abbrev st_Ways_heights : Stmt := inClass (topS 2) 4
abbrev N_Ways_heights : List Str := ["self", "base", "place"]
theorem sc_Ways_heights : FnScope N_Ways_heights ["self"] (defScope st_Ways_heights) := ⟨rfl, rfl, rfl, by decide +kernel, rfl, by decide +kernel, by decide +kernel⟩

set_option maxHeartbeats 8000000 in
theorem ok_heights {f C : Addr} {fd : FuncData} (F : Fun K "heights" "Ways.heights" st_Ways_heights f fd) (T : Txt K mg C) : FnOk P wd K mg base CX0 1 f fd ["self"] (spHeights C) := by
  refine F.ok sc_Ways_heights (fun vs H Q E h => ?_) (fun cdv A outer s H vs Q E hr h => ?_)
  · obtain ⟨w, dx, ah, al, tr, ks, h, ls, n, rfl, _⟩ := h
    rfl
  · obtain ⟨w, dx, ah, al, tr, ks, h, ls, n, rfl, W, k⟩ := h
    have hu := hu_of hr
    have nd := sc_Ways_heights.nd
    obtain ⟨cl, nH, nL, nS, _⟩ := id T
    obtain ⟨hw, hh, hl, ht, g⟩ := id W
    refine ⟨_, (pss_cons (ps_set (i := 1) nd rfl (Or.inr rfl) (pe_dget hu (pe_fld (pv 0) rfl) pe_int (fun _ _ => rfl)))
  (pss_one (ps_ret (by refine' pe_dc (own := [("place", 2)]) (tt := tYes) rfl nd (pi_list (pe_callB cr_sortedI (by rfl) T.b_sorted boot_sorted (pa_cons (pe_callTy (call_listD rfl) (by rfl) T.b_list boot_list (pa_cons (pe_fld (pv 0) rfl) pa_nil)) pa_nil))) (blkOk_by (N := N_Ways_heights) (sc := defScope st_Ways_heights) (by decide +kernel)) (fun _ _ _ _ _ => (pg_name (i := 2) nd rfl (Or.inl rfl))) ?ht ?hk ?he; (case ht => exact (fun _ _ _ _ _ => pts_nil)); (case he => exact (fun _ _ _ _ _ => (pe_op op_sub (pe_dget hu (pe_fldK K rfl (pv 0) rfl) (pv 2) (fun _ _ => rfl)) (pv 1)))); (case hk => exact (fun _ _ _ _ _ => (pv 2))))))), ?_⟩
    repeat (walk_at "rd")
    refine k_dgetI hh (valV_h g.z) ?_
    repeat (walk_at "rd")
    refine ⟨ah, _, rfl, .inl hh, fun lp nlp => ?_⟩
    have e1 : (hkvs ks h).map (fun kv => kV kv.1) = ks.map V.int := by
      unfold hkvs; rw [List.map_map]; rfl
    rw [e1]
    repeat (walk_at "rd")
    refine ⟨lp, ks, rfl, SqL.of upd_same, fun ss sp pm pw nsp => ?_⟩
    repeat (walk_at "rd")
    refine k_dc (SqL.of upd_same) fun D nD => ?_
    have nlpH : ∀ p, upd (upd H lp (.lst (ks.map V.int))) sp (.lst (ss.map V.int)) p = none → H p = none := fun p hp => by
      by_cases c : p = sp
      · subst c; rw [upd_same] at hp; cases hp
      · rw [upd_ne c] at hp
        by_cases c2 : p = lp
        · subst c2; rw [upd_same] at hp; cases hp
        · rw [upd_ne c2] at hp; exact hp
    have kp0 : Keep [] H (upd (upd H lp (.lst (ks.map V.int))) sp (.lst (ss.map V.int))) := ((Keep.refl [] H).new nlp).new nsp
    have nDH := nlpH D nD
    have spD : sp ≠ D := by
      rintro rfl
      rw [upd_same] at nD; cases nD
    have ssk : ∀ p ∈ ss, p ∈ ks := fun p hp => pm.mem_iff.mp hp
    have snd : ss.Nodup := pm.nodup_iff.mpr g.nd
    refine dc_list (fun i H' => H' D = some (.dK (hkvs (ss.take i) fun p => h p - h 0)) ∧ Keep [] H H' ∧ H' sp = some (.lst (ss.map V.int))) ⟨upd_same, kp0.mine nDH, upd_old spD upd_same⟩ (fun i H' _ ⟨_, _, e⟩ => SqL.of e) ?_ ?_
    · rintro i v H' hi ⟨d1, d2, d3⟩
      obtain ⟨z, rfl, hz⟩ : ∃ z, v = V.int z ∧ ss[i]? = some z := by
        rw [List.getElem?_map] at hi
        cases e : ss[i]? with
        | none => rw [e] at hi; cases hi
        | some z => rw [e] at hi; exact ⟨z, (Option.some.inj hi).symm, rfl⟩
      have zk := ssk z (List.mem_of_getElem? hz)
      have hw' := d2 _ _ hw (by simp)
      have hh' := d2 _ _ hh (by simp)
      repeat (walk_at "rd")
      refine ⟨rfl, ?_⟩
      repeat (walk_at "rd")
      refine iteT ?_
      repeat (walk_at "rd")
      refine k_dgetI hh' (valV_h zk) ?_
      repeat (walk_at "rd")
      have zt : z ∉ ss.take i := fun m => by
        obtain ⟨j, hj⟩ := List.getElem?_of_mem m
        rw [List.getElem?_take] at hj
        split at hj
        · obtain ⟨p1, q1⟩ := List.getElem?_eq_some_iff.mp hj
          obtain ⟨p2, q2⟩ := List.getElem?_eq_some_iff.mp hz
          have := (List.getElem_inj snd).mp (q1.trans q2.symm)
          omega
        · cases hj
      have il : i < ss.length := (List.getElem?_eq_some_iff.mp hz).1
      have kl := g.kz
      have pl := pm.length_eq
      refine ⟨_, Sum.inl z, rfl, d1, ?_, ?_, d2.mine nDH, upd_old spD d3⟩
      · unfold hkvs
        rw [List.length_map, List.length_take]
        exact small1000 (by omega)
      · have e2 := putK_map_new (f := fun p => V.int (h p - h 0)) (g := fun p => V.int (h p - h 0)) zt (fun _ _ => rfl)
        have e3 : ss.take (i + 1) = ss.take i ++ [z] := by
          rw [List.take_add_one, hz]; rfl
        unfold hkvs at e2 ⊢
        rw [e3, ← e2]
        exact upd_same
    · rintro H' ⟨d1, d2, d3⟩
      rw [List.length_map, List.take_length] at d1
      exact k H' D ss pm pw nDH d1 d2
abbrev st_Ways__leading : Stmt := inClass (topS 2) 7
abbrev N_Ways__leading : List Str := ["self", "leading", "number"]
theorem sc_Ways__leading : FnScope N_Ways__leading ["self"] (defScope st_Ways__leading) := ⟨rfl, rfl, rfl, by decide +kernel, rfl, by decide +kernel, by decide +kernel⟩

theorem ok_leading {f C : Addr} {fd : FuncData} (F : Fun K "_leading" "Ways._leading" st_Ways__leading f fd) (T : Txt K mg C) : FnOk P wd K mg base CX0 1 f fd ["self"] (spLeading C) := by
  refine F.ok sc_Ways__leading (fun vs H Q E h => ?_) (fun cdv A outer s H vs Q E hr h => ?_)
  · obtain ⟨w, dx, ah, al, tr, ks, h, ls, n, rfl, _⟩ := h
    rfl
  · obtain ⟨w, dx, ah, al, tr, ks, h, ls, n, rfl, W, k⟩ := h
    have hu := hu_of hr
    have nd := sc_Ways__leading.nd
    obtain ⟨cl, nH, nL, nS, _⟩ := id T
    obtain ⟨hw, hh, hl, ht, g⟩ := id W
    refine ⟨_, (pss_cons (ps_set (i := 1) nd rfl (Or.inl rfl) pe_dnewK)
  (pss_cons (ps_for PassesOwn.never rfl (pi_range1 rfl T.b_range (pa_cons (pe_fld (pv 0) rfl) pa_nil)) (pg_name (i := 2) nd rfl (Or.inl rfl))
    (pss_one (ps_expr (pe_bm PySem.F.plainAttrs_list PySem.F.slot_list_append PySem.F.type_list_append mt_append (pe_dsetd (pv 1) (pe_ix ix_tup (pe_ix ix_list (pe_fld (pv 0) rfl) (pv 2) (fun _ _ => rfl)) pe_int (fun _ _ => rfl)) (pe_lst pa_nil) ⟨rfl, rfl, rfl, rfl⟩) (pa_cons (pv 2) pa_nil)))))
  (pss_one (ps_ret (pv 1))))), ?_⟩
    repeat (walk_at "rd")
    refine r_dnew fun d nd0 => ?_
    have hw1 : upd H d (.dK []) w = some (.ins C dx (wf ah al n)) := upd_new nd0 hw
    repeat (walk_at "rd")
    have nle := g.le
    have nlz := g.lz
    refine k_forR (n := n) (by omega) (fun i σ H2 => ∃ (vo : Option V) (kvs : List (Key × V)) (pa : Int → Addr), σ = [some (.ref w), some (.ref d), vo] ∧ LeadAt H2 d ls i kvs pa ∧ Keep [] H H2 ∧ ∀ u, idx ls i u ≠ [] → H (pa u) = none)
      ⟨none, [], fun _ => 0, rfl, ⟨upd_same, Nat.le_refl _, fun u => .inl ⟨rfl, rfl⟩, fun u v h => (h rfl).elim⟩, (Keep.refl [] H).new nd0, fun u h => (h rfl).elim⟩ ?_ ?_
    · rintro i σ H2 hi ⟨vo, kvs, pa, rfl, L, kp, fr⟩
      have hw2 := kp _ _ hw (by simp)
      have hl2 := kp _ _ hl (by simp)
      have iL : i < ls.length := by omega
      have hrow : ls[i]? = some (row ls i) := by rw [List.getElem?_eq_getElem iL, row_of (List.getElem?_eq_getElem iL)]
      have iT : i < tr.length := by rw [ht.1]; exact iL
      have htr : tr[i]? = some tr[i] := List.getElem?_eq_getElem iT
      have hri : (tr.map V.ref)[i]? = some (.ref tr[i]) := by rw [List.getElem?_map, htr]; rfl
      have hrt0 := ht.2 i _ _ htr hrow
      have hrt : H2 tr[i] = some (.tup [.int (row ls i).x, .int (row ls i).y, .int (row ls i).k, .int (row ls i).lab]) := kp _ _ hrt0 (by simp)
      have hd2 := L.at_
      repeat (walk_at "rd")
      intro q nq
      have dq : d ≠ q := ne_of_none hd2 nq
      have nqH : H q = none := by
        cases e : H q with
        | none => rfl
        | some o => rw [kp q o e (by simp)] at nq; cases nq
      have kl : kvs.length < sizeLine := small1000 (by have := L.len; omega)
      have is : ∀ v, idx ls (i + 1) v = if (row ls i).y = v then idx ls i v ++ [i] else idx ls i v := fun v => by
        unfold idx
        rw [List.range_succ, List.filter_append, List.filter_cons]
        by_cases c : (row ls i).y = v
        · rw [if_pos c, if_pos (decide_eq_true c)]; rfl
        · rw [if_neg c, if_neg (by simpa using c)]; simp
      refine k_setd2 (upd_new nq hd2) kl (fun v hv => ?_) (fun hn => ?_)
      · rcases L.get (row ls i).y with ⟨a1, a2⟩ | ⟨a1, a2, a3⟩
        · rw [a2] at hv; cases hv
        · rw [a2] at hv; cases hv
          have nlen : ((idx ls i (row ls i).y).map fun (j : Nat) => V.int (j : Int)).length < sizeLine := by
            rw [List.length_map]
            exact small1000 (by
              have : (idx ls i (row ls i).y).length ≤ i := by unfold idx; exact Nat.le_trans (List.length_filter_le _ _) (by rw [List.length_range]; exact Nat.le_refl _)
              omega)
          have pq : pa (row ls i).y ≠ q := ne_of_none a3 nq
          have pd : d ≠ pa (row ls i).y := ne_of hd2 a3 (by intro z; cases z)
          repeat (walk_at "rd")
          refine k_append (upd_new nq a3) nlen ?_
          refine ⟨_, kvs, pa, rfl, ⟨upd_old pd (upd_new nq hd2), by have := L.len; omega, fun v => ?_, fun u v hu hv => ?_⟩, (kp.new nq).mine (fr _ a1), fun u hu => ?_⟩
          · rw [is]
            by_cases c : (row ls i).y = v
            · subst c
              rw [if_pos rfl]
              exact .inr ⟨by simp, a2, by rw [upd_same, List.map_append]; rfl⟩
            · rw [if_neg c]
              rcases L.get v with b | ⟨b1, b2, b3⟩
              · exact .inl b
              · refine .inr ⟨b1, b2, upd_old (fun z => c (L.inj _ _ a1 b1 z.symm)) (upd_new nq b3)⟩
          · have f : ∀ z, idx ls (i + 1) z ≠ [] → idx ls i z ≠ [] := fun z hz => by
              rw [is] at hz
              by_cases c : (row ls i).y = z
              · rw [← c]; exact a1
              · rw [if_neg c] at hz; exact hz
            exact L.inj u v (f u hu) (f v hv)
          · rw [is] at hu
            by_cases c : (row ls i).y = u
            · rw [← c]; exact fr _ a1
            · rw [if_neg c] at hu; exact fr u hu
      · rcases L.get (row ls i).y with ⟨a1, a2⟩ | ⟨a1, a2, a3⟩
        · have qd : q ≠ d := dq.symm
          repeat (walk_at "rd")
          refine k_append (upd_old qd upd_same) (by decide) ?_
          refine ⟨_, putK kvs (.inl (row ls i).y) (.ref q), fun v => if v = (row ls i).y then q else pa v, rfl, ⟨upd_old dq upd_same, by have := L.len; have := length_putK kvs (.inl (row ls i).y) (.ref q); omega, fun v => ?_, fun u v hu hv e => ?_⟩, ((kp.new nq).mine nd0).mine nqH, fun u hu => ?_⟩
          · rw [is, valV_put]
            by_cases c : v = (row ls i).y
            · subst c
              rw [if_pos rfl, if_pos rfl, if_pos rfl, a1]
              exact .inr ⟨by simp, rfl, upd_same⟩
            · rw [if_neg (fun z => c z.symm), if_neg (fun z => c (Sum.inl.inj z)), if_neg c]
              rcases L.get v with b | ⟨b1, b2, b3⟩
              · exact .inl b
              · have p1 : pa v ≠ q := ne_of_none b3 nq
                have p2 : pa v ≠ d := (ne_of hd2 b3 (by intro z; cases z)).symm
                exact .inr ⟨b1, b2, upd_old p1 (upd_old p2 (upd_new nq b3))⟩
          · have f : ∀ z, z ≠ (row ls i).y → idx ls (i + 1) z ≠ [] → idx ls i z ≠ [] := fun z hz h => by
              rw [is, if_neg (fun y => hz y.symm)] at h; exact h
            have nq2 : ∀ z, z ≠ (row ls i).y → idx ls (i + 1) z ≠ [] → pa z ≠ q := fun z hz h => by
              rcases L.get z with b | ⟨b1, b2, b3⟩
              · exact (f z hz h b.1).elim
              · exact ne_of_none b3 nq
            by_cases c1 : u = (row ls i).y <;> by_cases c2 : v = (row ls i).y
            · rw [c1, c2]
            · simp only [if_pos c1, if_neg c2] at e
              exact (nq2 v c2 hv e.symm).elim
            · simp only [if_neg c1, if_pos c2] at e
              exact (nq2 u c1 hu e).elim
            · simp only [if_neg c1, if_neg c2] at e
              exact L.inj u v (f u c1 hu) (f v c2 hv) e
          · by_cases c : u = (row ls i).y
            · simp only [if_pos c]; exact nqH
            · simp only [if_neg c]
              rw [is, if_neg (fun y => c y.symm)] at hu
              exact fr u hu
        · rw [a2] at hn; cases hn
    · rintro σ H2 ⟨vo, kvs, pa, rfl, L, kp, fr⟩
      repeat (walk_at "rd")
      exact k H2 d kvs pa L kp nd0 fr
end
end L2.K44
end P_K44f
section P_K44g
namespace L2.K44
open PySem PySem.Spec PyProof.Rows L2.KB
def T3s (H : Hp) (rs : List Addr) (es : List T3) : Prop := rs.length = es.length ∧ ∀ (i : Nat) (r : Addr) (e : T3), rs[i]? = some r → es[i]? = some e → H r = some (tup3 e)
theorem T3s.keep {H H' : Hp} {rs : List Addr} {es : List T3} (t : T3s H rs es) (k : ∀ r e, H r = some (tup3 e) → H' r = some (tup3 e)) : T3s H' rs es := ⟨t.1, fun i r e a b => k r e (t.2 i r e a b)⟩
theorem T3s.nil {H : Hp} : T3s H [] [] := ⟨rfl, fun i r e a => by simp at a⟩
theorem T3s.snoc {H : Hp} {rs : List Addr} {es : List T3} {r : Addr} {e : T3} (t : T3s H rs es) (h : H r = some (tup3 e)) : T3s H (rs ++ [r]) (es ++ [e]) := by
  refine ⟨by rw [List.length_append, List.length_append, t.1]; rfl, fun i q m a b => ?_⟩
  by_cases hi : i < rs.length
  · rw [List.getElem?_append_left hi] at a
    rw [List.getElem?_append_left (by rw [← t.1]; exact hi)] at b
    exact t.2 i q m a b
  · rw [List.getElem?_append_right (by omega)] at a
    rw [List.getElem?_append_right (by rw [← t.1]; omega), ← t.1] at b
    cases e : i - rs.length with
    | zero =>
      rw [e] at a b
      cases a; cases b; exact h
    | succ j => rw [e] at a; simp at a
def spFalls (C : Addr) : Sp := fun vs H Q _ => ∃ (w dx ah al pn lw : Addr) (tr : List Addr) (ks : List Int) (h : Int → Int) (ls : List Lim) (n : Nat) (is : List Nat) (lo : List Int) (low : Int → Int), vs = [.ref w, .ref pn, .ref lw] ∧ WaysAt C H w dx ah al tr ks h ls n ∧
  H pn = some (.lst (is.map fun (i : Nat) => V.int (i : Int))) ∧ H lw = some (.dK (hkvs lo low)) ∧ (∀ i ∈ is, i < ls.length ∧ (row ls i).y ∈ lo) ∧ is.length ≤ 1000 ∧
  ∀ (H' : Hp) (r : Addr) (rs : List Addr), H r = none → H' r = some (.lst (rs.map V.ref)) → T3s H' rs (fallsOf ls h lo low is) → Keep [] H H' → Q (.ref r) H'
def spRing (C : Addr) : Sp := fun vs H Q _ => ∃ (w dx ah al ca : Addr) (tr : List Addr) (ks : List Int) (h : Int → Int) (ls : List Lim) (n : Nat) (y : Int) (cs : List Int) (c : Int → Nat) (is : List Nat), vs = [.ref w, .int y, .ref ca] ∧ WaysAt C H w dx ah al tr ks h ls n ∧
  H ca = some (.dK (hkvs cs fun p => (c p : Int))) ∧ IsCh c n ls y is ∧ y ∈ cs ∧ (∀ p ∈ cs, c p < n → (row ls (c p)).y ∈ cs) ∧ (∀ i ∈ is, i < ls.length) ∧ is.length ≤ 1000 ∧
  ∀ (H' : Hp) (r : Addr), H r = none → H' r = some (.lst (is.map fun i => V.int (row ls i).lab)) → Keep [] H H' → Q (.ref r) H'
theorem fallsOf_snoc {ls : List Lim} {h : Int → Int} {lo : List Int} {low : Int → Int} {is : List Nat} {i : Nat} : fallsOf ls h lo low (is ++ [i]) = fallsOf ls h lo low is ++
    (if low (row ls i).y + (row ls i).k - h (row ls i).x < 0 ∧ (row ls i).x ∉ lo then [(low (row ls i).y + (row ls i).k - h (row ls i).x, (row ls i).x, (i : Int))] else []) := by
  unfold fallsOf
  rw [List.filterMap_append, List.filterMap_cons, List.filterMap_nil]
  split <;> rename_i e <;> split at e <;> simp_all
theorem row_get {ls : List Lim} {i : Nat} (h : i < ls.length) : ls[i]? = some (row ls i) := by rw [List.getElem?_eq_getElem h, row_of (List.getElem?_eq_getElem h)]
/-- the tuple of a limit, by its number -/
theorem WaysAt.tup {C : Addr} {H : Hp} {w dx ah al : Addr} {tr : List Addr} {ks : List Int} {h : Int → Int} {ls : List Lim} {n : Nat} (W : WaysAt C H w dx ah al tr ks h ls n) {i : Nat} (hi : i < ls.length) :
    ∃ r, (tr.map V.ref)[i]? = some (.ref r) ∧ H r = some (.tup [.int (row ls i).x, .int (row ls i).y, .int (row ls i).k, .int (row ls i).lab]) := by
  have iT : i < tr.length := by rw [W.ht.1]; exact hi
  have htr : tr[i]? = some tr[i] := List.getElem?_eq_getElem iT
  exact ⟨tr[i], by rw [List.getElem?_map, htr]; rfl, W.ht.2 i _ _ htr (row_get hi)⟩
section
variable {P : Program} {wd : World} {K : PySem.W.Frag} {mg : Str → Option Value} {base : Heap}
abbrev st_Ways__falls : Stmt := inClass (topS 2) 8
abbrev N_Ways__falls : List Str := ["self", "numbers", "lowered", "entries", "number", "x", "y", "k", "_", "change"]
theorem sc_Ways__falls : FnScope N_Ways__falls ["self", "numbers", "lowered"] (defScope st_Ways__falls) := ⟨rfl, rfl, rfl, by decide +kernel, rfl, by decide +kernel, by decide +kernel⟩

theorem ok_falls {f C : Addr} {fd : FuncData} (F : Fun K "_falls" "Ways._falls" st_Ways__falls f fd) (T : Txt K mg C) : FnOk P wd K mg base CX0 1 f fd ["self", "numbers", "lowered"] (spFalls C) := by
  refine F.ok sc_Ways__falls (fun vs H Q E h => ?_) (fun cdv A outer s H vs Q E hr h => ?_)
  · obtain ⟨w, dx, ah, al, pn, lw, tr, ks, h, ls, n, is, lo, low, rfl, _⟩ := h
    rfl
  · obtain ⟨w, dx, ah, al, pn, lw, tr, ks, h, ls, n, is, lo, low, rfl, W, hpn, hlw, his, hil, k⟩ := h
    have hu := hu_of hr
    have nd := sc_Ways__falls.nd
    obtain ⟨cl, nH, nL, nS, _⟩ := id T
    obtain ⟨hw, hh, hl, ht, g⟩ := id W
    refine ⟨_, (pss_cons (ps_set (i := 3) nd rfl (Or.inl rfl) (pe_lst pa_nil))
  (pss_cons (ps_for PassesOwn.never rfl (pi_list (pv 1)) (pg_name (i := 4) nd rfl (Or.inl rfl))
    (pss_cons (ps_asg (pe_ix ix_list (pe_fld (pv 0) rfl) (pv 4) (fun _ _ => rfl)) (pg_tup rfl (pgs_cons (pg_name (i := 5) nd rfl (Or.inl rfl)) (pgs_cons (pg_name (i := 6) nd rfl (Or.inl rfl)) (pgs_cons (pg_name (i := 7) nd rfl (Or.inl rfl)) (pgs_cons (pg_name (i := 8) nd rfl (Or.inl rfl)) pgs_nil))))))
  (pss_cons (ps_set (i := 9) nd rfl (Or.inl rfl) (pe_op op_sub (pe_op op_add (pe_dget hu (pv 2) (pv 6) (fun _ _ => rfl)) (pv 7)) (pe_dget hu (pe_fld (pv 0) rfl) (pv 5) (fun _ _ => rfl))))
  (pss_one (ps_if (PW.pt (pw_and (pt_cmpR op_lt (pv 9) pe_int (nomark _)) (pw_and1 (pt_cmp (pc_dnotin hu (pv 5) (pv 2))))))
    (pss_one (ps_expr (pe_bm PySem.F.plainAttrs_list PySem.F.slot_list_append PySem.F.type_list_append mt_append (pv 3) (pa_cons (pe_tup (pa_cons (pv 9) (pa_cons (pv 5) (pa_cons (pv 4) pa_nil)))) pa_nil))))
    pss_nil)))))
  (pss_one (ps_ret (pv 3))))), ?_⟩
    repeat (walk_at "rd")
    intro en nen
    repeat (walk_at "rd")
    refine k_forL (SqL.of (upd_new nen hpn)) (fun j σ H2 => ∃ (v4 v5 v6 v7 v8 v9 : Option V) (rs : List Addr), σ = [some (.ref w), some (.ref pn), some (.ref lw), some (.ref en), v4, v5, v6, v7, v8, v9] ∧
      H2 en = some (.lst (rs.map V.ref)) ∧ T3s H2 rs (fallsOf ls h lo low (is.take j)) ∧ Keep [] H H2) ⟨none, none, none, none, none, none, [], rfl, upd_same, T3s.nil, (Keep.refl [] H).new nen⟩ (fun j σ H2 _ ⟨_, _, _, _, _, _, _, _, _, _, kp⟩ => SqL.of (kp _ _ hpn (by simp))) ?_ ?_
    · rintro j v σ H2 hj ⟨v4, v5, v6, v7, v8, v9, rs, rfl, e1, e2, kp⟩
      obtain ⟨i, rfl, hi⟩ : ∃ i : Nat, v = V.int (i : Int) ∧ is[j]? = some i := by
        rw [List.getElem?_map] at hj
        cases e : is[j]? with
        | none => rw [e] at hj; cases hj
        | some z => rw [e] at hj; exact ⟨z, (Option.some.inj hj).symm, rfl⟩
      obtain ⟨iL, iy⟩ := his i (List.mem_of_getElem? hi)
      obtain ⟨r, hri, hrt0⟩ := W.tup iL
      have hrt := kp _ _ hrt0 (by simp)
      have hw2 := kp _ _ hw (by simp)
      have hl2 := kp _ _ hl (by simp)
      have hh2 := kp _ _ hh (by simp)
      have hlw2 := kp _ _ hlw (by simp)
      have ixk := (g.inn _ (List.mem_of_getElem? (row_get iL))).1
      have hst : is.take (j + 1) = is.take j ++ [i] := by rw [List.take_add_one, hi]; rfl
      repeat (walk_at "rd")
      refine k_dgetI hlw2 (valV_h iy) ?_
      repeat (walk_at "rd")
      refine k_dgetI hh2 (valV_h ixk) ?_
      repeat (walk_at "rd")
      refine iteD (fun c1 => ?_) (fun c1 => ?_)
      · repeat (walk_at "rd")
        refine k_dinI hlw2 (show valV (hkvs lo low) (.inl (row ls i).x) = if (row ls i).x ∈ lo then some (.int (low (row ls i).x)) else none from valV_map) ?_
        repeat (walk_at "rd")
        by_cases c2 : (row ls i).x ∈ lo
        · rw [if_pos c2]
          refine iteF ?_
          repeat (walk_at "rd")
          refine ⟨_, _, _, _, _, _, rs, rfl, e1, ?_, kp⟩
          rw [hst, fallsOf_snoc, if_neg (fun z => z.2 c2), List.append_nil]
          exact e2
        · rw [if_neg c2]
          refine iteT ?_
          repeat (walk_at "rd")
          intro tp ntp
          have lt : (rs.map V.ref).length < sizeLine := by
            have q1 := e2.1
            have q2 := falls_len (ls := ls) (h := h) (low := low) (lo := lo) (is.take j)
            rw [List.length_map]
            exact small1000 (by rw [List.length_take] at q2; omega)
          have nen2 : en ≠ tp := ne_of_none e1 ntp
          repeat (walk_at "rd")
          refine k_append (upd_new ntp e1) lt ?_
          refine ⟨_, _, _, _, _, _, rs ++ [tp], rfl, ?_, ?_, (kp.new ntp).mine nen⟩
          · rw [List.map_append]; exact upd_same
          · rw [hst, fallsOf_snoc, if_pos ⟨c1, c2⟩]
            exact (e2.keep fun r e he => upd_old (ne_of he e1 (by intro z; cases z)) (upd_new ntp he)).snoc (upd_old nen2.symm upd_same)
      · refine iteF ?_
        repeat (walk_at "rd")
        refine ⟨_, _, _, _, _, _, rs, rfl, e1, ?_, kp⟩
        rw [hst, fallsOf_snoc, if_neg (fun z => c1 z.1), List.append_nil]
        exact e2
    · rintro σ H2 ⟨v4, v5, v6, v7, v8, v9, rs, rfl, e1, e2, kp⟩
      rw [List.length_map, List.take_length] at e2
      repeat (walk_at "rd")
      exact k H2 en rs nen e1 e2 kp
abbrev st_Ways__ring : Stmt := inClass (topS 2) 9
abbrev N_Ways__ring : List Str := ["self", "place", "causes", "labels", "number"]
theorem sc_Ways__ring : FnScope N_Ways__ring ["self", "place", "causes"] (defScope st_Ways__ring) := ⟨rfl, rfl, rfl, by decide +kernel, rfl, by decide +kernel, by decide +kernel⟩

theorem ok_ring {f C : Addr} {fd : FuncData} (F : Fun K "_ring" "Ways._ring" st_Ways__ring f fd) (T : Txt K mg C) : FnOk P wd K mg base CX0 1 f fd ["self", "place", "causes"] (spRing C) := by
  refine F.ok sc_Ways__ring (fun vs H Q E h => ?_) (fun cdv A outer s H vs Q E hr h => ?_)
  · obtain ⟨w, dx, ah, al, ca, tr, ks, h, ls, n, y, cs, c, is, rfl, _⟩ := h
    rfl
  · obtain ⟨w, dx, ah, al, ca, tr, ks, h, ls, n, y, cs, c, is, rfl, W, hca, ich, ycs, clo, lt, hil, k⟩ := h
    have hu := hu_of hr
    have nd := sc_Ways__ring.nd
    obtain ⟨cl, nH, nL, nS, _⟩ := id T
    obtain ⟨hw, hh, hl, ht, g⟩ := id W
    refine ⟨_, (pss_cons (ps_set (i := 3) nd rfl (Or.inl rfl) (pe_lst pa_nil))
  (pss_cons (ps_set (i := 4) nd rfl (Or.inl rfl) (pe_dget hu (pv 2) (pv 1) (fun _ _ => rfl)))
  (pss_cons (ps_while PassesOwn.never (pt_cmpR op_lt (pv 4) (pe_fld (pv 0) rfl) (nomark _))
    (pss_cons (ps_expr (pe_bm PySem.F.plainAttrs_list PySem.F.slot_list_append PySem.F.type_list_append mt_append (pv 3) (pa_cons (pe_ix ix_tup (pe_ix ix_list (pe_fld (pv 0) rfl) (pv 4) (fun _ _ => rfl)) pe_int (fun _ _ => rfl)) pa_nil)))
  (pss_one (ps_set (i := 4) nd rfl (Or.inl rfl) (pe_dget hu (pv 2) (pe_ix ix_tup (pe_ix ix_list (pe_fld (pv 0) rfl) (pv 4) (fun _ _ => rfl)) pe_int (fun _ _ => rfl)) (fun _ _ => rfl))))))
  (pss_cons (ps_expr (pe_bm PySem.F.plainAttrs_list PySem.F.slot_list_append PySem.F.type_list_append mt_append (pv 3) (pa_cons (pe_ix ix_tup (pe_ix ix_list (pe_fld (pv 0) rfl) (pv 4) (fun _ _ => rfl)) pe_int (fun _ _ => rfl)) pa_nil)))
  (pss_one (ps_ret (pv 3))))))), ?_⟩
    repeat (walk_at "rd")
    intro lb nlb
    have hca1 : upd H lb (.lst []) ca = _ := upd_new nlb hca
    repeat (walk_at "rd")
    refine k_dgetI hca1 (valV_h ycs) ?_
    repeat (walk_at "rd")
    have hlab : ∀ i ∈ is, ∃ r, (tr.map V.ref)[i]? = some (.ref r) ∧ H r = some (.tup [.int (row ls i).x, .int (row ls i).y, .int (row ls i).k, .int (row ls i).lab]) := fun i hi => W.tup (lt i hi)
    refine ⟨fun m σ H2 => ∃ (p : Int) (done rest : List Nat), σ = [some (.ref w), some (.int y), some (.ref ca), some (.ref lb), some (.int (c p : Int))] ∧ H2 lb = some (.lst (done.map fun i => V.int (row ls i).lab)) ∧ done ++ rest = is ∧ IsCh c n ls p rest ∧ p ∈ cs ∧ Keep [] H H2 ∧ m = rest.length,
      ⟨_, y, [], is, rfl, upd_same, rfl, ich, ycs, (Keep.refl [] H).new nlb, rfl⟩, ?_⟩
    rintro m σ H2 ⟨p, done, rest, rfl, e1, e2, e3, e4, kp, rfl⟩
    have hw2 := kp _ _ hw (by simp)
    have hl2 := kp _ _ hl (by simp)
    have hca2 := kp _ _ hca (by simp)
    have dl : (done.map fun i => V.int (row ls i).lab).length < sizeLine := by
      have := congrArg List.length e2
      rw [List.length_append] at this
      rw [List.length_map]
      exact small1000 (by omega)
    repeat (walk_at "rd")
    refine iteD (fun c1 => ?_) (fun c1 => ?_)
    · have c1' : c p < n := by omega
      refine ⟨_, fun _ _ z => z, ?_⟩
      cases e3 with
      | last h => omega
      | @step _ is' h r =>
        obtain ⟨r0, hri, hrt0⟩ := hlab (c p) (by rw [← e2]; simp)
        have hrt := kp _ _ hrt0 (by simp)
        have hrt3 : ∀ o, upd H2 lb o r0 = _ := fun o => upd_old (ne_of hrt e1 (by intro z; cases z)) hrt
        have hw3 : ∀ o, upd H2 lb o w = _ := fun o => upd_old (ne_of hw2 e1 (by intro z; cases z)) hw2
        have hl3 : ∀ o, upd H2 lb o al = _ := fun o => upd_old (ne_of_none hl nlb) hl2
        have hca3 : ∀ o, upd H2 lb o ca = _ := fun o => upd_old (ne_of hca2 e1 (by intro z; cases z)) hca2
        repeat (walk_at "rd")
        refine k_append e1 dl ?_
        repeat (walk_at "rd")
        refine k_dgetI (hca3 _) (valV_h (clo p e4 h)) ?_
        repeat (walk_at "rd")
        refine ⟨is'.length, by simp, _, done ++ [c p], is', rfl, ?_, by rw [List.append_assoc]; exact e2, r, clo p e4 h, kp.mine nlb, rfl⟩
        rw [List.map_append]
        exact upd_same
    · have cn : ¬ c p < n := by omega
      cases e3 with
      | step h r => exact (cn h).elim
      | last h =>
        obtain ⟨r0, hri, hrt0⟩ := hlab (c p) (by rw [← e2, h]; simp)
        have hrt := kp _ _ hrt0 (by simp)
        repeat (walk_at "rd")
        refine k_append e1 dl ?_
        repeat (walk_at "rd")
        refine k _ lb nlb ?_ (kp.mine nlb)
        rw [← e2, List.map_append, ← h]
        exact upd_same
end
end L2.K44
end P_K44g
section P_K44h
namespace L2.K44
open PySem PySem.Spec PyProof.Rows L2.KB
def Told (H H' : Hp) (ls : List Lim) (r : Addr) (is : List Nat) : Prop := H r = none ∧ H' r = some (.lst (is.map fun i => V.int (row ls i).lab)) ∧ Ring ls is
def spNext (C : Addr) : Sp := fun vs H Q _ => ∃ (w dx ah al : Addr) (tr : List Addr) (ks : List Int) (h : Int → Int) (ls : List Lim) (n : Nat), vs = [.ref w] ∧ WaysAt C H w dx ah al tr ks h ls n ∧ n < ls.length ∧
  ∀ (H' : Hp) (v : V) (h' : Int → Int), WaysAt C H' w dx ah al tr ks h' ls n → Keep [ah] H H' → ((v = .non ∧ ∀ l ∈ ls.take (n + 1), Holds h' l) ∨ ∃ r is, v = .ref r ∧ Told H H' ls r is) → Q v H'
def spSettle (C : Addr) : Sp := fun vs H Q _ => ∃ (w dx ah al : Addr) (tr : List Addr) (ks : List Int) (h : Int → Int) (ls : List Lim) (n : Nat), vs = [.ref w] ∧ WaysAt C H w dx ah al tr ks h ls n ∧
  ∀ (H' : Hp) (v : V) (h' : Int → Int) (n' : Nat), WaysAt C H' w dx ah al tr ks h' ls n' → Keep [w, ah] H H' → ((v = .non ∧ n' = ls.length) ∨ ∃ r is, v = .ref r ∧ Told H H' ls r is) → Q v H'
theorem tup3_inj {a b : T3} (h : tup3 a = tup3 b) : a = b := by
  injection h with h
  injection h with h1 h
  injection h with h2 h
  injection h with h3 _
  injection h1 with h1
  injection h2 with h2
  injection h3 with h3
  exact Prod.ext h1 (Prod.ext h2 h3)
theorem HOrd.congr {α : Type} {val val' : α → T3} {xs : List α} (h : ∀ x ∈ xs, val x = val' x) (o : HOrd val xs) : HOrd val' xs := fun i x p i0 hx hp => by
  rw [← h x (List.mem_of_getElem? hx), ← h p (List.mem_of_getElem? hp)]
  exact o i x p i0 hx hp
theorem nodup_len : ∀ (N : Nat) (xs : List Nat), xs.Nodup → (∀ x ∈ xs, x < N) → xs.length ≤ N
  | 0, [], _, _ => Nat.le_refl _
  | 0, x :: _, _, h => absurd (h x List.mem_cons_self) (by omega)
  | N + 1, xs, nd, h => by
    have h1 := nodup_len N (xs.filter fun x => decide (x ≠ N)) (nd.filter _) fun x hx => by
      obtain ⟨a, b⟩ := List.mem_filter.mp hx
      have := h x a
      have := of_decide_eq_true b
      omega
    have h2 : xs.length ≤ (xs.filter fun x => decide (x ≠ N)).length + 1 := by
      clear h1 h
      induction xs with
      | nil => simp
      | cons x xs ih =>
        obtain ⟨n1, n2⟩ := List.nodup_cons.mp nd
        rw [List.filter_cons]
        by_cases e : x = N
        · subst e
          rw [if_neg (by simp)]
          have : xs.filter (fun y => decide (y ≠ x)) = xs := List.filter_eq_self.mpr fun y hy => decide_eq_true fun z => n1 (z ▸ hy)
          rw [this]; simp
        · rw [if_pos (decide_eq_true e)]
          have := ih n2
          simp only [List.length_cons]; omega
    omega
theorem nodup_of_map {α β : Type} (f : α → β) : ∀ {xs : List α}, (xs.map f).Nodup → xs.Nodup
  | [], _ => List.nodup_nil
  | x :: xs, h => by
    rw [List.map_cons] at h
    obtain ⟨a, b⟩ := List.nodup_cons.mp h
    exact List.nodup_cons.mpr ⟨fun m => a (List.mem_map_of_mem m), nodup_of_map f b⟩
theorem sub_len : ∀ {lo ks : List Int}, lo.Nodup → (∀ p ∈ lo, p ∈ ks) → lo.length ≤ ks.length
  | [], _, _, _ => Nat.zero_le _
  | a :: lo, ks, nd, h => by
    obtain ⟨n1, n2⟩ := List.nodup_cons.mp nd
    have m := h a List.mem_cons_self
    have ih := sub_len (ks := ks.erase a) n2 fun p hp => (List.mem_erase_of_ne (fun e : p = a => n1 (by rw [← e]; exact hp))).mpr (h p (List.mem_cons_of_mem _ hp))
    have := List.length_erase_of_mem m
    have : 0 < ks.length := List.length_pos_of_mem m
    simp only [List.length_cons]; omega
theorem Keep.none {H H' : Hp} {p : Addr} (k : Keep [] H H') (np : H' p = none) : H p = none := k.back (by simp) np
theorem putK_set {lo : List Int} {f : Int → Int} {p v : Int} (hp : p ∉ lo) : putK (hkvs lo f) (.inl p) (.int v) = hkvs (lo ++ [p]) (fset f p v) := by
  have e := putK_map_new (f := fun q => V.int (f q)) (g := fun q => V.int (fset f p v q)) hp (fun q hq => by simp only [fset_ne hq])
  simp only [fset_same] at e
  exact e
theorem hkvs_congr {lo : List Int} {f f' : Int → Int} (h : ∀ p ∈ lo, f p = f' p) : hkvs lo f = hkvs lo f' := List.map_congr_left fun p hp => by rw [h p hp]
theorem nset_cast {c : Int → Nat} {p v : Int} {i : Nat} (h : v = (i : Int)) : (fset (fun q => (c q : Int)) p v) = fun q => (nset c p i q : Int) := by
  funext q
  unfold fset nset
  split
  · exact h
  · rfl
theorem Ring.len {ls : List Lim} {is : List Nat} (r : Ring ls is) : is.length ≤ ls.length := nodup_len _ _ (nodup_of_map _ r.nd) r.lt
section
variable {P : Program} {wd : World} {K : PySem.W.Frag} {mg : Str → Option Value} {base : Heap}
abbrev st_Ways__settle_next : Stmt := inClass (topS 2) 6
abbrev N_Ways__settle_next : List Str := ["self", "x", "y", "k", "_", "fall", "leading", "queue", "causes", "lowered", "change", "place", "number", "entry"]
theorem sc_Ways__settle_next : FnScope N_Ways__settle_next ["self"] (defScope st_Ways__settle_next) := ⟨rfl, rfl, rfl, by decide +kernel, rfl, by decide +kernel, by decide +kernel⟩

set_option maxHeartbeats 16000000 in
theorem ok_next {f C fL fF fR : Addr} {fd fdL fdF fdR : FuncData} (F : Fun K "_settle_next" "Ways._settle_next" st_Ways__settle_next f fd) (T : Txt K mg C)
    (CWays__leading : CalM P wd K mg base 1 C "_leading" fL fdL ["self"] (spLeading C)) (CWays__falls : CalM P wd K mg base 1 C "_falls" fF fdF ["self", "numbers", "lowered"] (spFalls C))
    (CWays__ring : CalM P wd K mg base 1 C "_ring" fR fdR ["self", "place", "causes"] (spRing C)) : FnOk P wd K mg base CX0 2 f fd ["self"] (spNext C) := by
  refine F.ok sc_Ways__settle_next (fun vs H Q E h => ?_) (fun cdv A outer s H vs Q E hr h => ?_)
  · obtain ⟨w, dx, ah, al, tr, ks, h, ls, n, rfl, _⟩ := h
    rfl
  · obtain ⟨w, dx, ah, al, tr, ks, h, ls, n, rfl, W, hn, k⟩ := h
    have hu := hu_of hr
    have nd := sc_Ways__settle_next.nd
    obtain ⟨cl, nH, nL, nS, _⟩ := id T
    obtain ⟨hw, hh, hl, ht, g⟩ := id W
    refine ⟨_, (pss_cons (ps_asg (pe_ix ix_list (pe_fld (pv 0) rfl) (pe_fld (pv 0) rfl) (fun _ _ => rfl)) (pg_tup rfl (pgs_cons (pg_name (i := 1) nd rfl (Or.inl rfl)) (pgs_cons (pg_name (i := 2) nd rfl (Or.inl rfl)) (pgs_cons (pg_name (i := 3) nd rfl (Or.inl rfl)) (pgs_cons (pg_name (i := 4) nd rfl (Or.inl rfl)) pgs_nil))))))
  (pss_cons (ps_set (i := 5) nd rfl (Or.inl rfl) (pe_op op_sub (pe_op op_sub (pe_dget hu (pe_fld (pv 0) rfl) (pv 1) (fun _ _ => rfl)) (pe_dget hu (pe_fld (pv 0) rfl) (pv 2) (fun _ _ => rfl))) (pv 3)))
  (pss_cons (ps_if (pt_cmpR op_le (pv 5) pe_int (nomark _))
    (pss_one (ps_ret pe_non))
    pss_nil)
  (pss_cons (ps_set (i := 6) nd rfl (Or.inl rfl) (pe_mm0 CWays__leading hr T.cl (pv 0)))
  (pss_cons (ps_set (i := 7) nd rfl (Or.inl rfl) (pe_lst (pa_cons (pe_tup (pa_cons (pe_un un_neg (pv 5)) (pa_cons (pv 1) (pa_cons (pe_fld (pv 0) rfl) pa_nil)))) pa_nil)))
  (pss_cons (ps_set (i := 8) nd rfl (Or.inl rfl) pe_dnewK)
  (pss_cons (ps_set (i := 9) nd rfl (Or.inl rfl) pe_dnewK)
  (pss_cons (ps_while PassesOwn.never (pt_cmpR op_gt (pe_callB call_len_seq (by rfl) T.b_len PySem.boot_len (pa_cons (pv 7) pa_nil)) pe_int (nomark _))
    (pss_cons (ps_asg (pe_callMB (cr_hpop hu) rfl T.m_heappop (pa_cons (pv 7) pa_nil)) (pg_tup rfl (pgs_cons (pg_name (i := 10) nd rfl (Or.inl rfl)) (pgs_cons (pg_name (i := 11) nd rfl (Or.inl rfl)) (pgs_cons (pg_name (i := 12) nd rfl (Or.inl rfl)) pgs_nil)))))
  (pss_one (ps_if (pt_cmp (pc_dnotin hu (pv 11) (pv 9)))
    (pss_cons (ps_dput hu (pv 8) (pv 11) (pv 12) rfl)
  (pss_cons (ps_if (pt_cmpR op_eq (pv 11) (pv 2) (nomark _))
    (pss_one (ps_ret (pe_mm CWays__ring hr T.cl (pv 0) (pa_cons (pv 2) (pa_cons (pv 8) pa_nil)))))
    pss_nil)
  (pss_cons (ps_dput hu (pv 9) (pv 11) (pe_op op_add (pe_dget hu (pe_fld (pv 0) rfl) (pv 11) (fun _ _ => rfl)) (pv 10)) rfl)
  (pss_one (ps_for PassesOwn.never rfl (pi_list (pe_mm CWays__falls hr T.cl (pv 0) (pa_cons (pe_dget2 hu (pv 6) (pv 11) (pe_lst pa_nil) ⟨rfl, rfl, rfl, rfl⟩) (pa_cons (pv 9) pa_nil)))) (pg_name (i := 13) nd rfl (Or.inl rfl))
    (pss_one (ps_expr (pe_callMB (cr_hpush hu) rfl T.m_heappush (pa_cons (pv 7) (pa_cons (pv 13) pa_nil))))))))))
    pss_nil))))
  (pss_cons (ps_lock (ps_for PassesOwn.never rfl (pi_keys (pv 9)) (pg_name (i := 11) nd rfl (Or.inl rfl))
    (pss_one (ps_dput hu (pe_fld (pv 0) rfl) (pv 11) (pe_dget hu (pv 9) (pv 11) (fun _ _ => rfl)) rfl))))
  (pss_one (ps_ret pe_non))))))))))), ?_⟩
    obtain ⟨r0, hri, hrt⟩ := W.tup hn
    have inn := g.inn _ (List.mem_of_getElem? (row_get hn))
    generalize ex : (row ls n).x = x at *
    generalize ey : (row ls n).y = y at *
    generalize ek : (row ls n).k = kk at *
    repeat (walk_at "rd")
    refine k_dgetI hh (valV_h inn.1) ?_
    repeat (walk_at "rd")
    refine k_dgetI hh (valV_h inn.2) ?_
    repeat (walk_at "rd")
    refine iteD (fun c1 => ?_) (fun c1 => ?_)
    · repeat (walk_at "rd")
      refine k H .non h W (Keep.refl _ _) (.inl ⟨rfl, fun l hl => ?_⟩)
      rw [List.take_add_one, row_get hn] at hl
      rcases List.mem_append.mp hl with hl | hl
      · exact g.ok l hl
      · have : l = row ls n := by simpa using hl
        subst this
        unfold Holds
        rw [ex, ey, ek]; omega
    · repeat (walk_at "rd")
      refine ⟨w, dx, ah, al, tr, ks, h, ls, n, rfl, W, fun H2 ld kvs pa L kp2 nld fr => ?_⟩
      have hw2 := kp2 _ _ hw (by simp)
      repeat (walk_at "rd")
      intro t0 nt0
      repeat (walk_at "rd")
      intro q nq
      repeat (walk_at "rd")
      refine r_dnew fun ca nca => ?_
      repeat (walk_at "rd")
      refine r_dnew fun lw nlw => ?_
      repeat (walk_at "rd")
      generalize hH5 : upd (upd (upd (upd H2 t0 (.tup [.int (-(h x - h y - kk)), .int x, .int (n : Int)])) q (.lst [.ref t0])) ca (.dK [])) lw (.dK []) = H5
      have q5 : H5 q = some (.lst [.ref t0]) := by
        rw [← hH5]
        exact upd_new nlw (upd_new nca upd_same)
      have t5 : H5 t0 = some (tup3 (h y + kk - h x, x, (n : Int))) := by
        have z : H5 t0 = some (.tup [.int (-(h x - h y - kk)), .int x, .int (n : Int)]) := by
          rw [← hH5]
          exact upd_new nlw (upd_new nca (upd_new nq upd_same))
        rw [show -(h x - h y - kk) = h y + kk - h x by omega] at z
        exact z
      have ca5 : H5 ca = some (.dK []) := by
        rw [← hH5]; exact upd_new nlw upd_same
      have lw5 : H5 lw = some (.dK []) := by
        rw [← hH5]; exact upd_same
      have k25 : Keep [] H2 H5 := by
        rw [← hH5]; exact ((((Keep.refl [] H2).new nt0).new nq).new nca).new nlw
      have kp5 : Keep [] H H5 := kp2.trans k25
      have nqH : H q = none := (kp2.new nt0).none nq
      have ncaH : H ca = none := ((kp2.new nt0).new nq).none nca
      have nlwH : H lw = none := (((kp2.new nt0).new nq).new nca).none nlw
      have ne2 : ∀ a o, H2 a = some o → a ≠ q ∧ a ≠ ca ∧ a ≠ lw := fun a o e => by
        have e1 := upd_new (o := .tup [.int (-(h x - h y - kk)), .int x, .int (n : Int)]) nt0 e
        have e2 := upd_new (o := .lst [.ref t0]) nq e1
        have e3 := upd_new (o := .dK []) nca e2
        exact ⟨ne_of_none e1 nq, ne_of_none e2 nca, ne_of_none e3 nlw⟩
      have qca : q ≠ ca := ne_of q5 ca5 (by intro z; cases z)
      have qlw : q ≠ lw := ne_of q5 lw5 (by intro z; cases z)
      have calw : ca ≠ lw := by
        rintro rfl
        rw [upd_same] at nlw; cases nlw
      have ldx : ld ∉ [q, ca, lw] := by
        obtain ⟨a, b, d⟩ := ne2 _ _ L.at_
        simp [a, b, d]
      have pax : ∀ u, idx ls n u ≠ [] → pa u ∉ [q, ca, lw] := fun u hu => by
        rcases L.get u with z | ⟨_, _, z⟩
        · exact (hu z.1).elim
        · obtain ⟨a, b, d⟩ := ne2 _ _ z
          simp [a, b, d]
      have lds : leads ls n [] ≤ n := by
        unfold leads
        exact Nat.le_trans (List.length_filter_le _ _) (by rw [List.length_range]; exact Nat.le_refl _)
      have nlz := g.lz
      have nkz := g.kz
      refine ⟨fun m σ H3 => ∃ (v10 v11 v12 v13 : Option V) (rs : List Addr) (val : Addr → T3) (lo : List Int) (low : Int → Int) (c : Int → Nat),
        σ = [some (.ref w), some (.int x), some (.int y), some (.int kk), some (.int (row ls n).lab), some (.int (h x - h y - kk)), some (.ref ld), some (.ref q), some (.ref ca), some (.ref lw), v10, v11, v12, v13] ∧
        H3 q = some (.lst (rs.map V.ref)) ∧ (∀ r ∈ rs, H3 r = some (tup3 (val r))) ∧ HOrd val rs ∧ H3 ca = some (.dK (hkvs lo fun p => (c p : Int))) ∧ H3 lw = some (.dK (hkvs lo low)) ∧
        DInv ls n ks h x y kk lo low c (rs.map val) ∧ LeadAt H3 ld ls n kvs pa ∧ Keep [] H H3 ∧ m = rs.length + leads ls n lo ∧ m ≤ 1001,
        ⟨1 + leads ls n [], none, none, none, none, [t0], fun _ => (h y + kk - h x, x, (n : Int)), [], fun _ => 0, fun _ => 0, rfl, q5, fun r hr => by rw [List.mem_singleton.mp hr]; exact t5, fun i a p i0 ha _ => ?_, ca5, lw5,
          DInv.start (by omega), L.keep k25 (by simp) (by simp), kp5, rfl, by omega⟩, ?_⟩
      · have := (List.getElem?_eq_some_iff.mp ha).1
        simp at this; omega
      · rintro m σ H3 ⟨v10, v11, v12, v13, rs, val, lo, low, c, rfl, e1, e2, e3, e4, e5, D, L3, kp3, hm, hm1⟩
        have hw3 := kp3 _ _ hw (by simp)
        have hh3 := kp3 _ _ hh (by simp)
        have loz : lo.length ≤ 1000 := Nat.le_trans (sub_len D.nd D.loks) nkz
        repeat (walk_at "rd")
        refine iteD (fun c2 => ?_) (fun c2 => ?_)
        · refine ⟨_, fun _ _ z => z, ?_⟩
          repeat (walk_at "rd")
          have hne : rs ≠ [] := by
            rintro rfl
            simp at c2
          refine ⟨q, rs, val, rfl, e1, e2, hne, e3, fun r rs' pm o1 least => ?_⟩
          have hr : H3 r = some (tup3 (val r)) := e2 r (pm.mem_iff.mp List.mem_cons_self)
          have rq : r ≠ q := ne_of hr e1 (by intro z; cases z)
          have pl := pm.length_eq
          rw [List.length_cons] at pl
          have Dp : DInv ls n ks h x y kk lo low c (val r :: rs'.map val) := D.perm fun e => (pm.map val).mem_iff
          have e2' : ∀ z ∈ rs', H3 z = some (tup3 (val z)) := fun z hz => e2 z (pm.mem_iff.mp (List.mem_cons_of_mem _ hz))
          generalize hv : val r = ent at *
          obtain ⟨ch, pl0, nu⟩ := ent
          generalize hH4 : upd H3 q (.lst (rs'.map V.ref)) = H4
          have e1' : H4 q = some (.lst (rs'.map V.ref)) := by rw [← hH4]; exact upd_same
          have r4 : H4 r = some (.tup [.int ch, .int pl0, .int nu]) := by rw [← hH4]; exact upd_old rq hr
          have lw4 : H4 lw = some (.dK (hkvs lo low)) := by rw [← hH4]; exact upd_old qlw.symm e5
          have ca4 : H4 ca = some (.dK (hkvs lo fun p => (c p : Int))) := by rw [← hH4]; exact upd_old qca.symm e4
          have t4 : ∀ z ∈ rs', H4 z = some (tup3 (val z)) := fun z hz => by
            have := e2' z hz
            rw [← hH4]; exact upd_old (ne_of this e1 (by intro z; cases z)) this
          have k34 : Keep [q, ca, lw] H3 H4 := by rw [← hH4]; exact (Keep.refl _ _).upd (by simp)
          have L4 := L3.keep k34 ldx pax
          have kp4 : Keep [] H H4 := by rw [← hH4]; exact kp3.mine nqH
          have hw4 := kp4 _ _ hw (by simp)
          have hh4 := kp4 _ _ hh (by simp)
          repeat (walk_at "rd")
          refine k_dinI lw4 (show valV (hkvs lo low) (.inl pl0) = if pl0 ∈ lo then some (.int (low pl0)) else none from valV_map) ?_
          repeat (walk_at "rd")
          by_cases c3 : pl0 ∈ lo
          · rw [if_pos c3]
            refine iteF ?_
            repeat (walk_at "rd")
            exact ⟨rs'.length + leads ls n lo, by omega, _, _, _, _, rs', val, lo, low, c, rfl, e1', t4, o1, ca4, lw4, Dp.skip c3, L4, kp4, rfl, by omega⟩
          · rw [if_neg c3]
            refine iteT ?_
            obtain ⟨_, i0, hi0, _⟩ := Dp.ent _ List.mem_cons_self
            have hi0' : nu = (i0 : Int) := hi0
            have cz : (hkvs lo fun p => (c p : Int)).length < sizeLine := by
              unfold hkvs; rw [List.length_map]; exact small1000 loz
            have lz' : (hkvs lo low).length < sizeLine := by
              unfold hkvs; rw [List.length_map]; exact small1000 loz
            repeat (walk_at "rd")
            refine k_dputI ca4 cz (putK_set c3) ?_
            rw [nset_cast hi0']
            generalize hH6 : upd H4 ca (.dK (hkvs (lo ++ [pl0]) fun p => (nset c pl0 i0 p : Int))) = H6
            have ca6 : H6 ca = some (.dK (hkvs (lo ++ [pl0]) fun p => (nset c pl0 i0 p : Int))) := by rw [← hH6]; exact upd_same
            have lw6 : H6 lw = some (.dK (hkvs lo low)) := by rw [← hH6]; exact upd_old calw.symm lw4
            have e16 : H6 q = some (.lst (rs'.map V.ref)) := by rw [← hH6]; exact upd_old qca e1'
            have t6 : ∀ z ∈ rs', H6 z = some (tup3 (val z)) := fun z hz => by
              have := t4 z hz
              rw [← hH6]; exact upd_old (ne_of this ca4 (by intro z; cases z)) this
            have k46 : Keep [q, ca, lw] H4 H6 := by rw [← hH6]; exact (Keep.refl _ _).upd (by simp)
            have L6 := L4.keep k46 ldx pax
            have kp6 : Keep [] H H6 := by rw [← hH6]; exact kp4.mine ncaH
            have hw6 := kp6 _ _ hw (by simp)
            have hh6 := kp6 _ _ hh (by simp)
            repeat (walk_at "rd")
            refine iteD (fun c4 => ?_) (fun c4 => ?_)
            · obtain ⟨is, ic, rg⟩ := Dp.ring (row_get hn) ex ey ek i0 hi0 c4
              repeat (walk_at "rd")
              have W6 : WaysAt C H6 w dx ah al tr ks h ls n := ⟨hw6, hh6, kp6 _ _ hl (by simp), ht.keep kp6 (by simp), g⟩
              have ml : ∀ p, p ∈ lo ++ [pl0] ↔ p ∈ lo ∨ p = pl0 := fun p => by rw [List.mem_append, List.mem_singleton]
              refine ⟨w, dx, ah, al, ca, tr, ks, h, ls, n, y, lo ++ [pl0], nset c pl0 i0, is, rfl, W6, ca6, (by rw [c4]; exact ic), (ml _).mpr (.inr c4.symm), fun p hp hc => ?_, rg.lt, Nat.le_trans rg.len nlz, fun H7 r7 nr7 e7 kp7 => ?_⟩
              · by_cases e : p = pl0
                · subst e
                  have cn : nset c p i0 p = i0 := if_pos rfl
                  rw [cn] at hc ⊢
                  obtain ⟨_, i1, hi1, hh1⟩ := Dp.ent _ List.mem_cons_self
                  have : i1 = i0 := by rw [hi0] at hi1; exact (Int.ofNat.inj hi1).symm
                  subst this
                  rcases hh1 with ⟨u, _⟩ | ⟨l, u1, u2, u3, u4, _⟩
                  · omega
                  · rw [row_of u2]; exact (ml _).mpr (.inl u4)
                · have cn : nset c pl0 i0 p = c p := if_neg e
                  rw [cn] at hc ⊢
                  exact (ml _).mpr (.inl (D.closed p (((ml p).mp hp).resolve_right e) hc))
              · have W7 : WaysAt C H7 w dx ah al tr ks h ls n := ⟨kp7 _ _ hw6 (by simp), kp7 _ _ hh6 (by simp), kp7 _ _ W6.hl (by simp), W6.ht.keep kp7 (by simp), g⟩
                exact k H7 (.ref r7) h W7 ((kp6.trans kp7).mono (by simp)) (.inr ⟨r7, is, rfl, kp6.none nr7, e7, rg⟩)
            · repeat (walk_at "rd")
              have pk : pl0 ∈ ks := by
                obtain ⟨_, i1, _, hh1⟩ := Dp.ent _ List.mem_cons_self
                rcases hh1 with ⟨_, u, _⟩ | ⟨l, _, u, v, _⟩
                · have u' : pl0 = x := u
                  rw [u']; exact inn.1
                · have v' : l.x = pl0 := v
                  rw [← v']; exact (g.inn l (List.mem_of_getElem? u)).1
              refine k_dgetI hh6 (valV_h pk) ?_
              repeat (walk_at "rd")
              refine k_dputI lw6 lz' (putK_set c3) ?_
              have Df := Dp.fall i0 hi0 (Nat.le_of_lt hn) g.ok inn.1 g.inn (fun f hf => by
                obtain ⟨z, hz, rfl⟩ := List.mem_map.mp hf
                exact le3_fst (least z hz)) c3 c4
              simp only at Df
              generalize hlo : lo ++ [pl0] = lo' at *
              generalize hlow : fset low pl0 (h pl0 + ch) = low' at *
              generalize hc' : nset c pl0 i0 = c' at *
              generalize hH8 : upd H6 lw (.dK (hkvs lo' low')) = H8
              have lw8 : H8 lw = some (.dK (hkvs lo' low')) := by rw [← hH8]; exact upd_same
              have ca8 : H8 ca = some (.dK (hkvs lo' fun p => (c' p : Int))) := by rw [← hH8]; exact upd_old calw ca6
              have e18 : H8 q = some (.lst (rs'.map V.ref)) := by rw [← hH8]; exact upd_old qlw e16
              have t8 : ∀ z ∈ rs', H8 z = some (tup3 (val z)) := fun z hz => by
                have := t6 z hz
                rw [← hH8]; exact upd_old (ne_of this lw6 (by intro z; cases z)) this
              have k68 : Keep [q, ca, lw] H6 H8 := by rw [← hH8]; exact (Keep.refl _ _).upd (by simp)
              have L8 := L6.keep k68 ldx pax
              have kp8 : Keep [] H H8 := by rw [← hH8]; exact kp6.mine nlwH
              have hw8 := kp8 _ _ hw (by simp)
              have ld8 := L8.at_
              repeat (walk_at "rd")
              intro el nel
              have kp9 : Keep [] H (upd H8 el (.lst [])) := kp8.new nel
              have k89 : Keep [q, ca, lw] H8 (upd H8 el (.lst [])) := (Keep.refl _ _).new nel
              -- the list of the numbers that lead out of the place
              obtain ⟨pn, hpn, hget⟩ : ∃ pn, upd H8 el (.lst []) pn = some (.lst ((idx ls n pl0).map fun (j : Nat) => V.int (j : Int))) ∧ (valV kvs (.inl pl0)).getD (.ref el) = .ref pn := by
                rcases L8.get pl0 with ⟨a1, a2⟩ | ⟨a1, a2, a3⟩
                · exact ⟨el, by rw [a1]; exact upd_same, by rw [a2]; rfl⟩
                · exact ⟨pa pl0, upd_new nel a3, by rw [a2]; rfl⟩
              refine k_get3I (upd_new nel ld8) rfl ?_
              rw [hget]
              have L9 := L8.keep k89 ldx pax
              have e19 : upd H8 el (.lst []) q = _ := upd_new nel e18
              have ca9 : upd H8 el (.lst []) ca = _ := upd_new nel ca8
              have lw9 : upd H8 el (.lst []) lw = _ := upd_new nel lw8
              have t9 : ∀ z ∈ rs', upd H8 el (.lst []) z = some (tup3 (val z)) := fun z hz => upd_new nel (t8 z hz)
              have hw9 := kp9 _ _ hw (by simp)
              generalize upd H8 el (.lst []) = H9 at *
              have W9 : WaysAt C H9 w dx ah al tr ks h ls n := ⟨hw9, kp9 _ _ hh (by simp), kp9 _ _ hl (by simp), ht.keep kp9 (by simp), g⟩
              have plo : pl0 ∈ lo' := by rw [← hlo]; simp
              have ixl : (idx ls n pl0).length ≤ 1000 := by
                unfold idx
                exact Nat.le_trans (List.length_filter_le _ _) (by rw [List.length_range]; omega)
              have hlf := leads_fall (ls := ls) (n := n) c3
              rw [hlo] at hlf
              repeat (walk_at "rd")
              refine ⟨w, dx, ah, al, pn, lw, tr, ks, h, ls, n, idx ls n pl0, lo', low', rfl, W9, hpn, lw9, fun j hj => ?_, ixl, fun H10 fr2 fs nfr e10 ts kp10 => ?_⟩
              · obtain ⟨j1, j2⟩ := mem_idx.mp hj
                exact ⟨by omega, by rw [j2]; exact plo⟩
              · have fl := falls_len (ls := ls) (h := h) (low := low') (lo := lo') (idx ls n pl0)
                have fsl := ts.1
                have kpA : Keep [] H H10 := kp9.trans kp10
                have k90 : Keep [q, ca, lw] H9 H10 := kp10.mono (by simp)
                have L10 := L9.keep k90 ldx pax
                have frq : fr2 ≠ q := (ne_of_none e19 nfr).symm
                refine k_forL (SqL.of e10) (fun j σ H3 => ∃ (v13 : Option V) (rs2 : List Addr) (val2 : Addr → T3),
                  σ = [some (.ref w), some (.int x), some (.int y), some (.int kk), some (.int (row ls n).lab), some (.int (h x - h y - kk)), some (.ref ld), some (.ref q), some (.ref ca), some (.ref lw), some (.int ch), some (.int pl0), some (.int nu), v13] ∧
                  H3 q = some (.lst (rs2.map V.ref)) ∧ (∀ r ∈ rs2, H3 r = some (tup3 (val2 r))) ∧ HOrd val2 rs2 ∧ List.Perm (rs2.map val2) (rs'.map val ++ (fallsOf ls h lo' low' (idx ls n pl0)).take j) ∧ Keep [q] H10 H3)
                  ⟨v13, rs', val, rfl, kp10 _ _ e19 (by simp), fun z hz => kp10 _ _ (t9 z hz) (by simp), o1, by simp, Keep.refl _ _⟩ (fun j σ H3 _ ⟨_, _, _, _, _, _, _, _, kq⟩ => SqL.of (kq _ _ e10 (by simpa using frq))) ?_ ?_
                · rintro j v σ H3 hj ⟨v13', rs2, val2, rfl, f1, f2, f3, f4, kq⟩
                  obtain ⟨p, rfl, hp⟩ : ∃ p, v = V.ref p ∧ fs[j]? = some p := by
                    rw [List.getElem?_map] at hj
                    cases e : fs[j]? with
                    | none => rw [e] at hj; cases hj
                    | some z => rw [e] at hj; exact ⟨z, (Option.some.inj hj).symm, rfl⟩
                  have jl := (List.getElem?_eq_some_iff.mp hp).1
                  have hj2 : (fallsOf ls h lo' low' (idx ls n pl0))[j]? = some ((fallsOf ls h lo' low' (idx ls n pl0))[j]'(by omega)) := List.getElem?_eq_getElem _
                  have pc0 := ts.2 j p _ hp hj2
                  have pq : p ≠ q := ne_of (kp10 _ _ e19 (by simp) |> fun _ => pc0) (kp10 _ _ e19 (by simp)) (by intro z; cases z)
                  have pc := kq _ _ pc0 (by simpa using pq)
                  generalize (fallsOf ls h lo' low' (idx ls n pl0))[j]'(by omega) = ent at *
                  have same : ∀ z ∈ rs2, val2 z = (if z = p then ent else val2 z) := fun z hz => by
                    split
                    · rename_i e
                      have := f2 z hz
                      rw [e, pc] at this
                      rw [e]
                      exact (tup3_inj (Option.some.inj this)).symm
                    · rfl
                  have len2 := f4.length_eq
                  rw [List.length_map, List.length_append, List.length_map, List.length_take] at len2
                  repeat (walk_at "rd")
                  refine ⟨q, p, rs2, fun z => if z = p then ent else val2 z, rfl, f1, fun z hz => by
                    show H3 z = some (tup3 (if z = p then ent else val2 z))
                    rw [← same z hz]; exact f2 z hz, by
                    show H3 p = some (tup3 (if p = p then ent else val2 p))
                    rw [if_pos rfl]; exact pc, f3.congr same, small1000 (by omega), fun rs3 pm3 o3 => ?_⟩
                  have f2' : ∀ z ∈ rs3, H3 z = some (tup3 (if z = p then ent else val2 z)) := fun z hz => by
                    rcases List.mem_cons.mp (pm3.mem_iff.mp hz) with rfl | hz
                    · rw [if_pos rfl]; exact pc
                    · rw [← same z hz]; exact f2 z hz
                  refine ⟨_, rs3, fun z => if z = p then ent else val2 z, rfl, upd_same, fun z hz => upd_old (ne_of (f2' z hz) f1 (by intro z; cases z)) (f2' z hz), o3, ?_, kq.upd (by simp)⟩
                  have p1 := pm3.map (fun z => if z = p then ent else val2 z)
                  rw [List.map_cons, if_pos rfl, ← List.map_congr_left same] at p1
                  rw [List.take_add_one, hj2]
                  refine p1.trans ((f4.cons ent).trans ?_)
                  rw [← List.append_assoc]
                  exact (List.perm_append_singleton ent _).symm
                · rintro σ H3 ⟨v13', rs2, val2, rfl, f1, f2, f3, f4, kq⟩
                  rw [List.length_map, fsl, List.take_length] at f4
                  have len2 := f4.length_eq
                  rw [List.length_map, List.length_append, List.length_map] at len2
                  have kq3 : Keep [q, ca, lw] H10 H3 := kq.mono (by simp)
                  refine ⟨rs2.length + leads ls n lo', by omega, _, _, _, _, rs2, val2, lo', low', c', rfl, f1, f2, f3, kq _ _ (kp10 _ _ ca9 (by simp)) (by simpa using qca.symm), kq _ _ (kp10 _ _ lw9 (by simp)) (by simpa using qlw.symm),
                    Df.perm fun e => f4.mem_iff, L10.keep kq3 ldx pax, fun a o e _ => kq a o (kpA a o e (by simp)) (by simpa using ne_of_none e nqH), rfl, by omega⟩
        · have rs0 : rs = [] := by
            cases rs with
            | nil => rfl
            | cons a b =>
              exfalso
              apply c2
              simp only [List.map_cons, List.length_cons]
              omega
          subst rs0
          have hx3 : ∀ l ∈ ls.take (n + 1), Holds (lowered h lo low) l := DInv.done D hn (row_get hn) ex ey ek g.ok
          repeat (walk_at "rd")
          refine k_lock e5 fun od => ?_
          have lwah : lw ≠ ah := (ne_of_none hh nlwH).symm
          have wah : w ≠ ah := ne_of hw hh (by intro z; cases z)
          have alah : al ≠ ah := ne_of hl hh (by intro z; cases z)
          have wlw : w ≠ lw := ne_of_none hw nlwH
          have kp4 : Keep [] H (upd H3 lw (.frz od (.dK (hkvs lo low)))) := kp3.mine nlwH
          have lw4 : upd H3 lw (.frz od (.dK (hkvs lo low))) lw = some (.frz od (.dK (hkvs lo low))) := upd_same
          generalize upd H3 lw (.frz od (.dK (hkvs lo low))) = H4 at kp4 lw4 ⊢
          have hw4 := kp4 _ _ hw (by simp)
          have hh4 := kp4 _ _ hh (by simp)
          repeat (walk_at "rd")
          refine k_forK lw4 (fun j σ H5 => ∃ v11' : Option V, σ = [some (.ref w), some (.int x), some (.int y), some (.int kk), some (.int (row ls n).lab), some (.int (h x - h y - kk)), some (.ref ld), some (.ref q), some (.ref ca), some (.ref lw), v10, v11', v12, v13] ∧
            H5 ah = some (.dK (hkvs ks (lowered h (lo.take j) low))) ∧ Keep [ah] H4 H5) ⟨_, rfl, ?_, Keep.refl _ _⟩ (fun j σ H5 _ ⟨_, _, _, kq⟩ => kq _ _ lw4 (by simpa using lwah)) ?_ ?_
          · have : lowered h (lo.take 0) low = h := by
              funext p
              simp [lowered]
            rw [this]; exact hh4
          · rintro j k0 v0 σ H5 hj ⟨v11', rfl, f1, kq⟩
            obtain ⟨p, hp, rfl, rfl⟩ : ∃ p, lo[j]? = some p ∧ k0 = Sum.inl p ∧ v0 = V.int (low p) := by
              unfold hkvs at hj
              rw [List.getElem?_map] at hj
              cases e : lo[j]? with
              | none => rw [e] at hj; cases hj
              | some z =>
                rw [e] at hj
                have := Option.some.inj hj
                exact ⟨z, rfl, (congrArg Prod.fst this).symm, (congrArg Prod.snd this).symm⟩
            have hw5 := kq _ _ hw4 (by simpa using wah)
            have lw5' := kq _ _ lw4 (by simpa using lwah)
            have pm := List.mem_of_getElem? hp
            show gName 11 (.int p) _ _ _
            repeat (walk_at "rd")
            refine k_dgetIz lw5' (valV_h pm) ?_
            repeat (walk_at "rd")
            have kz2 : (hkvs ks (lowered h (lo.take j) low)).length < sizeLine := by
              unfold hkvs; rw [List.length_map]; exact small1000 nkz
            have hst : lo.take (j + 1) = lo.take j ++ [p] := by rw [List.take_add_one, hp]; rfl
            have pnew : lowered h (lo.take (j + 1)) low p = low p := if_pos (by rw [hst]; simp)
            have e := putK_map (f := fun q => V.int (lowered h (lo.take j) low q)) (g := fun q => V.int (lowered h (lo.take (j + 1)) low q)) (D.loks p pm) (fun q hq => by
              show V.int (lowered h (lo.take j) low q) = V.int (lowered h (lo.take (j + 1)) low q)
              unfold lowered
              rw [hst]
              by_cases m : q ∈ lo.take j
              · rw [if_pos m, if_pos (List.mem_append_left _ m)]
              · rw [if_neg m, if_neg (fun z => (List.mem_append.mp z).elim m fun z => hq (List.mem_singleton.mp z))])
            simp only [pnew] at e
            refine k_dputI f1 kz2 e ?_
            exact ⟨_, rfl, upd_same, kq.upd (by simp)⟩
          · rintro σ H5 ⟨v11', rfl, f1, kq⟩
            have le : (hkvs lo low).length = lo.length := by unfold hkvs; rw [List.length_map]
            rw [le, List.take_length] at f1
            refine ⟨kq _ _ lw4 (by simpa using lwah), ?_⟩
            repeat (walk_at "rd")
            have kF : Keep [ah] H (upd H5 lw (.dK (hkvs lo low))) := fun a o e na => upd_old (ne_of_none e nlwH) (kq a o (kp4 a o e (by simp)) na)
            refine k _ .non (lowered h lo low) ⟨kF _ _ hw (by simpa using wah), upd_old lwah.symm f1, kF _ _ hl (by simpa using alah), ht.keep kF (by
              intro a ha o e l z
              subst z
              rw [List.mem_singleton.mp ha, hh] at e; cases e), ⟨g.nd, g.z, fun p hp => ?_, g.inn, g.le, fun l hl => hx3 l ((List.take_subset_take_left ls (Nat.le_succ n)) hl), g.lz, g.kz⟩⟩ kF (.inl ⟨rfl, hx3⟩)
            have : p ∉ lo := fun m => hp (D.loks p m)
            show lowered h lo low p = 0
            rw [show lowered h lo low p = h p from if_neg this]
            exact g.out p hp
abbrev st_Ways_settle : Stmt := inClass (topS 2) 5
abbrev N_Ways_settle : List Str := ["self", "ring"]
theorem sc_Ways_settle : FnScope N_Ways_settle ["self"] (defScope st_Ways_settle) := ⟨rfl, rfl, rfl, by decide +kernel, rfl, by decide +kernel, by decide +kernel⟩

theorem ok_settle {f C fN : Addr} {fd fdN : FuncData} (F : Fun K "settle" "Ways.settle" st_Ways_settle f fd) (T : Txt K mg C)
    (CWays__settle_next : CalM P wd K mg base 2 C "_settle_next" fN fdN ["self"] (spNext C)) : FnOk P wd K mg base CX0 3 f fd ["self"] (spSettle C) := by
  refine F.ok sc_Ways_settle (fun vs H Q E h => ?_) (fun cdv A outer s H vs Q E hr h => ?_)
  · obtain ⟨w, dx, ah, al, tr, ks, h, ls, n, rfl, _⟩ := h
    rfl
  · obtain ⟨w, dx, ah, al, tr, ks, h, ls, n, rfl, W, k⟩ := h
    have hu := hu_of hr
    have nd := sc_Ways_settle.nd
    obtain ⟨cl, nH, nL, nS, _⟩ := id T
    refine ⟨_, (pss_cons (ps_while PassesOwn.never (pt_cmpR op_lt (pe_fld (pv 0) rfl) (pe_callB call_len_seq (by rfl) T.b_len PySem.boot_len (pa_cons (pe_fld (pv 0) rfl) pa_nil)) (nomark _))
    (pss_cons (ps_set (i := 1) nd rfl (Or.inl rfl) (pe_mm0 CWays__settle_next hr T.cl (pv 0)))
  (pss_cons (ps_if (pt_cmp (pc_notN (pv 1)))
    (pss_one (ps_ret (pv 1)))
    pss_nil)
  (pss_one (ps_fldaug (pv 0) pe_int in_add)))))
  (pss_one (ps_ret pe_non))), ?_⟩
    repeat (walk_at "rd")
    refine ⟨fun m σ H2 => ∃ (v1 : Option V) (h2 : Int → Int) (n2 : Nat), σ = [some (.ref w), v1] ∧ WaysAt C H2 w dx ah al tr ks h2 ls n2 ∧ Keep [w, ah] H H2 ∧ m = ls.length - n2, ⟨_, none, h, n, rfl, W, Keep.refl _ _, rfl⟩, ?_⟩
    rintro m σ H2 ⟨v1, h2, n2, rfl, W2, kp, rfl⟩
    obtain ⟨hw, hh, hl, ht, g⟩ := id W2
    repeat (walk_at "rd")
    rw [List.length_map, ht.1]
    refine iteD (fun c1 => ?_) (fun c1 => ?_)
    · have n2l : n2 < ls.length := by omega
      refine ⟨_, fun _ _ z => z, ?_⟩
      repeat (walk_at "rd")
      refine ⟨w, dx, ah, al, tr, ks, h2, ls, n2, rfl, W2, n2l, fun H3 v h3 W3 kp3 hv => ?_⟩
      have kp3' : Keep [w, ah] H H3 := kp.trans (kp3.mono (by simp))
      have hw3 := W3.hw
      rcases hv with ⟨rfl, hh3⟩ | ⟨r, is, rfl, tnr, tr7, rg⟩
      · repeat (walk_at "rd")
        refine iteNS rfl ?_
        repeat (walk_at "rd")
        refine ⟨dx, _, hw3, by show 3 < 1000; decide, ?_⟩
        have g3 := W3.good
        have wah : w ≠ ah := ne_of hw hh (by intro z; cases z)
        have wal : w ≠ al := ne_of hw hl (by intro z; cases z)
        refine ⟨ls.length - (n2 + 1), by omega, some .non, h3, n2 + 1, rfl, ⟨upd_same, upd_old wah.symm W3.hh, upd_old wal.symm W3.hl, W3.ht.keep (ex := [w]) ((Keep.refl _ _).upd (by simp)) ?_, ⟨g3.nd, g3.z, g3.out, g3.inn, n2l, hh3, g3.lz, g3.kz⟩⟩, kp3'.upd (by simp), rfl⟩
        intro a ha o e l z
        subst z
        rw [List.mem_singleton.mp ha, hw3] at e; cases e
      · repeat (walk_at "rd")
        refine iteT ?_
        repeat (walk_at "rd")
        refine k H3 (.ref r) h3 n2 W3 kp3' (.inr ⟨r, is, rfl, kp.back (fun c hc => ?_) tnr, tr7, rg⟩)
        rcases List.mem_cons.mp hc with rfl | hc
        · exact ⟨_, hw⟩
        · rw [List.mem_singleton.mp hc]; exact ⟨_, hh⟩
    · repeat (walk_at "rd")
      refine k H2 .non h2 n2 W2 kp (.inl ⟨rfl, ?_⟩)
      have := g.le
      omega
end
end L2.K44
end P_K44h
section P_K44i
namespace L2.K44
open PySem PySem.Spec PyProof.Rows L2.KB
/-! ### the law's draws -/
def poolO (c k : Int) (b : Bool) (s : Int) : HO := .lst [.int c, .int k, .bl b, .int s]
def isPool (o : HO) : Prop := ∃ c k b s, o = poolO c k b s
def PoolAt (H : Hp) (p : Addr) : Prop := ∃ c k b s, H p = some (poolO c k b s)
/-- all but what F names, and pools, is as it was -/
def Fr (F : List Addr) (H H' : Hp) : Prop := ∀ c o, H c = some o → c ∉ F → ¬ isPool o → H' c = some o
theorem Fr.refl (F : List Addr) (H : Hp) : Fr F H H := fun _ _ e _ _ => e
theorem Fr.trans {F : List Addr} {H H1 H2 : Hp} (a : Fr F H H1) (b : Fr F H1 H2) : Fr F H H2 := fun c o e n p => b c o (a c o e n p) n p
theorem Fr.mono {F G : List Addr} {H H' : Hp} (k : Fr F H H') (h : ∀ c ∈ F, c ∈ G) : Fr G H H' := fun c o e n p => k c o e (fun m => n (h c m)) p
theorem Fr.of {F : List Addr} {H H' : Hp} (k : Keep F H H') : Fr F H H' := fun c o e n _ => k c o e n
theorem Fr.new {F : List Addr} {H H' : Hp} {p : Addr} {o : HO} (k : Fr F H H') (np : H' p = none) : Fr F H (upd H' p o) := fun c u e n i => upd_new np (k c u e n i)
theorem Fr.upd {F : List Addr} {H H' : Hp} {p : Addr} {o : HO} (k : Fr F H H') (m : p ∈ F) : Fr F H (upd H' p o) := fun c u e n i => upd_old (fun z => n (z ▸ m)) (k c u e n i)
theorem Fr.mine {F : List Addr} {H H' : Hp} {p : Addr} {o : HO} (k : Fr F H H') (np : H p = none) : Fr F H (L2.upd H' p o) := fun c u e n i => upd_old (ne_of_none e np) (k c u e n i)
theorem noPool_dK {kvs : List (Key × V)} : ¬ isPool (.dK kvs) := fun ⟨_, _, _, _, e⟩ => by cases e
theorem noPool_ins {C dx : Addr} {fs : List (Str × V)} : ¬ isPool (.ins C dx fs) := fun ⟨_, _, _, _, e⟩ => by cases e
theorem noPool_tup {xs : List V} : ¬ isPool (.tup xs) := fun ⟨_, _, _, _, e⟩ => by cases e
theorem noPool_refs {rs : List Addr} : ¬ isPool (.lst (rs.map V.ref)) := fun ⟨c, k, b, s, e⟩ => by
  injection e with e
  cases rs with
  | nil => cases e
  | cons r rs => rw [List.map_cons] at e; injection e with e _; cases e
theorem noPool_ints {ns : List Int} : ¬ isPool (.lst (ns.map V.int)) := fun ⟨c, k, b, s, e⟩ => by
  injection e with e
  have h2 := congrArg (fun l : List V => l[2]?) e
  simp only [List.getElem?_map] at h2
  cases h3 : ns[2]? with
  | none => rw [h3] at h2; cases h2
  | some z => rw [h3] at h2; cases h2
def spPool (K : PySem.W.Frag) : Sp := fun vs H Q _ => ∃ (a : Addr) (ns : List Int) (k : Nat), vs = [.ref a, .int (k : Int)] ∧ SqL K H a (ns.map V.int) ∧ ∀ p c b s, H p = none → Q (.ref p) (upd H p (poolO c 0 b s))
def spTake : Sp := fun vs H Q _ => ∃ (p : Addr) (n : Int), vs = [.ref p, .int n] ∧ PoolAt H p ∧ 0 < n ∧ n ≤ 1000000 ∧ ∀ (r : Int) (H' : Hp), 0 ≤ r → r < n → PoolAt H' p → Keep [p] H H' → Q (.int r) H'
def spWhole : Sp := fun vs H Q _ => ∃ z : Int, vs = [.int z] ∧ Q (.bl true) H
/-- the two ints of a pair that stands in the heap -/
def pairK (H : Hp) (y : V) : Int × Int := match y with
  | .ref t => (match H t with | some (.tup [.int a, .int b]) => (a, b) | _ => ((0 : Int), (0 : Int)))
  | _ => (0, 0)
def spMixed : Sp := fun vs H Q _ => ∃ (p a : Addr) (ps : List Int), vs = [.ref p, .ref a] ∧ PoolAt H p ∧ H a = some (.lst (ps.map V.int)) ∧ ps.length ≤ 1000 ∧
  ∀ (H' : Hp) (r : Addr) (qs : List Int), qs.Perm ps → PoolAt H' p → Keep [p] H H' → H r = none → H' r = some (.lst (qs.map V.int)) → Q (.ref r) H'
section
variable {P : Program} {wd : World} {K : PySem.W.Frag} {mg : Str → Option Value} {base : Heap}
abbrev st__law_pool : Stmt := topS 4
abbrev N__law_pool : List Str := ["script", "k", "cell", "spare"]
theorem sc__law_pool : FnScope N__law_pool ["script", "k"] (defScope st__law_pool) := ⟨rfl, rfl, rfl, by decide +kernel, rfl, by decide +kernel, by decide +kernel⟩

theorem ok_pool {f C : Addr} {fd : FuncData} (F : Fun K "_law_pool" "_law_pool" st__law_pool f fd) (T : Txt K mg C) : FnOk P wd K mg base CX0 1 f fd ["script", "k"] (spPool K) := by
  refine F.ok sc__law_pool (fun vs H Q E h => ?_) (fun cdv A outer s H vs Q E hr h => ?_)
  · obtain ⟨a, ns, k, rfl, _⟩ := h
    rfl
  · obtain ⟨a, ns, kk, rfl, hS, k⟩ := h
    have hu := hu_of hr
    have nd := sc__law_pool.nd
    refine ⟨_, (pss_cons (ps_set (i := 2) nd rfl (Or.inl rfl) (pe_op op_add (pe_op op_mul pe_int (pv 1)) pe_int))
  (pss_cons (ps_set (i := 3) nd rfl (Or.inl rfl) (pe_op op_add (pe_op op_mul pe_int (pv 1)) pe_int))
  (pss_cons (ps_if (pt_cmpR op_lt (pv 1) (pe_callB call_len_seq (by rfl) T.b_len PySem.boot_len (pa_cons (pv 0) pa_nil)) (nomark _))
    (pss_one (ps_set (i := 2) nd rfl (Or.inl rfl) (pe_ix ix_list (pv 0) (pv 1) (fun _ _ => rfl))))
    pss_nil)
  (pss_cons (ps_if (pt_cmpR op_lt (pe_op op_add (pv 1) pe_int) (pe_callB call_len_seq (by rfl) T.b_len PySem.boot_len (pa_cons (pv 0) pa_nil)) (nomark _))
    (pss_one (ps_set (i := 3) nd rfl (Or.inl rfl) (pe_ix ix_list (pv 0) (pe_op op_add (pv 1) pe_int) (fun _ _ => rfl))))
    pss_nil)
  (pss_one (ps_ret (pe_lst (pa_cons (pv 2) (pa_cons pe_int (pa_cons (pe_cmpR op_ge (pv 2) (pe_op op_pow pe_int pe_int) (nomark _)) (pa_cons (pv 3) pa_nil))))))))))), ?_⟩
    repeat (walk_at "rd")
    have at0 : (kk : Int) < ((ns.map V.int).length : Int) → ∃ z, atI (ns.map V.int) (kk : Int) = some (.int z) := fun h => by
      rw [List.length_map] at h
      have h' : kk < ns.length := by omega
      exact ⟨ns[kk], atI_nat (by rw [List.getElem?_map, List.getElem?_eq_getElem h']; rfl)⟩
    have at1 : (kk : Int) + 1 < ((ns.map V.int).length : Int) → ∃ z, atI (ns.map V.int) ((kk : Int) + 1) = some (.int z) := fun h => by
      rw [List.length_map] at h
      have h' : kk + 1 < ns.length := by omega
      exact ⟨ns[kk + 1], at_of (j := kk + 1) (by omega) (by rw [List.getElem?_map, List.getElem?_eq_getElem h']; rfl)⟩
    refine iteD (fun c1 => ?_) (fun c1 => ?_)
    · obtain ⟨z, hz⟩ := at0 c1
      repeat (walk_at "rd")
      refine iteD (fun c2 => ?_) (fun c2 => ?_)
      · obtain ⟨z2, hz2⟩ := at1 c2
        repeat (walk_at "rd")
        exact fun p np => k p _ _ _ np
      · repeat (walk_at "rd")
        exact fun p np => k p _ _ _ np
    · repeat (walk_at "rd")
      refine iteD (fun c2 => ?_) (fun c2 => ?_)
      · obtain ⟨z2, hz2⟩ := at1 c2
        repeat (walk_at "rd")
        exact fun p np => k p _ _ _ np
      · repeat (walk_at "rd")
        exact fun p np => k p _ _ _ np
abbrev st__law_take : Stmt := topS 5
abbrev N__law_take : List Str := ["pool", "size", "k", "cell", "mixed"]
theorem sc__law_take : FnScope N__law_take ["pool", "size"] (defScope st__law_take) := ⟨rfl, rfl, rfl, by decide +kernel, rfl, by decide +kernel, by decide +kernel⟩

theorem ok_take {f C : Addr} {fd : FuncData} (F : Fun K "_law_take" "_law_take" st__law_take f fd) (T : Txt K mg C) : FnOk P wd K mg base CX0 1 f fd ["pool", "size"] spTake := by
  refine F.ok sc__law_take (fun vs H Q E h => ?_) (fun cdv A outer s H vs Q E hr h => ?_)
  · obtain ⟨p, n, rfl, _⟩ := h
    rfl
  · obtain ⟨p, n, rfl, ⟨c, kk, b, sp, hp⟩, n0, n1, k⟩ := h
    have hu := hu_of hr
    have nd := sc__law_take.nd
    have hp0 : H p = some (.lst [.int c, .int kk, .bl b, .int sp]) := hp
    refine ⟨_, (pss_cons (ps_set (i := 2) nd rfl (Or.inl rfl) (pe_ix ix_list (pv 0) pe_int (fun _ _ => rfl)))
  (pss_cons (ps_asg (pe_op op_add (pv 2) pe_int) (pg_sub (pv 0) pe_int set_list))
  (pss_cons (ps_set (i := 3) nd rfl (Or.inl rfl) (pe_ix ix_list (pv 0) pe_int (fun _ _ => rfl)))
  (pss_cons (ps_if (PW.pt (pw_and (pt_val (pe_ix ix_list (pv 0) pe_int (fun _ _ => rfl))) (pw_and1 (pt_cmpR op_gt (pv 3) pe_int (nomark _)))))
    (pss_cons (ps_asg (pe_op op_fdivW (pv 3) (pv 1)) (pg_sub (pv 0) pe_int set_list))
  (pss_one (ps_ret (pe_op op_mod (pe_callTy call_int1 (by rfl) T.b_int PyProof.Rows.boot_int (pa_cons (pv 3) pa_nil)) (pv 1)))))
    pss_nil)
  (pss_cons (ps_if (pt_val (pe_ix ix_list (pv 0) pe_int (fun _ _ => rfl)))
    (pss_one (ps_set (i := 3) nd rfl (Or.inl rfl) (pe_ix ix_list (pv 0) pe_int (fun _ _ => rfl))))
    pss_nil)
  (pss_cons (ps_set (i := 4) nd rfl (Or.inl rfl) (pe_op op_mod (pe_callTy call_int1 (by rfl) T.b_int PyProof.Rows.boot_int (pa_cons (pe_op op_add (pe_op op_add (pv 3) (pe_op op_mul pe_int (pv 2))) pe_int) pa_nil)) pe_int))
  (pss_cons (ps_set (i := 4) nd rfl (Or.inl rfl) (pe_op op_mod (pe_callTy call_int1 (by rfl) T.b_int PyProof.Rows.boot_int (pa_cons (pe_op op_mul (pv 4) (pe_op op_add (pv 4) pe_int)) pa_nil)) pe_int))
  (pss_cons (ps_set (i := 4) nd rfl (Or.inl rfl) (pe_op op_mod (pe_callTy call_int1 (by rfl) T.b_int PyProof.Rows.boot_int (pa_cons (pe_op op_add (pe_op op_mul (pv 4) (pe_op op_add (pv 4) pe_int)) (pe_op op_mul pe_int (pv 2))) pa_nil)) pe_int))
  (pss_one (ps_ret (pe_op op_mod (pe_callTy call_int1 (by rfl) T.b_int PyProof.Rows.boot_int (pa_cons (pe_op op_fdiv (pv 4) pe_int) pa_nil)) (pv 1)))))))))))), ?_⟩
    have fin : ∀ (x : Int) (c' k' : Int) (H' : Hp), H' = upd (upd H p (.lst [.int c, .int k', .bl b, .int sp])) p (.lst [.int c', .int k', .bl b, .int sp]) ∨ H' = upd H p (.lst [.int c', .int k', .bl b, .int sp]) → Q (.int (x % n)) H' := fun x c' k' H' e => by
      refine k _ H' (Int.emod_nonneg _ (by omega)) (Int.emod_lt_of_pos _ n0) ⟨c', k', b, sp, ?_⟩ ?_
      · rcases e with rfl | rfl <;> exact upd_same
      · rcases e with rfl | rfl
        · exact ((Keep.refl _ _).upd (by simp)).upd (by simp)
        · exact (Keep.refl _ _).upd (by simp)
    repeat (walk_at "rd")
    cases b with
    | true =>
      refine iteT ?_
      repeat (walk_at "rd")
      refine iteD (fun c1 => ?_) (fun c1 => ?_)
      · repeat (walk_at "rd")
        refine r_I (wide_div n0 (b := 30) (by have : (2 : Nat) ^ 30 = 1073741824 := by decide
                                              omega) (by decide) (by decide)) ?_
        repeat (walk_at "rd")
        exact fin _ _ _ _ (.inl rfl)
      · repeat (walk_at "rd")
        refine iteT ?_
        repeat (walk_at "rd")
        exact fin _ _ _ _ (.inr rfl)
    | false =>
      refine iteF ?_
      repeat (walk_at "rd")
      refine iteF ?_
      repeat (walk_at "rd")
      refine iteF ?_
      repeat (walk_at "rd")
      exact fin _ _ _ _ (.inr rfl)
abbrev st__law_whole : Stmt := topS 7
abbrev N__law_whole : List Str := ["value"]
theorem sc__law_whole : FnScope N__law_whole ["value"] (defScope st__law_whole) := ⟨rfl, rfl, rfl, by decide +kernel, rfl, by decide +kernel, by decide +kernel⟩

theorem ok_whole {f C : Addr} {fd : FuncData} (F : Fun K "_law_whole" "_law_whole" st__law_whole f fd) (T : Txt K mg C) : FnOk P wd K mg base CX0 1 f fd ["value"] spWhole := by
  refine F.ok sc__law_whole (fun vs H Q E h => ?_) (fun cdv A outer s H vs Q E hr h => ?_)
  · obtain ⟨z, rfl, _⟩ := h
    rfl
  · obtain ⟨z, rfl, k⟩ := h
    have hu := hu_of hr
    have nd := sc__law_whole.nd
    refine ⟨_, (pss_one (ps_ret (pe_and (pe_callB call_isi (by rfl) T.b_isinstance boot_isinstance (pa_cons (pv 0) (pa_cons (pe_bltn (v := .ty "int") rfl T.b_int boot_int rfl) pa_nil))) (pe_one (pe_not (pe_callB call_isi (by rfl) T.b_isinstance boot_isinstance (pa_cons (pv 0) (pa_cons (pe_bltn (v := .ty "bool") rfl T.b_bool boot_bool rfl) pa_nil)))))))), ?_⟩
    repeat (walk_at "rd")
    refine k_isi (.base (.int z)) (by decide +kernel : kitB "int" "int" = some true) ?_
    repeat (walk_at "rd")
    refine iteT ?_
    repeat (walk_at "rd")
    refine k_isi (.base (.int z)) (by decide +kernel : kitB "int" "bool" = some false) ?_
    repeat (walk_at "rd")
    exact k
abbrev st__law_mixed : Stmt := topS 6
abbrev N__law_mixed : List Str := ["pool", "row", "turn", "pairs", "pair", "k"]
theorem sc__law_mixed : FnScope N__law_mixed ["pool", "row"] (defScope st__law_mixed) := ⟨rfl, rfl, rfl, by decide +kernel, rfl, by decide +kernel, by decide +kernel⟩

theorem ok_mixed {f C fT : Addr} {fd fdT : FuncData} (F : Fun K "_law_mixed" "_law_mixed" st__law_mixed f fd) (T : Txt K mg C) (C_law_take : Cal P wd K mg base 1 "_law_take" fT fdT ["pool", "size"] spTake) : FnOk P wd K mg base CX0 2 f fd ["pool", "row"] spMixed := by
  refine F.ok sc__law_mixed (fun vs H Q E h => ?_) (fun cdv A outer s H vs Q E hr h => ?_)
  · obtain ⟨p, a, ps, rfl, _⟩ := h
    rfl
  · obtain ⟨p, a, ps, rfl, hp, ha, pz, k⟩ := h
    have hu := hu_of hr
    have nd := sc__law_mixed.nd
    refine ⟨_, (pss_cons (ps_set (i := 2) nd rfl (Or.inr rfl) (pe_op op_add pe_int (pe_f C_law_take hr (pa_cons (pv 0) (pa_cons pe_int pa_nil)))))
  (pss_cons (ps_set (i := 3) nd rfl (Or.inl rfl) (pe_callB cr_sortedPO (by rfl) T.b_sorted boot_sorted (pa_cons (by refine' pe_lc (own := [("k", 5)]) (tt := tYes) rfl nd (pi_range1 rfl T.b_range (pa_cons (pe_callB call_len_seq (by rfl) T.b_len PySem.boot_len (pa_cons (pv 1) pa_nil)) pa_nil)) (blkOk_by (N := N__law_mixed) (sc := defScope st__law_mixed) (by decide +kernel)) (fun _ _ _ _ _ => (pg_name (i := 5) nd rfl (Or.inl rfl))) ?ht ?he; (case ht => exact (fun _ _ _ _ _ => pts_nil)); (case he => exact (fun _ _ _ _ _ => (pe_tup (pa_cons (pe_op op_mod (pe_callTy call_int1 (by rfl) T.b_int PyProof.Rows.boot_int (pa_cons (pe_op op_mul (pe_op op_add (pv 5) pe_int) (pv 2)) pa_nil)) pe_int) (pa_cons (pv 5) pa_nil)))))) pa_nil)))
  (pss_one (ps_ret (by refine' pe_lc (own := [("pair", 4)]) (tt := tYes) rfl nd (pi_list (pv 3)) (blkOk_by (N := N__law_mixed) (sc := defScope st__law_mixed) (by decide +kernel)) (fun _ _ _ _ _ => (pg_name (i := 4) nd rfl (Or.inl rfl))) ?ht ?he; (case ht => exact (fun _ _ _ _ _ => pts_nil)); (case he => exact (fun _ _ _ _ _ => (pe_ix (ixL K rfl) (pv 1) (pe_ix (ixT K rfl) (pv 4) pe_int (fun _ _ => rfl)) (fun _ _ => rfl))))))))), ?_⟩
    repeat (walk_at "rd")
    refine ⟨p, 1000, rfl, hp, by decide, by decide, fun tr H1 r0 r1 hp1 kp1 => ?_⟩
    have pa : a ≠ p := by
      rintro rfl
      obtain ⟨c, k, b, s, e⟩ := hp
      rw [ha] at e
      exact noPool_ints ⟨c, k, b, s, Option.some.inj e⟩
    have ha1 := kp1 _ _ ha (by simpa using pa)
    repeat (walk_at "rd")
    rw [List.length_map]
    refine k_lcR (n := ps.length) (by omega) fun D nD => ?_
    have aD : a ≠ D := ne_of_none ha1 nD
    have hD1 : ∀ o, upd H1 D o a = some (.lst (ps.map V.int)) := fun o => upd_old aD ha1
    refine lc_range (lo := 0) (n := ps.length) (fun i H2 => ∃ ts : List Addr, ts.length = i ∧ H2 D = some (.lst (ts.map V.ref)) ∧ (∀ (j : Nat) t, ts[j]? = some t → ∃ z : Int, H2 t = some (.tup [.int z, .int (j : Int)])) ∧ Keep [] H1 H2 ∧ H2 a = some (.lst (ps.map V.int)) ∧ PoolAt H2 p)
      ⟨[], rfl, upd_same, fun j t h => by simp at h, (Keep.refl _ _).new nD, hD1 _, ?_⟩ ?_ ?_
    · obtain ⟨c, k, b, s, e⟩ := hp1
      exact ⟨c, k, b, s, upd_new nD e⟩
    · rintro i H2 hi ⟨ts, tl, d1, d2, kq, d3, d4⟩
      rw [Int.zero_add]
      repeat (walk_at "rd")
      refine ⟨rfl, ?_⟩
      repeat (walk_at "rd")
      refine iteT ?_
      repeat (walk_at "rd")
      intro t nt
      have Dt : D ≠ t := ne_of_none d1 nt
      refine ⟨_, upd_new nt d1, by rw [List.length_map]; exact small1000 (by omega), ts ++ [t], by rw [List.length_append, tl]; rfl, by rw [List.map_append]; exact upd_same, fun j t' hj => ?_, (kq.new nt).mine nD, upd_old aD (upd_new nt d3), ?_⟩
      · by_cases c : j < ts.length
        · rw [List.getElem?_append_left c] at hj
          obtain ⟨z, hz⟩ := d2 j t' hj
          exact ⟨z, upd_old (ne_of hz d1 (by intro z; cases z)) (upd_new nt hz)⟩
        · rw [List.getElem?_append_right (by omega)] at hj
          have : j = ts.length := by
            have := (List.getElem?_eq_some_iff.mp hj).1
            simp at this; omega
          subst this
          simp at hj
          subst hj
          exact ⟨_, by rw [tl]; exact upd_old Dt.symm upd_same⟩
      · obtain ⟨c, k, b, s, e⟩ := d4
        exact ⟨c, k, b, s, upd_old (ne_of e d1 (by
          intro z
          exact noPool_refs ⟨c, k, b, s, z.symm⟩)) (upd_new nt e)⟩
    · rintro H2 ⟨ts, tl, d1, d2, kq, d3, d4⟩
      repeat (walk_at "rd")
      have kfj : ∀ (j : Nat) t, ts[j]? = some t → ∃ z : Int, H2 t = some (.tup [.int z, .int (j : Int)]) ∧ pairK H2 (.ref t) = (z, (j : Int)) := fun j t hj => by
        obtain ⟨z, hz⟩ := d2 j t hj
        refine ⟨z, hz, ?_⟩
        show (match H2 t with | some (.tup [.int a, .int b]) => (a, b) | _ => ((0 : Int), (0 : Int))) = _
        rw [hz]
      have memj : ∀ y ∈ ts.map V.ref, ∃ (j : Nat) (t : Addr), y = .ref t ∧ ts[j]? = some t := fun y hy => by
        obtain ⟨t, ht, rfl⟩ := List.mem_map.mp hy
        obtain ⟨j, hj⟩ := List.getElem?_of_mem ht
        exact ⟨j, t, rfl, hj⟩
      refine ⟨D, ts.map V.ref, pairK H2, rfl, SqL.of d1, fun y hy => ?_, fun ys sp sr st nsp => ?_⟩
      · obtain ⟨j, t, rfl, hj⟩ := memj y hy
        obtain ⟨z, hz, e⟩ := kfj j t hj
        exact ⟨t, rfl, by rw [e]; exact hz⟩
      · have ymem : ∀ y ∈ ys, ∃ (j : Nat) (t : Addr), y = .ref t ∧ ts[j]? = some t := fun y hy => memj y (st.perm.mem_iff.mp hy)
        have asp : a ≠ sp := ne_of_none d3 nsp
        have kp12 : Keep [p] H H2 := kp1.trans (kq.mono (by simp))
        have d3' : upd H2 sp (.lst ys) a = _ := upd_old asp d3
        repeat (walk_at "rd")
        refine k_lc (SqL.of upd_same) fun D2 nD2 => ?_
        have spD2 : sp ≠ D2 := by
          rintro rfl
          rw [upd_same] at nD2; cases nD2
        have nD2' : H2 D2 = none := by rw [upd_ne spD2.symm] at nD2; exact nD2
        refine lc_list (fun i H3 => H3 D2 = some (.lst (((ys.take i).map fun y => ps.getD (pairK H2 y).2.toNat 0).map V.int)) ∧ Keep [] (upd H2 sp (.lst ys)) H3 ∧ PoolAt H3 p) ⟨upd_same, (Keep.refl _ _).new nD2, ?_⟩ (fun i H3 _ ⟨_, kz, _⟩ => SqL.of (kz _ _ upd_same (by simp))) ?_ ?_
        · obtain ⟨c, k, b, s, e⟩ := d4
          exact ⟨c, k, b, s, upd_new nD2 (upd_new nsp e)⟩
        · rintro i y H3 hi ⟨f1, kz, f2⟩
          obtain ⟨j, t, rfl, hj⟩ := ymem y (List.mem_of_getElem? hi)
          obtain ⟨z, hz, ez⟩ := kfj j t hj
          have jl : j < ps.length := by
            have := (List.getElem?_eq_some_iff.mp hj).1
            omega
          have hps : (ps.map V.int)[j]? = some (.int ps[j]) := by rw [List.getElem?_map, List.getElem?_eq_getElem jl]; rfl
          have hz3 : H3 t = some (.tup [.int z, .int (j : Int)]) := kz _ _ (upd_new nsp hz) (by simp)
          have ha3 := kz _ _ d3' (by simp)
          repeat (walk_at "rd")
          refine ⟨rfl, ?_⟩
          repeat (walk_at "rd")
          refine iteT ?_
          repeat (walk_at "rd")
          have yl : ys.length = ts.length := by rw [st.len, List.length_map]
          refine ⟨_, f1, by rw [List.length_map, List.length_map, List.length_take]; exact small1000 (by omega), ?_, kz.mine (upd_none (fun z => spD2 z.symm) nD2'), ?_⟩
          · have e1 : ps.getD (pairK H2 (.ref t)).2.toNat 0 = ps[j] := by
              rw [ez, List.getD_eq_getElem?_getD]
              show (ps[(j : Int).toNat]?).getD 0 = ps[j]
              rw [Int.toNat_natCast, List.getElem?_eq_getElem jl]; rfl
            rw [List.take_add_one, hi, List.map_append, List.map_append]
            show _ = some (HO.lst (_ ++ [V.int (ps.getD (pairK H2 (.ref t)).2.toNat 0)]))
            rw [e1]
            exact upd_same
          · obtain ⟨c, k, b, s, e⟩ := f2
            exact ⟨c, k, b, s, upd_old (ne_of e f1 (by
              intro z
              exact noPool_ints ⟨c, k, b, s, z.symm⟩)) e⟩
        · rintro H3 ⟨f1, kz, f2⟩
          rw [List.take_length] at f1
          have kF : Keep [p] H H3 := (kp12.new nsp).trans (kz.mono (by simp))
          have nH : H D2 = none := by
            cases e : H D2 with
            | none => rfl
            | some o =>
              by_cases c : D2 = p
              · subst c
                obtain ⟨c, k, b, s, e⟩ := d4
                rw [nD2'] at e; cases e
              · rw [kp12 _ _ e (by simpa using c)] at nD2'; cases nD2'
          refine k H3 D2 _ ?_ f2 kF nH f1
          refine (st.perm.map _).trans (List.Perm.of_eq ?_)
          apply List.ext_getElem?
          intro j
          rw [List.map_map, List.getElem?_map]
          by_cases c : j < ts.length
          · have hj : ts[j]? = some ts[j] := List.getElem?_eq_getElem c
            obtain ⟨z, hz, ez⟩ := kfj j _ hj
            rw [hj, List.getElem?_eq_getElem (by omega : j < ps.length)]
            show some (ps.getD (pairK H2 (.ref ts[j])).2.toNat 0) = some ps[j]
            rw [ez, List.getD_eq_getElem?_getD]
            show some ((ps[(j : Int).toNat]?).getD 0) = some ps[j]
            rw [Int.toNat_natCast, List.getElem?_eq_getElem (by omega : j < ps.length)]; rfl
          · rw [List.getElem?_eq_none (by omega : ts.length ≤ j), List.getElem?_eq_none (by omega : ps.length ≤ j)]; rfl
end
end L2.K44
end P_K44i
section P_K44j
namespace L2.K44
open PySem PySem.Spec PyProof.Rows L2.KB
/-! ### a house of the law -/
structure Hs where
  a : Addr
  pl : Addr
  hd : Addr
  w : Addr
  dx : Addr
  ah : Addr
  al : Addr
  st : Addr
  se : Addr
  ps : List Int
  hv : Int → Int
  ks : List Int
  h : Int → Int
  ls : List Lim
  tr : List Addr
  sr : List Addr
  n : Nat
  calm : Bool
  start : Int
  step : Int
def Hs.F (d : Hs) : List Addr := [d.a, d.pl, d.hd, d.w, d.ah, d.al, d.st, d.se]
structure HGood (d : Hs) : Prop where
  p2 : 2 ≤ d.ps.length
  p7 : d.ps.length ≤ 7
  pn : d.ps.Nodup
  p0 : 0 ∈ d.ps
  ksub : ∀ p ∈ d.ks, p ∈ d.ps
  calm : d.calm = true → d.n = d.ls.length
  l4 : d.ls.length ≤ 400
  lab : ∀ (i : Nat) l, d.ls[i]? = some l → ∃ t s : Int, 0 ≤ t ∧ t < 5 ∧ (s = 0 ∨ s = 1) ∧ l.lab = (1 + 5 * ((d.start + d.step * (i : Int)) % 401) + t) * (1 - 2 * s)
  s1 : 1 ≤ d.step
  s4 : d.step ≤ 400
structure HouseAt (C : Addr) (H : Hp) (d : Hs) : Prop where
  ha : H d.a = some (.dK (hkv d.pl d.hd d.w d.st d.se d.calm d.start d.step))
  hpl : H d.pl = some (.lst (d.ps.map V.int))
  hhd : H d.hd = some (.dK (hkvs d.ps d.hv))
  W : WaysAt C H d.w d.dx d.ah d.al d.tr d.ks d.h d.ls d.n
  hst : H d.st = some (.lst (d.sr.map V.ref))
  hsr : Tups H d.sr d.ls
  hse : H d.se = some (.dK (d.ks.map fun p => ((Sum.inl p : Key), V.bl true)))
  good : HGood d
  hdah : d.hd ≠ d.ah
  stal : d.st ≠ d.al
theorem HouseAt.k7 {C : Addr} {H : Hp} {d : Hs} (h : HouseAt C H d) : d.ks.length ≤ 7 := Nat.le_trans (sub_len h.W.good.nd h.good.ksub) h.good.p7
/-- what stands at the house's places: no pool, no tuple -/
theorem HouseAt.at_ {C : Addr} {H : Hp} {d : Hs} (h : HouseAt C H d) : ∀ x ∈ d.F, ∃ o, H x = some o ∧ ¬ isPool o ∧ ∀ l, o ≠ limT l := by
  intro x hx
  unfold Hs.F at hx
  simp only [List.mem_cons, List.not_mem_nil, or_false] at hx
  rcases hx with rfl | rfl | rfl | rfl | rfl | rfl | rfl | rfl
  · exact ⟨_, h.ha, noPool_dK, fun l z => by cases z⟩
  · exact ⟨_, h.hpl, noPool_ints, fun l z => by cases z⟩
  · exact ⟨_, h.hhd, noPool_dK, fun l z => by cases z⟩
  · exact ⟨_, h.W.hw, noPool_ins, fun l z => by cases z⟩
  · exact ⟨_, h.W.hh, noPool_dK, fun l z => by cases z⟩
  · exact ⟨_, h.W.hl, noPool_refs, fun l z => by cases z⟩
  · exact ⟨_, h.hst, noPool_refs, fun l z => by cases z⟩
  · exact ⟨_, h.hse, noPool_dK, fun l z => by cases z⟩
theorem Tups.fr {F : List Addr} {H H' : Hp} {tr : List Addr} {ls : List Lim} (t : Tups H tr ls) (k : Fr F H H') (hx : ∀ c ∈ F, ∀ o, H c = some o → ∀ l, o ≠ limT l) : Tups H' tr ls :=
  ⟨t.1, fun i r l a b => k r _ (t.2 i r l a b) (fun m => hx r m _ (t.2 i r l a b) l rfl) noPool_tup⟩
/-- what changes elsewhere leaves the house -/
theorem HouseAt.fr {C : Addr} {H H' : Hp} {d : Hs} {F : List Addr} (h : HouseAt C H d) (k : Fr F H H') (dis : ∀ x ∈ d.F, x ∉ F) (hx : ∀ c ∈ F, ∀ o, H c = some o → ∀ l, o ≠ limT l) : HouseAt C H' d := by
  have m : ∀ x, x ∈ [d.a, d.pl, d.hd, d.w, d.ah, d.al, d.st, d.se] → x ∉ F := dis
  refine ⟨k _ _ h.ha (m _ (by simp)) noPool_dK, k _ _ h.hpl (m _ (by simp)) noPool_ints, k _ _ h.hhd (m _ (by simp)) noPool_dK, ⟨k _ _ h.W.hw (m _ (by simp)) noPool_ins, k _ _ h.W.hh (m _ (by simp)) noPool_dK, k _ _ h.W.hl (m _ (by simp)) noPool_refs, h.W.ht.fr k hx, h.W.good⟩,
    k _ _ h.hst (m _ (by simp)) noPool_refs, h.hsr.fr k hx, k _ _ h.hse (m _ (by simp)) noPool_dK, h.good, h.hdah, h.stal⟩
theorem HouseAt.fr0 {C : Addr} {H H' : Hp} {d : Hs} (h : HouseAt C H d) (k : Fr [] H H') : HouseAt C H' d := h.fr k (by simp) (by simp)
theorem HouseAt.k0 {C : Addr} {H H' : Hp} {d : Hs} (h : HouseAt C H d) (k : Keep [] H H') : HouseAt C H' d := h.fr0 (Fr.of k)
theorem Fr.pool {H H' : Hp} {p : Addr} (hp : PoolAt H p) (k : Keep [p] H H') : Fr [] H H' := fun c o e _ n => k c o e fun m => by
  rw [List.mem_singleton.mp m] at e
  obtain ⟨c1, k1, b1, s1, e1⟩ := hp
  rw [e1] at e
  exact n ⟨c1, k1, b1, s1, (Option.some.inj e).symm⟩
theorem PoolAt.keep {H H' : Hp} {p : Addr} {F : List Addr} (hp : PoolAt H p) (k : Keep F H H') (hF : ∀ c ∈ F, ∃ o, H c = some o ∧ ¬ isPool o) : PoolAt H' p := by
  obtain ⟨c1, k1, b1, s1, e1⟩ := hp
  refine ⟨c1, k1, b1, s1, k p _ e1 fun m => ?_⟩
  obtain ⟨o, e, n⟩ := hF p m
  rw [e1] at e
  exact n ⟨c1, k1, b1, s1, (Option.some.inj e).symm⟩
theorem PoolAt.k0 {H H' : Hp} {p : Addr} (hp : PoolAt H p) (k : Keep [] H H') : PoolAt H' p := hp.keep k (by simp)
/-- what an operation leaves of a house -/
structure Step (H : Hp) (d d' : Hs) : Prop where
  a : d'.a = d.a
  pl : d'.pl = d.pl
  hd : d'.hd = d.hd
  ps : d'.ps = d.ps
  hv : d'.hv = d.hv
  F : ∀ z ∈ d'.F, z ∈ d.F ∨ H z = none
theorem Step.refl (H : Hp) (d : Hs) : Step H d d := ⟨rfl, rfl, rfl, rfl, rfl, fun z h => .inl h⟩
theorem Step.trans {C : Addr} {H H1 : Hp} {d d1 d2 : Hs} (h : HouseAt C H d) (k : Fr d.F H H1) (hn : ∀ z, H1 z = none → H z = none) (s : Step H d d1) (t : Step H1 d1 d2) : Step H d d2 :=
  ⟨t.a.trans s.a, t.pl.trans s.pl, t.hd.trans s.hd, t.ps.trans s.ps, t.hv.trans s.hv, fun z hz => (t.F z hz).elim (fun q => s.F z q) fun q => .inr (hn z q)⟩
/-- nothing is taken out of the heap -/
def Grow (H H' : Hp) : Prop := ∀ z, H' z = none → H z = none
theorem Grow.refl (H : Hp) : Grow H H := fun _ h => h
theorem Grow.trans {H H1 H2 : Hp} (a : Grow H H1) (b : Grow H1 H2) : Grow H H2 := fun z h => a z (b z h)
theorem Keep.grow {F : List Addr} {H H' : Hp} (k : Keep F H H') (hF : ∀ c ∈ F, ∃ o, H' c = some o) : Grow H H' := fun _ h => k.back hF h
theorem PoolAt.ex {H : Hp} {p : Addr} (h : PoolAt H p) : ∃ o, H p = some o := let ⟨_, _, _, _, e⟩ := h; ⟨_, e⟩
theorem pool_grow {H H' : Hp} {p : Addr} (k : Keep [p] H H') (h : PoolAt H' p) : Grow H H' := k.grow fun c hc => by rw [List.mem_singleton.mp hc]; exact h.ex
structure Go (F : List Addr) (H H' : Hp) : Prop where
  fr : Fr F H H'
  gr : Grow H H'
  pl : ∀ q, q ∉ F → PoolAt H q → PoolAt H' q
theorem PoolAt.stay {H H' : Hp} {q : Addr} (h : PoolAt H q) (k : ∀ o, H q = some o → H' q = some o) : PoolAt H' q := by
  obtain ⟨c, kk, b, s, e⟩ := h
  exact ⟨c, kk, b, s, k _ e⟩
theorem Grow.upd {H H' : Hp} {p : Addr} {o : HO} (k : Grow H H') : Grow H (upd H' p o) := fun z h => by
  by_cases c : z = p
  · subst c; rw [upd_same] at h; cases h
  · rw [upd_ne c] at h; exact k z h
theorem Go.refl (F : List Addr) (H : Hp) : Go F H H := ⟨Fr.refl _ _, Grow.refl _, fun _ _ h => h⟩
theorem Go.trans {F : List Addr} {H H1 H2 : Hp} (a : Go F H H1) (b : Go F H1 H2) : Go F H H2 := ⟨a.1.trans b.1, a.2.trans b.2, fun q n h => b.3 q n (a.3 q n h)⟩
theorem Go.mono {F G : List Addr} {H H' : Hp} (k : Go F H H') (h : ∀ c ∈ F, c ∈ G) : Go G H H' := ⟨k.1.mono h, k.2, fun q n => k.3 q fun m => n (h q m)⟩
theorem Go.any {F : List Addr} {H H' : Hp} (k : Go [] H H') : Go F H H' := k.mono (by simp)
theorem Go.new {F : List Addr} {H H' : Hp} {p : Addr} {o : HO} (k : Go F H H') (np : H' p = none) : Go F H (L2.upd H' p o) := ⟨k.1.new np, k.2.upd, fun q n h => (k.3 q n h).stay fun o e => upd_new np e⟩
theorem Go.upd {F : List Addr} {H H' : Hp} {p : Addr} {o : HO} (k : Go F H H') (m : p ∈ F) : Go F H (L2.upd H' p o) := ⟨k.1.upd m, k.2.upd, fun q n h => (k.3 q n h).stay fun o e => upd_old (fun z => n (z ▸ m)) e⟩
theorem Go.mine {F : List Addr} {H H' : Hp} {p : Addr} {o : HO} (k : Go F H H') (np : H p = none) : Go F H (L2.upd H' p o) := ⟨k.1.mine np, k.2.upd, fun q n h => (k.3 q n h).stay fun o e => upd_old (let ⟨_, e⟩ := h.ex; ne_of_none e np) e⟩
theorem Go.take {F : List Addr} {H H1 H2 : Hp} {p : Addr} (a : Go F H H1) (h1 : PoolAt H1 p) (h2 : PoolAt H2 p) (k : Keep [p] H1 H2) : Go F H H2 := ⟨a.1.trans ((Fr.pool h1 k).mono (by simp)), a.2.trans (pool_grow k h2), fun q n h => by
  by_cases c : q = p
  · subst c; exact h2
  · exact (a.3 q n h).stay fun o e => k q o e (by simpa using c)⟩
theorem Go.keep {F : List Addr} {H H1 H2 : Hp} (a : Go F H H1) (k : Keep [] H1 H2) : Go F H H2 := ⟨a.1.trans ((Fr.of k).mono (by simp)), a.2.trans (k.grow (by simp)), fun q n h => (a.3 q n h).stay fun o e => k q o e (by simp)⟩
theorem Go.keepF {F G : List Addr} {H H1 H2 : Hp} (a : Go F H H1) (k : Keep G H1 H2) (hG : ∀ c ∈ G, c ∈ F ∨ H c = none) (hs : ∀ c ∈ G, ∃ o, H2 c = some o) : Go F H H2 := by
  refine ⟨fun c o e n np => ?_, a.2.trans (k.grow hs), fun q n h => (a.3 q n h).stay fun o e => k q o e fun m => ?_⟩
  · refine k c o (a.1 c o e n np) fun m => ?_
    rcases hG c m with q | q
    · exact n q
    · rw [q] at e; cases e
  · rcases hG q m with z | z
    · exact n z
    · obtain ⟨o, e⟩ := h.ex
      rw [z] at e; cases e
theorem Go.at {H H' : Hp} {F : List Addr} {c : Addr} {o : HO} (k : Go F H H') (e : H c = some o) (n : c ∉ F) (np : ¬ isPool o) : H' c = some o := k.1 c o e n np
theorem Go.back {H H' : Hp} {F : List Addr} {c : Addr} (k : Go F H H') (e : H' c = none) : H c = none := k.2 c e
theorem PoolAt.new {H : Hp} {p q : Addr} {o : HO} (h : PoolAt H p) (n : H q = none) : PoolAt (L2.upd H q o) p := by
  obtain ⟨c, k, b, s, e⟩ := h
  exact ⟨c, k, b, s, upd_new n e⟩
theorem PoolAt.old {H : Hp} {p q : Addr} {o : HO} (h : PoolAt H p) (n : p ≠ q) : PoolAt (L2.upd H q o) p := by
  obtain ⟨c, k, b, s, e⟩ := h
  exact ⟨c, k, b, s, upd_old n e⟩
theorem PoolAt.ne {H : Hp} {p q : Addr} {o : HO} (h : PoolAt H p) (e : H q = some o) (n : ¬ isPool o) : p ≠ q := by
  rintro rfl
  obtain ⟨c, k, b, s, e1⟩ := h
  rw [e] at e1
  exact n ⟨c, k, b, s, Option.some.inj e1⟩
theorem nodup_ne {α : Type} {xs : List α} (nd : xs.Nodup) {i j : Nat} (h : i < j) (hj : j < xs.length) (e : xs[i]? = xs[j]?) : False := by
  have := (List.getElem?_inj (by omega : i < xs.length) nd).mp e
  omega
def spHouse (C : Addr) : Sp := fun vs H Q _ => ∃ p : Addr, vs = [.ref p] ∧ PoolAt H p ∧ ∀ (d : Hs) (H' : Hp), HouseAt C H' d → PoolAt H' p → Go [] H H' → (∀ x ∈ d.F, H x = none) → Q (.ref d.a) H'
def spPut (C : Addr) : Sp := fun vs H Q _ => ∃ (p : Addr) (d : Hs) (x y k : Int), vs = [.ref p, .ref d.a, .int x, .int y, .int k] ∧ PoolAt H p ∧ HouseAt C H d ∧ x ∈ d.ps ∧ y ∈ d.ps ∧ d.ls.length < 400 ∧
  ∀ (d' : Hs) (H' : Hp), HouseAt C H' d' → PoolAt H' p → Fr d.F H H' → Grow H H' → Step H d d' → d'.ls.length = d.ls.length + 1 → Q (.bl true) H'
/-- a deed with a draw: pool, house -/
def spDo (C : Addr) (many : Nat) : Sp := fun vs H Q _ => ∃ (p : Addr) (d : Hs), vs = [.ref p, .ref d.a] ∧ PoolAt H p ∧ HouseAt C H d ∧ d.ls.length < many ∧
  ∀ (d' : Hs) (H' : Hp), HouseAt C H' d' → PoolAt H' p → Fr d.F H H' → Grow H H' → Step H d d' → Q (.bl true) H'
section
variable {P : Program} {wd : World} {K : PySem.W.Frag} {mg : Str → Option Value} {base : Heap}
abbrev st__law_house : Stmt := topS 8
abbrev N__law_house : List Str := ["pool", "places", "k", "unit", "heights", "place", "house"]
theorem sc__law_house : FnScope N__law_house ["pool"] (defScope st__law_house) := ⟨rfl, rfl, rfl, by decide +kernel, rfl, by decide +kernel, by decide +kernel⟩

set_option maxHeartbeats 16000000 in
theorem ok_house {f C fT fI : Addr} {fd fdT fdI : FuncData} (F : Fun K "_law_house" "_law_house" st__law_house f fd) (T : Txt K mg C) (C_law_take : Cal P wd K mg base 1 "_law_take" fT fdT ["pool", "size"] spTake)
    (M_Ways : Mk K C fI) (G_Ways___init__ : FnOk P wd K mg base CX0 1 fI fdI ["self"] (spInit C)) (b_Ways___init__ : Binds K fdI ["self"] []) : FnOk P wd K mg base CX0 3 f fd ["pool"] (spHouse C) := by
  refine F.ok sc__law_house (fun vs H Q E h => ?_) (fun cdv A outer s H vs Q E hr h => ?_)
  · obtain ⟨p, rfl, _⟩ := h
    rfl
  · obtain ⟨p, rfl, hp, k⟩ := h
    have hu := hu_of hr
    have nd := sc__law_house.nd
    have hr1 : Room 1 _ := hr.mono (by decide)
    refine ⟨_, (pss_cons (ps_set (i := 1) nd rfl (Or.inl rfl) (pe_lst (pa_cons pe_int pa_nil)))
  (pss_cons (ps_for PassesOwn.never rfl (pi_range1 rfl T.b_range (pa_cons (pe_op op_add pe_int (pe_f C_law_take hr1 (pa_cons (pv 0) (pa_cons pe_int pa_nil)))) pa_nil)) (pg_name (i := 2) nd rfl (Or.inl rfl))
    (pss_one (ps_expr (pe_bm PySem.F.plainAttrs_list PySem.F.slot_list_append PySem.F.type_list_append mt_append (pv 1) (pa_cons (pe_op op_add (pe_op op_add (pe_ix ix_list (pv 1) (pv 2) (fun _ _ => rfl)) pe_int) (pe_f C_law_take hr1 (pa_cons (pv 0) (pa_cons (pe_ix ix_tup (pe_tup (pa_cons pe_int (pa_cons pe_int (pa_cons pe_int (pa_cons pe_int pa_nil))))) (pe_f C_law_take hr1 (pa_cons (pv 0) (pa_cons pe_int pa_nil))) (fun _ _ => rfl)) pa_nil)))) pa_nil)))))
  (pss_cons (ps_set (i := 3) nd rfl (Or.inl rfl) (pe_ix ix_tup (pe_tup (pa_cons pe_int (pa_cons pe_int (pa_cons (pe_op op_pow pe_int pe_int) (pa_cons (pe_op op_pow pe_int pe_int) pa_nil))))) (pe_f C_law_take hr1 (pa_cons (pv 0) (pa_cons pe_int pa_nil))) (fun _ _ => rfl)))
  (pss_cons (ps_set (i := 4) nd rfl (Or.inl rfl) pe_dnewK)
  (pss_cons (ps_for PassesOwn.never rfl (pi_list (pv 1)) (pg_name (i := 5) nd rfl (Or.inl rfl))
    (pss_one (ps_dput hu (pv 4) (pv 5) (pe_op op_add (pe_op op_mul (pe_op op_sub (pe_f C_law_take hr1 (pa_cons (pv 0) (pa_cons pe_int pa_nil))) pe_int) (pv 3)) (pe_f C_law_take hr1 (pa_cons (pv 0) (pa_cons pe_int pa_nil)))) rfl)))
  (pss_cons (ps_set (i := 6) nd rfl (Or.inl rfl) (pe_disp (pps_cons pe_str (pv 1) (pps_cons pe_str (pv 4) (pps_cons pe_str (pe_make0 M_Ways G_Ways___init__ hr rfl T.mgC b_Ways___init__ .nil pass0) (pps_cons pe_str (pe_lst pa_nil) (pps_cons pe_str (pe_disp (pps_cons pe_int pe_bl pps_nil) rfl rfl (List.cons_ne_nil _ _) (Nat.le_of_ble_eq_true rfl)) (pps_cons pe_str pe_bl pps_nil)))))) rfl rfl (List.cons_ne_nil _ _) (Nat.le_of_ble_eq_true rfl)))
  (pss_cons (ps_dput hu (pv 6) pe_str (pe_f C_law_take hr1 (pa_cons (pv 0) (pa_cons pe_int pa_nil))) rfl)
  (pss_cons (ps_dput hu (pv 6) pe_str (pe_op op_add pe_int (pe_f C_law_take hr1 (pa_cons (pv 0) (pa_cons pe_int pa_nil)))) rfl)
  (pss_one (ps_ret (pv 6))))))))))), ?_⟩
    repeat (walk_at "rd")
    intro pl npl
    repeat (walk_at "rd")
    have hp0 : PoolAt (upd H pl (.lst [.int 0])) p := hp.new npl
    refine ⟨p, 6, rfl, hp0, by decide, by decide, fun m H1 m0 m1 hp1 k1 => ?_⟩
    have g1 : Go [] H H1 := ((Go.refl [] H).new npl).take hp0 hp1 k1
    have hpl1 : H1 pl = some (.lst [.int 0]) := k1 _ _ upd_same (by simpa using (hp0.ne upd_same (noPool_ints (ns := [0]))).symm)
    obtain ⟨mn, rfl⟩ := Int.eq_ofNat_of_zero_le m0
    repeat (walk_at "rd")
    rw [show (1 : Int) + (mn : Int) = ((mn + 1 : Nat) : Int) by omega]
    refine k_forR (n := mn + 1) (by omega) (fun i σ H2 => ∃ (ko : Option V) (qs : List Int), σ = [some (.ref p), some (.ref pl), ko, none, none, none, none] ∧ H2 pl = some (.lst (qs.map V.int)) ∧ qs.length = i + 1 ∧ (∃ mx, qs[i]? = some mx ∧ ∀ a ∈ qs, a ≤ mx) ∧ qs.Nodup ∧ (0 : Int) ∈ qs ∧ PoolAt H2 p ∧ Go [] H H2)
      ⟨none, [0], rfl, hpl1, rfl, ⟨0, rfl, by simp⟩, by simp, by simp, hp1, g1⟩ ?_ ?_
    · rintro i σ H2 hi ⟨ko, qs, rfl, q1, q2, ⟨mx, q3, q4⟩, q5, q6, hp2, g2⟩
      have q3' : (qs.map V.int)[i]? = some (.int mx) := by rw [List.getElem?_map, q3]; rfl
      repeat (walk_at "rd")
      intro t nt
      repeat (walk_at "rd")
      have hp2a := hp2.new (o := .tup [V.int 3, .int 30, .int 1, .int 400]) nt
      refine ⟨p, 4, rfl, hp2a, by decide, by decide, fun r H3 r0 r1 hp3 k3 => ?_⟩
      have tp : t ≠ p := (hp2a.ne upd_same noPool_tup).symm
      have ht3 := k3 _ _ upd_same (by simpa using tp)
      obtain ⟨sz, hsz, sor⟩ := at4 (a := 3) (b := 30) (c := 1) (d := 400) r0 r1
      repeat (walk_at "rd")
      refine ⟨p, sz, rfl, hp3, by omega, by omega, fun d H4 d0 d1 hp4 k4 => ?_⟩
      have g4 : Go [] H H4 := ((g2.new nt).take hp2a hp3 k3).take hp3 hp4 k4
      have pp : pl ≠ p := (hp2.ne q1 noPool_ints).symm
      have hpl4 := k4 _ _ (k3 _ _ (upd_new nt q1) (by simpa using pp)) (by simpa using pp)
      repeat (walk_at "rd")
      refine k_append hpl4 (by rw [List.length_map]; exact small1000 (by omega)) ?_
      refine ⟨_, qs ++ [mx + 1 + d], rfl, by rw [List.map_append]; exact upd_same, by rw [List.length_append, q2]; rfl, ⟨mx + 1 + d, ?_, ?_⟩, ?_, by simp [q6], hp4.old pp.symm, g4.mine npl⟩
      · rw [List.getElem?_append_right (by omega), q2, Nat.sub_self]; rfl
      · intro a ha
        rcases List.mem_append.mp ha with ha | ha
        · have := q4 a ha; omega
        · have : a = mx + 1 + d := by simpa using ha
          omega
      · refine List.nodup_append.mpr ⟨q5, by simp, ?_⟩
        rintro a ha b hb rfl
        have : a = mx + 1 + d := by simpa using hb
        have := q4 a ha
        omega
    · rintro σ H2 ⟨ko, ps, rfl, q1, q2, _, q5, q6, hp2, g2⟩
      repeat (walk_at "rd")
      intro t nt
      repeat (walk_at "rd")
      have hp2a := hp2.new (o := .tup [V.int 1, .int 1, .int (10 ^ Int.toNat 15), .int (10 ^ Int.toNat 57)]) nt
      refine ⟨p, 4, rfl, hp2a, by decide, by decide, fun r H3 r0 r1 hp3 k3 => ?_⟩
      have tp : t ≠ p := (hp2a.ne upd_same noPool_tup).symm
      have ht3 := k3 _ _ upd_same (by simpa using tp)
      have pp : pl ≠ p := (hp2.ne q1 noPool_ints).symm
      have hpl3 := k3 _ _ (upd_new nt q1) (by simpa using pp)
      obtain ⟨un, hun, _⟩ := at4 (a := 1) (b := 1) (c := 10 ^ Int.toNat 15) (d := 10 ^ Int.toNat 57) r0 r1
      have g3 : Go [] H H3 := (g2.new nt).take hp2a hp3 k3
      repeat (walk_at "rd")
      refine r_dnew fun hd nhd => ?_
      repeat (walk_at "rd")
      have nhdH := g3.back nhd
      have plhd : pl ≠ hd := ne_of_none hpl3 nhd
      refine k_forL (SqL.of (upd_new nhd hpl3)) (fun i σ H4 => ∃ (po : Option V) (hv : Int → Int), σ = [some (.ref p), some (.ref pl), ko, some (.int un), some (.ref hd), po, none] ∧ H4 pl = some (.lst (ps.map V.int)) ∧ H4 hd = some (.dK (hkvs (ps.take i) hv)) ∧ PoolAt H4 p ∧ Go [] H H4)
        ⟨none, fun _ => 0, rfl, upd_new nhd hpl3, upd_same, hp3.new nhd, g3.new nhd⟩ (fun i σ H4 _ ⟨_, _, _, e, _⟩ => SqL.of e) ?_ ?_
      · rintro i x σ H4 hi ⟨po, hv, rfl, w1, w2, hp4, g4⟩
        rw [List.getElem?_map] at hi
        obtain ⟨y, hy, rfl⟩ := Option.map_eq_some_iff.mp hi
        have il := (List.getElem?_eq_some_iff.mp hy).1
        have ny : y ∉ ps.take i := fun m => by
          obtain ⟨j, hj⟩ := List.getElem?_of_mem m
          have jl := (List.getElem?_eq_some_iff.mp hj).1
          rw [List.length_take] at jl
          rw [List.getElem?_take_of_lt (by omega)] at hj
          exact nodup_ne q5 (by omega) il (hj.trans hy.symm)
        repeat (walk_at "rd")
        refine ⟨p, 41, rfl, hp4, by decide, by decide, fun a H5 a0 a1 hp5 k5 => ?_⟩
        repeat (walk_at "rd")
        have hdp : hd ≠ p := (hp4.ne w2 noPool_dK).symm
        refine ⟨p, 3, rfl, hp5, by decide, by decide, fun b H6 b0 b1 hp6 k6 => ?_⟩
        have pp4 : pl ≠ p := (hp4.ne w1 noPool_ints).symm
        have w26 := k6 _ _ (k5 _ _ w2 (by simpa using hdp)) (by simpa using hdp)
        have w16 := k6 _ _ (k5 _ _ w1 (by simpa using pp4)) (by simpa using pp4)
        repeat (walk_at "rd")
        refine k_dputI w26 (by unfold hkvs; rw [List.length_map, List.length_take]; exact small1000 (by omega)) (putK_set ny) ?_
        refine ⟨_, fset hv y ((a - 20) * un + b), rfl, upd_old plhd w16, ?_, hp6.old hdp.symm, ((g4.take hp4 hp5 k5).take hp5 hp6 k6).mine nhdH⟩
        rw [List.take_add_one, hy]
        exact upd_same
      · rintro σ H4 ⟨po, hv, rfl, w1, w2, hp4, g4⟩
        rw [List.length_map, List.take_length] at w2
        repeat (walk_at "rd")
        refine r_disp fun a na => ?_
        repeat (walk_at "rd")
        intro w dx nw ndx dw
        have ga : Go [] H (upd H4 a (.dK [])) := g4.new na
        have gx : Go [] H (upd (upd (upd H4 a (.dK [])) dx (.own w)) w (.ins C dx [])) := (ga.new ndx).new (upd_none dw.symm nw)
        have hpx : PoolAt (upd (upd (upd H4 a (.dK [])) dx (.own w)) w (.ins C dx [])) p := ((hp4.new na).new ndx).new (upd_none dw.symm nw)
        have ax : upd (upd (upd H4 a (.dK [])) dx (.own w)) w (.ins C dx []) a = some (.dK []) := upd_new (upd_none dw.symm nw) (upd_new ndx upd_same)
        have plx : upd (upd (upd H4 a (.dK [])) dx (.own w)) w (.ins C dx []) pl = _ := upd_new (upd_none dw.symm nw) (upd_new ndx (upd_new na w1))
        have hdx : upd (upd (upd H4 a (.dK [])) dx (.own w)) w (.ins C dx []) hd = _ := upd_new (upd_none dw.symm nw) (upd_new ndx (upd_new na w2))
        refine ⟨w, dx, rfl, upd_same, fun ah al H5 nah nal ahal W k5 => ⟨rfl, ?_⟩⟩
        have nwH : H w = none := ga.back nw
        have naH : H a = none := g4.back na
        have hp5 := hpx.keep k5 (by intro c hc; rw [List.mem_singleton.mp hc]; exact ⟨_, upd_same, noPool_ins⟩)
        have g5 := gx.keepF k5 (fun c hc => .inr (by rw [List.mem_singleton.mp hc]; exact nwH)) (fun c hc => by rw [List.mem_singleton.mp hc]; exact ⟨_, W.hw⟩)
        have a5 := k5 _ _ ax (by simpa using (ne_of ax upd_same (by intro z; cases z)))
        have pl5 := k5 _ _ plx (by simpa using (ne_of plx upd_same (by intro z; cases z)))
        have hd5 := k5 _ _ hdx (by simpa using (ne_of hdx upd_same (by intro z; cases z)))
        have hdah : hd ≠ ah := ne_of_none hdx nah
        repeat (walk_at "rd")
        intro st nst
        repeat (walk_at "rd")
        refine r_disp fun se nse => ?_
        repeat (walk_at "rd")
        refine ⟨upd_same, [(.inl 0, .bl true)], rfl, by decide, ?_⟩
        repeat (walk_at "rd")
        have ast : a ≠ st := ne_of_none a5 nst
        have ase : a ≠ se := ne_of_none (upd_new nst a5) nse
        refine ⟨upd_old ase (upd_old ase (upd_old ast a5)), [(.inr "places", .ref pl), (.inr "heights", .ref hd), (.inr "ways", .ref w), (.inr "stand", .ref st), (.inr "seen", .ref se), (.inr "calm", .bl false)], rfl, (by show 6 ≤ 15; decide), ?_⟩
        have nseH : H se = none := (g5.new (o := .lst []) nst).back nse
        have gE := (((g5.new (o := .lst []) nst).new (o := .dK []) nse).mine (o := .dK (mergeK [] [(.inl 0, V.bl true)])) nseH).mine (o := .dK (mergeK [] [(.inr "places", .ref pl), (.inr "heights", .ref hd), (.inr "ways", .ref w), (.inr "stand", .ref st), (.inr "seen", .ref se), (.inr "calm", .bl false)])) naH
        have hpE : PoolAt _ p := (((hp5.new (o := .lst []) nst).new (o := .dK []) nse).old (o := .dK (mergeK [] [(.inl 0, V.bl true)])) (((hp5.new (o := .lst []) nst).new (o := .dK []) nse).ne upd_same noPool_dK)).old (o := .dK (mergeK [] [(.inr "places", .ref pl), (.inr "heights", .ref hd), (.inr "ways", .ref w), (.inr "stand", .ref st), (.inr "seen", .ref se), (.inr "calm", .bl false)])) (hp5.ne a5 noPool_dK)
        have seE : upd (upd (upd (upd H5 st (.lst [])) se (.dK [])) se (.dK (mergeK [] [(.inl 0, V.bl true)]))) a (.dK (mergeK [] [(.inr "places", .ref pl), (.inr "heights", .ref hd), (.inr "ways", .ref w), (.inr "stand", .ref st), (.inr "seen", .ref se), (.inr "calm", .bl false)])) se = some (.dK (mergeK [] [(.inl 0, V.bl true)])) := upd_old ase.symm upd_same
        have stE : upd (upd (upd (upd H5 st (.lst [])) se (.dK [])) se (.dK (mergeK [] [(.inl 0, V.bl true)]))) a (.dK (mergeK [] [(.inr "places", .ref pl), (.inr "heights", .ref hd), (.inr "ways", .ref w), (.inr "stand", .ref st), (.inr "seen", .ref se), (.inr "calm", .bl false)])) st = some (.lst []) := upd_old ast.symm (upd_old (ne_of_none upd_same nse) (upd_new nse upd_same))
        have oE : ∀ c o, H5 c = some o → c ≠ a → upd (upd (upd (upd H5 st (.lst [])) se (.dK [])) se (.dK (mergeK [] [(.inl 0, V.bl true)]))) a (.dK (mergeK [] [(.inr "places", .ref pl), (.inr "heights", .ref hd), (.inr "ways", .ref w), (.inr "stand", .ref st), (.inr "seen", .ref se), (.inr "calm", .bl false)])) c = some o := fun c o e n =>
          upd_old n (upd_old (ne_of_none (upd_new nst e) nse) (upd_new nse (upd_new nst e)))
        have aE : upd (upd (upd (upd H5 st (.lst [])) se (.dK [])) se (.dK (mergeK [] [(.inl 0, V.bl true)]))) a (.dK (mergeK [] [(.inr "places", .ref pl), (.inr "heights", .ref hd), (.inr "ways", .ref w), (.inr "stand", .ref st), (.inr "seen", .ref se), (.inr "calm", .bl false)])) a = some (.dK [(.inr "places", .ref pl), (.inr "heights", .ref hd), (.inr "ways", .ref w), (.inr "stand", .ref st), (.inr "seen", .ref se), (.inr "calm", .bl false)]) := upd_same
        generalize upd (upd (upd (upd H5 st (.lst [])) se (.dK [])) se (.dK (mergeK [] [(.inl 0, V.bl true)]))) a (.dK (mergeK [] [(.inr "places", .ref pl), (.inr "heights", .ref hd), (.inr "ways", .ref w), (.inr "stand", .ref st), (.inr "seen", .ref se), (.inr "calm", .bl false)])) = E at *
        repeat (walk_at "rd")
        refine ⟨p, 401, rfl, hpE, by decide, by decide, fun sa H6 sa0 sa1 hp6 k6 => ?_⟩
        have pa : a ≠ p := (hpE.ne aE noPool_dK).symm
        have a6 := k6 _ _ aE (by simpa using pa)
        repeat (walk_at "rd")
        have hp6a : PoolAt _ p := hp6.old (o := .dK (putK [(.inr "places", .ref pl), (.inr "heights", .ref hd), (.inr "ways", .ref w), (.inr "stand", .ref st), (.inr "seen", .ref se), (.inr "calm", .bl false)] (.inr "start") (.int sa))) pa.symm
        refine ⟨p, 400, rfl, hp6a, by decide, by decide, fun sb H7 sb0 sb1 hp7 k7 => ?_⟩
        have a7 := k7 _ _ upd_same (by simpa using pa)
        repeat (walk_at "rd")
        have G : Go [a] E _ := ((((Go.refl [a] E).take hpE hp6 k6).upd (List.mem_singleton_self a)).take hp6a hp7 k7).upd (o := .dK (hkv pl hd w st se false sa (1 + sb))) (List.mem_singleton_self a)
        have GE : Go [] H _ := (((gE.take hpE hp6 k6).mine naH).take hp6a hp7 k7).mine (o := .dK (hkv pl hd w st se false sa (1 + sb))) naH
        have hpf := hp7.old (o := .dK (hkv pl hd w st se false sa (1 + sb))) pa.symm
        have wa : w ≠ a := ne_of W.hw a5 (by intro z; cases z)
        have aha : ah ≠ a := (ne_of_none ax nah).symm
        have ala : al ≠ a := (ne_of_none ax nal).symm
        have pla : pl ≠ a := ne_of pl5 a5 (by intro z; cases z)
        have hda : hd ≠ a := ne_of_none w2 na
        have at5 : ∀ c o, H5 c = some o → c ≠ a → ¬ isPool o → upd H7 a (.dK (hkv pl hd w st se false sa (1 + sb))) c = some o := fun c o e n np => G.at (oE c o e n) (by simpa using n) np
        refine k ⟨a, pl, hd, w, dx, ah, al, st, se, ps, hv, [0], fun _ => 0, [], [], [], 0, false, sa, 1 + sb⟩ _ ⟨upd_same, at5 _ _ pl5 pla noPool_ints, at5 _ _ hd5 hda noPool_dK, ⟨at5 _ _ W.hw wa noPool_ins, at5 _ _ W.hh aha noPool_dK, at5 _ _ W.hl ala noPool_refs, ⟨rfl, fun i r l e => by simp at e⟩, W.good⟩,
          G.at stE (by simpa using ast.symm) (noPool_refs (rs := [])), ⟨rfl, fun i r l e => by simp at e⟩, G.at seE (by simpa using ase.symm) noPool_dK, ⟨by rw [q2]; omega, by rw [q2]; omega, q5, q6, fun x hx => ?_, fun z => ?_, Nat.zero_le _, fun i l e => by simp at e, ?_, ?_⟩, hdah, ?_⟩ hpf GE ?_
        · rw [List.mem_singleton.mp hx]; exact q6
        · cases z
        · show 1 ≤ 1 + sb; omega
        · show 1 + sb ≤ 400; omega
        · exact (ne_of_none W.hl nst).symm
        · intro x hx
          unfold Hs.F at hx
          simp only [List.mem_cons, List.not_mem_nil, or_false] at hx
          rcases hx with rfl | rfl | rfl | rfl | rfl | rfl | rfl | rfl
          · exact naH
          · exact npl
          · exact nhdH
          · exact nwH
          · exact gx.back nah
          · exact gx.back nal
          · exact g5.back nst
          · exact nseH
end
end L2.K44
end P_K44j
section P_K44k
namespace L2.K44
open PySem PySem.Spec PyProof.Rows L2.KB
theorem WaysAt.fr {C : Addr} {F : List Addr} {H H' : Hp} {w dx ah al : Addr} {tr : List Addr} {ks : List Int} {h : Int → Int} {ls : List Lim} {n : Nat} (W : WaysAt C H w dx ah al tr ks h ls n) (k : Fr F H H') (n1 : w ∉ F) (n2 : ah ∉ F) (n3 : al ∉ F)
    (hx : ∀ c ∈ F, ∀ o, H c = some o → ∀ l, o ≠ limT l) : WaysAt C H' w dx ah al tr ks h ls n :=
  ⟨k _ _ W.hw n1 noPool_ins, k _ _ W.hh n2 noPool_dK, k _ _ W.hl n3 noPool_refs, W.ht.fr k hx, W.good⟩
section
variable {C : Addr} {H : Hp} {d : Hs} (h : HouseAt C H d)
include h
theorem HouseAt.kne : d.ks ≠ [] := fun e => by have := h.W.good.z; rw [e] at this; cases this
theorem HouseAt.pne : d.ps ≠ [] := fun e => by have := h.good.p2; rw [e] at this; simp at this
theorem HouseAt.a_ah : d.a ≠ d.ah := ne_of h.ha h.W.hh fun z => by
  cases e : d.ks with
  | nil => exact h.kne e
  | cons x r => unfold hkvs at z; rw [e] at z; injection z with z; injection z with z _; injection z with z _; cases z
theorem HouseAt.a_hd : d.a ≠ d.hd := ne_of h.ha h.hhd fun z => by
  cases e : d.ps with
  | nil => exact h.pne e
  | cons x r => unfold hkvs at z; rw [e] at z; injection z with z; injection z with z _; injection z with z _; cases z
theorem HouseAt.a_se : d.a ≠ d.se := ne_of h.ha h.hse fun z => by
  cases e : d.ks with
  | nil => exact h.kne e
  | cons x r => rw [e] at z; injection z with z; injection z with z _; injection z with z _; cases z
theorem HouseAt.se_ah : d.se ≠ d.ah := ne_of h.hse h.W.hh fun z => by
  cases e : d.ks with
  | nil => exact h.kne e
  | cons x r => unfold hkvs at z; rw [e] at z; injection z with z; injection z with z _; injection z with _ z; cases z
theorem HouseAt.se_hd : d.se ≠ d.hd := ne_of h.hse h.hhd fun z => by
  cases e : d.ks with
  | nil => exact h.kne e
  | cons x r =>
    cases e2 : d.ps with
    | nil => exact h.pne e2
    | cons y q => unfold hkvs at z; rw [e, e2] at z; injection z with z; injection z with z _; injection z with _ z; cases z
theorem HouseAt.pl_al : d.pl ≠ d.al := ne_of h.hpl h.W.hl fun z => by
  cases e : d.ps with
  | nil => exact h.pne e
  | cons x r =>
    rw [e] at z; injection z with z
    cases e2 : d.tr with
    | nil => rw [e2] at z; cases z
    | cons y q => rw [e2] at z; injection z with z _; cases z
theorem HouseAt.pl_st : d.pl ≠ d.st := ne_of h.hpl h.hst fun z => by
  cases e : d.ps with
  | nil => exact h.pne e
  | cons x r =>
    rw [e] at z; injection z with z
    cases e2 : d.sr with
    | nil => rw [e2] at z; cases z
    | cons y q => rw [e2] at z; injection z with z _; cases z
theorem HouseAt.a_w : d.a ≠ d.w := ne_of h.ha h.W.hw (by intro z; cases z)
theorem HouseAt.a_al : d.a ≠ d.al := ne_of h.ha h.W.hl (by intro z; cases z)
theorem HouseAt.a_pl : d.a ≠ d.pl := ne_of h.ha h.hpl (by intro z; cases z)
theorem HouseAt.a_st : d.a ≠ d.st := ne_of h.ha h.hst (by intro z; cases z)
theorem HouseAt.se_w : d.se ≠ d.w := ne_of h.hse h.W.hw (by intro z; cases z)
theorem HouseAt.se_al : d.se ≠ d.al := ne_of h.hse h.W.hl (by intro z; cases z)
theorem HouseAt.se_pl : d.se ≠ d.pl := ne_of h.hse h.hpl (by intro z; cases z)
theorem HouseAt.se_st : d.se ≠ d.st := ne_of h.hse h.hst (by intro z; cases z)
theorem HouseAt.pl_w : d.pl ≠ d.w := ne_of h.hpl h.W.hw (by intro z; cases z)
theorem HouseAt.pl_ah : d.pl ≠ d.ah := ne_of h.hpl h.W.hh (by intro z; cases z)
theorem HouseAt.hd_w : d.hd ≠ d.w := ne_of h.hhd h.W.hw (by intro z; cases z)
theorem HouseAt.hd_al : d.hd ≠ d.al := ne_of h.hhd h.W.hl (by intro z; cases z)
theorem HouseAt.st_w : d.st ≠ d.w := ne_of h.hst h.W.hw (by intro z; cases z)
theorem HouseAt.st_ah : d.st ≠ d.ah := ne_of h.hst h.W.hh (by intro z; cases z)
theorem HouseAt.slen : d.sr.length = d.ls.length := h.hsr.1
end
theorem seen_put {ks : List Int} {x : Int} : putK (ks.map fun p => ((Sum.inl p : Key), V.bl true)) (.inl x) (.bl true) = (addK ks x).map fun p => ((Sum.inl p : Key), V.bl true) := by
  unfold addK
  by_cases m : x ∈ ks
  · rw [if_pos m]
    exact putK_map (f := fun _ => V.bl true) (g := fun _ => V.bl true) m fun _ _ => rfl
  · rw [if_neg m]
    exact putK_map_new (f := fun _ => V.bl true) (g := fun _ => V.bl true) m fun _ _ => rfl
section
variable {P : Program} {wd : World} {K : PySem.W.Frag} {mg : Str → Option Value} {base : Heap}
abbrev st__law_put : Stmt := topS 9
abbrev N__law_put : List Str := ["pool", "house", "x", "y", "k", "many", "label", "seen"]
theorem sc__law_put : FnScope N__law_put ["pool", "house", "x", "y", "k"] (defScope st__law_put) := ⟨rfl, rfl, rfl, by decide +kernel, rfl, by decide +kernel, by decide +kernel⟩

set_option maxHeartbeats 16000000 in
theorem ok_put {f C fT fL : Addr} {fd fdT fdL : FuncData} (F : Fun K "_law_put" "_law_put" st__law_put f fd) (T : Txt K mg C) (C_law_take : Cal P wd K mg base 1 "_law_take" fT fdT ["pool", "size"] spTake)
    (CWays_limit : CalM P wd K mg base 1 C "limit" fL fdL ["self", "x", "y", "k", "label"] (spLimit C)) : FnOk P wd K mg base CX0 2 f fd ["pool", "house", "x", "y", "k"] (spPut C) := by
  refine F.ok sc__law_put (fun vs H Q E h => ?_) (fun cdv A outer s H vs Q E hr h => ?_)
  · obtain ⟨p, d, x, y, k, rfl, _⟩ := h
    rfl
  · obtain ⟨p, d, x, y, kk, rfl, hp, hH, mx, my, room, k⟩ := h
    have hu := hu_of hr
    have nd := sc__law_put.nd
    obtain ⟨cl, nH, nL, nS, _⟩ := id T
    obtain ⟨ha, hpl, hhd, W, hst, hsr, hse, g, hdah, stal⟩ := id hH
    obtain ⟨hw, hh, hl, ht, wg⟩ := id W
    refine ⟨_, (pss_cons (ps_set (i := 5) nd rfl (Or.inl rfl) (pe_callB call_len_seq (by rfl) T.b_len PySem.boot_len (pa_cons (pe_dget hu (pv 1) pe_str (fun _ _ => rfl)) pa_nil)))
  (pss_cons (ps_set (i := 6) nd rfl (Or.inl rfl) (pe_op op_add (pe_op op_add pe_int (pe_op op_mul pe_int (pe_op op_mod (pe_callTy call_int1 (by rfl) T.b_int PyProof.Rows.boot_int (pa_cons (pe_op op_add (pe_dget hu (pv 1) pe_str (fun _ _ => rfl)) (pe_op op_mul (pe_dget hu (pv 1) pe_str (fun _ _ => rfl)) (pv 5))) pa_nil)) pe_int))) (pe_f C_law_take hr (pa_cons (pv 0) (pa_cons pe_int pa_nil)))))
  (pss_cons (ps_set (i := 6) nd rfl (Or.inl rfl) (pe_op op_mul (pv 6) (pe_op op_sub pe_int (pe_op op_mul pe_int (pe_f C_law_take hr (pa_cons (pv 0) (pa_cons pe_int pa_nil)))))))
  (pss_cons (ps_dput hu (pv 1) pe_str (pe_op op_cat (pe_dget hu (pv 1) pe_str (fun _ _ => rfl)) (pe_lst (pa_cons (pe_tup (pa_cons (pv 2) (pa_cons (pv 3) (pa_cons (pv 4) (pa_cons (pv 6) pa_nil))))) pa_nil))) rfl)
  (pss_cons (ps_dput hu (pv 1) pe_str pe_bl rfl)
  (pss_cons (ps_set (i := 7) nd rfl (Or.inl rfl) (pe_dget hu (pv 1) pe_str (fun _ _ => rfl)))
  (pss_cons (ps_dput hu (pv 7) (pv 2) pe_bl rfl)
  (pss_cons (ps_dput hu (pv 7) (pv 3) pe_bl rfl)
  (pss_one (ps_ret (pe_cmp (pc_isN (pe_mm CWays_limit hr T.cl (pe_dget hu (pv 1) pe_str (fun _ _ => rfl)) (pa_cons (pv 2) (pa_cons (pv 3) (pa_cons (pv 4) (pa_cons (pv 6) pa_nil))))))))))))))))), ?_⟩
    have s1 := g.s1
    have s4 := g.s4
    have a_se := hH.a_se
    repeat (walk_at "rd")
    refine ⟨p, 5, rfl, hp, by decide, by decide, fun t H1 t0 t1 hp1 k1 => ?_⟩
    have g1 : Go d.F H H1 := (Go.refl _ H).take hp hp1 k1
    have a1 := k1 _ _ ha (by simpa using (hp.ne ha noPool_dK).symm)
    repeat (walk_at "rd")
    refine ⟨p, 2, rfl, hp1, by decide, by decide, fun s2 H2 s0 s1' hp2 k2 => ?_⟩
    have g2 : Go [] H H2 := ((Go.refl _ H).take hp hp1 k1).take hp1 hp2 k2
    have a2 := g2.at ha (by simp) noPool_dK
    have st2 := g2.at hst (by simp) noPool_refs
    have se2 := g2.at hse (by simp) noPool_dK
    have hw2 := g2.at hw (by simp) noPool_ins
    repeat (walk_at "rd")
    have sv : s2 = 0 ∨ s2 = 1 := by omega
    generalize ela : (1 + 5 * ((d.start + d.step * ((d.sr.map V.ref).length : Int)) % 401) + t) * (1 - 2 * s2) = lab
    intro r nr
    repeat (walk_at "rd")
    intro l1 nl1
    repeat (walk_at "rd")
    have l4 := g.l4
    have p7 := g.p7
    have k7 := hH.k7
    have slen := hsr.1
    have st2' : upd (upd H2 r (.tup [.int x, .int y, .int kk, .int lab])) l1 (.lst [.ref r]) d.st = _ := upd_new nl1 (upd_new nr st2)
    refine k_cat st2' upd_same (by rw [List.length_map, List.length_singleton]; exact Nat.le_of_lt (small1000 (by omega))) fun l2 nl2 => ?_
    have a_l2 : d.a ≠ l2 := ne_of_none (upd_new nl1 (upd_new nr a2)) nl2
    have se_l2 : d.se ≠ l2 := ne_of_none (upd_new nl1 (upd_new nr se2)) nl2
    repeat (walk_at "rd")
    refine k_dputI (kvs := d.ks.map fun p => ((Sum.inl p : Key), V.bl true)) (by walk_at "hp") (by rw [List.length_map]; exact small1000 (by omega)) seen_put ?_
    repeat (walk_at "rd")
    refine k_dputI upd_same (by rw [List.length_map]; exact small1000 (by have := len_addK (ks := d.ks) (p := x); omega)) seen_put ?_
    repeat (walk_at "rd")
    have pa : p ≠ d.a := hp.ne ha noPool_dK
    have pse : p ≠ d.se := hp.ne hse noPool_dK
    have hpE := ((((((hp2.new (o := .tup [.int x, .int y, .int kk, .int lab]) nr).new (o := .lst [.ref r]) nl1).new (o := .lst (d.sr.map V.ref ++ [.ref r])) nl2).old (o := .dK (hkv d.pl d.hd d.w l2 d.se d.calm d.start d.step)) pa).old (o := .dK (hkv d.pl d.hd d.w l2 d.se false d.start d.step)) pa).old (o := .dK ((addK d.ks x).map fun p => ((Sum.inl p : Key), V.bl true))) pse).old (o := .dK ((addK (addK d.ks x) y).map fun p => ((Sum.inl p : Key), V.bl true))) pse
    have G := (((((((g2.any (F := [d.a, d.se])).new (o := .tup [.int x, .int y, .int kk, .int lab]) nr).new (o := .lst [.ref r]) nl1).new (o := .lst (d.sr.map V.ref ++ [.ref r])) nl2).upd (p := d.a) (o := .dK (hkv d.pl d.hd d.w l2 d.se d.calm d.start d.step)) (List.mem_cons_self)).upd (p := d.a) (o := .dK (hkv d.pl d.hd d.w l2 d.se false d.start d.step)) (List.mem_cons_self)).upd (p := d.se) (o := .dK ((addK d.ks x).map fun p => ((Sum.inl p : Key), V.bl true))) (by simp)).upd (p := d.se) (o := .dK ((addK (addK d.ks x) y).map fun p => ((Sum.inl p : Key), V.bl true))) (by simp)
    have nl2H : H l2 = none := ((g2.new nr).new nl1).back nl2
    have r_l1 : r ≠ l1 := ne_of_none upd_same nl1
    have r_l2 : r ≠ l2 := ne_of_none (upd_new nl1 upd_same) nl2
    have r_a : d.a ≠ r := ne_of_none a2 nr
    have r_se : d.se ≠ r := ne_of_none se2 nr
    have Ea : upd (upd (upd (upd (upd (upd (upd H2 r (.tup [.int x, .int y, .int kk, .int lab])) l1 (.lst [.ref r])) l2 (.lst (d.sr.map V.ref ++ [.ref r]))) d.a (.dK (hkv d.pl d.hd d.w l2 d.se d.calm d.start d.step))) d.a (.dK (hkv d.pl d.hd d.w l2 d.se false d.start d.step))) d.se (.dK ((addK d.ks x).map fun p => ((Sum.inl p : Key), V.bl true)))) d.se (.dK ((addK (addK d.ks x) y).map fun p => ((Sum.inl p : Key), V.bl true))) d.a = some (.dK (hkv d.pl d.hd d.w l2 d.se false d.start d.step)) := upd_old a_se (upd_old a_se upd_same)
    have El2 : upd (upd (upd (upd (upd (upd (upd H2 r (.tup [.int x, .int y, .int kk, .int lab])) l1 (.lst [.ref r])) l2 (.lst (d.sr.map V.ref ++ [.ref r]))) d.a (.dK (hkv d.pl d.hd d.w l2 d.se d.calm d.start d.step))) d.a (.dK (hkv d.pl d.hd d.w l2 d.se false d.start d.step))) d.se (.dK ((addK d.ks x).map fun p => ((Sum.inl p : Key), V.bl true)))) d.se (.dK ((addK (addK d.ks x) y).map fun p => ((Sum.inl p : Key), V.bl true))) l2 = some (.lst (d.sr.map V.ref ++ [.ref r])) := upd_old se_l2.symm (upd_old se_l2.symm (upd_old a_l2.symm (upd_old a_l2.symm upd_same)))
    have Er : upd (upd (upd (upd (upd (upd (upd H2 r (.tup [.int x, .int y, .int kk, .int lab])) l1 (.lst [.ref r])) l2 (.lst (d.sr.map V.ref ++ [.ref r]))) d.a (.dK (hkv d.pl d.hd d.w l2 d.se d.calm d.start d.step))) d.a (.dK (hkv d.pl d.hd d.w l2 d.se false d.start d.step))) d.se (.dK ((addK d.ks x).map fun p => ((Sum.inl p : Key), V.bl true)))) d.se (.dK ((addK (addK d.ks x) y).map fun p => ((Sum.inl p : Key), V.bl true))) r = some (.tup [.int x, .int y, .int kk, .int lab]) := upd_old r_se.symm (upd_old r_se.symm (upd_old r_a.symm (upd_old r_a.symm (upd_old r_l2 (upd_old r_l1 upd_same)))))
    have Ese : upd (upd (upd (upd (upd (upd (upd H2 r (.tup [.int x, .int y, .int kk, .int lab])) l1 (.lst [.ref r])) l2 (.lst (d.sr.map V.ref ++ [.ref r]))) d.a (.dK (hkv d.pl d.hd d.w l2 d.se d.calm d.start d.step))) d.a (.dK (hkv d.pl d.hd d.w l2 d.se false d.start d.step))) d.se (.dK ((addK d.ks x).map fun p => ((Sum.inl p : Key), V.bl true)))) d.se (.dK ((addK (addK d.ks x) y).map fun p => ((Sum.inl p : Key), V.bl true))) d.se = some (.dK ((addK (addK d.ks x) y).map fun p => ((Sum.inl p : Key), V.bl true))) := upd_same
    generalize upd (upd (upd (upd (upd (upd (upd H2 r (.tup [.int x, .int y, .int kk, .int lab])) l1 (.lst [.ref r])) l2 (.lst (d.sr.map V.ref ++ [.ref r]))) d.a (.dK (hkv d.pl d.hd d.w l2 d.se d.calm d.start d.step))) d.a (.dK (hkv d.pl d.hd d.w l2 d.se false d.start d.step))) d.se (.dK ((addK d.ks x).map fun p => ((Sum.inl p : Key), V.bl true)))) d.se (.dK ((addK (addK d.ks x) y).map fun p => ((Sum.inl p : Key), V.bl true))) = E at *
    have hxG : ∀ c ∈ [d.a, d.se], ∀ o, H c = some o → ∀ l, o ≠ limT l := by
      intro c hc o e l
      simp only [List.mem_cons, List.not_mem_nil, or_false] at hc
      rcases hc with rfl | rfl
      · rw [ha] at e; cases e; intro z; cases z
      · rw [hse] at e; cases e; intro z; cases z
    have nm : ∀ c, c ≠ d.a → c ≠ d.se → c ∉ [d.a, d.se] := fun c n1 n2 m => by
      simp only [List.mem_cons, List.not_mem_nil, or_false] at m
      exact m.elim n1 n2
    have WE := W.fr G.fr (nm _ hH.a_w.symm hH.se_w.symm) (nm _ hH.a_ah.symm hH.se_ah.symm) (nm _ hH.a_al.symm hH.se_al.symm) hxG
    have Epl := G.at hpl (nm _ hH.a_pl.symm hH.se_pl.symm) noPool_ints
    have Ehd := G.at hhd (nm _ hH.a_hd.symm hH.se_hd.symm) noPool_dK
    have Esr := (hsr.fr G.fr hxG).snoc (l := ⟨x, y, kk, lab⟩) Er
    refine ⟨d.w, d.dx, d.ah, d.al, d.tr, d.ks, d.h, d.ls, d.n, x, y, kk, lab, rfl, WE, by omega, by omega, fun r2 H3 nr2 W3 k3 => ?_⟩
    have nk : ∀ c, c ≠ d.ah → c ≠ d.al → c ∉ [d.ah, d.al] := fun c n1 n2 m => by
      simp only [List.mem_cons, List.not_mem_nil, or_false] at m
      exact m.elim n1 n2
    have e_ah := WE.hh
    have e_al := WE.hl
    have l2ah : l2 ≠ d.ah := ne_of El2 e_ah (by intro z; cases z)
    have l2al : l2 ≠ d.al := fun z => by rw [z, hl] at nl2H; cases nl2H
    have hp3 := hpE.keep k3 (by
      intro c hc
      simp only [List.mem_cons, List.not_mem_nil, or_false] at hc
      rcases hc with rfl | rfl
      · exact ⟨_, e_ah, noPool_dK⟩
      · exact ⟨_, e_al, noPool_refs⟩)
    have G3 : Go d.F H H3 := (G.mono (G := d.F) (by
      intro c hc
      simp only [List.mem_cons, List.not_mem_nil, or_false] at hc
      unfold Hs.F
      rcases hc with rfl | rfl <;> simp)).keepF k3 (by
        intro c hc
        simp only [List.mem_cons, List.not_mem_nil, or_false] at hc
        unfold Hs.F
        rcases hc with rfl | rfl <;> simp) (by
        intro c hc
        simp only [List.mem_cons, List.not_mem_nil, or_false] at hc
        rcases hc with rfl | rfl
        · exact ⟨_, W3.hh⟩
        · exact ⟨_, W3.hl⟩)
    repeat (walk_at "rd")
    refine k { d with st := l2, ks := addK (addK d.ks x) y, ls := d.ls ++ [⟨x, y, kk, lab⟩], tr := d.tr ++ [r2], sr := d.sr ++ [r], calm := false } H3
      ⟨k3 _ _ Ea (nk _ hH.a_ah hH.a_al), k3 _ _ Epl (nk _ hH.pl_ah hH.pl_al), k3 _ _ Ehd (nk _ hdah hH.hd_al), W3, ?_, ?_, k3 _ _ Ese (nk _ hH.se_ah hH.se_al), ⟨g.p2, g.p7, g.pn, g.p0, ?_, (fun z => by cases z), ?_, ?_, s1, s4⟩, hdah, l2al⟩ hp3 G3.fr G3.gr ⟨rfl, rfl, rfl, rfl, rfl, ?_⟩ (by simp)
    · rw [List.map_append]
      exact k3 _ _ El2 (nk _ l2ah l2al)
    · exact Esr.keep k3 (by
        intro c hc o e l
        simp only [List.mem_cons, List.not_mem_nil, or_false] at hc
        rcases hc with rfl | rfl
        · rw [e_ah] at e; cases e; intro z; cases z
        · rw [e_al] at e; cases e; intro z; cases z)
    · intro q hq
      rcases mem_addK.mp hq with hq | rfl
      · rcases mem_addK.mp hq with hq | rfl
        · exact g.ksub q hq
        · exact mx
      · exact my
    · show (d.ls ++ [_]).length ≤ 400
      rw [List.length_append, List.length_singleton]; omega
    · intro i l hi
      by_cases c : i < d.ls.length
      · have hi' : (d.ls ++ [(⟨x, y, kk, lab⟩ : Lim)])[i]? = some l := hi
        rw [List.getElem?_append_left c] at hi'
        exact g.lab i l hi'
      · have hi' : (d.ls ++ [(⟨x, y, kk, lab⟩ : Lim)])[i]? = some l := hi
        have il := (List.getElem?_eq_some_iff.mp hi').1
        rw [List.length_append, List.length_singleton] at il
        have ei : i = d.ls.length := by omega
        subst ei
        rw [List.getElem?_append_right (Nat.le_refl _), Nat.sub_self] at hi'
        cases hi'
        refine ⟨t, s2, t0, t1, sv, ?_⟩
        show lab = _
        rw [← ela, List.length_map, slen]
    · intro z hz
      unfold Hs.F at hz ⊢
      simp only [List.mem_cons, List.not_mem_nil, or_false] at hz ⊢
      rcases hz with rfl | rfl | rfl | rfl | rfl | rfl | rfl | rfl
      all_goals first | (right; exact nl2H) | (left; simp)
end
end L2.K44
end P_K44k
section P_K44l
namespace L2.K44
open PySem PySem.Spec PyProof.Rows L2.KB
theorem at_ps {ps : List Int} {r : Int} (h0 : 0 ≤ r) (h1 : r < ((ps.map V.int).length : Int)) : ∃ x ∈ ps, atI (ps.map V.int) r = some (.int x) := by
  obtain ⟨n, rfl⟩ := Int.eq_ofNat_of_zero_le h0
  rw [List.length_map] at h1
  have h : n < ps.length := by omega
  exact ⟨ps[n], List.getElem_mem h, atI_nat (by rw [List.getElem?_map, List.getElem?_eq_getElem h]; rfl)⟩
theorem Step.pre {H H1 : Hp} {d d' : Hs} {F : List Addr} (g : Go F H H1) (s : Step H1 d d') : Step H d d' := ⟨s.a, s.pl, s.hd, s.ps, s.hv, fun z hz => (s.F z hz).imp_right g.back⟩
section
variable {P : Program} {wd : World} {K : PySem.W.Frag} {mg : Str → Option Value} {base : Heap}
abbrev st__law_limited : Stmt := topS 10
abbrev N__law_limited : List Str := ["pool", "house", "places", "x", "y", "k"]
theorem sc__law_limited : FnScope N__law_limited ["pool", "house"] (defScope st__law_limited) := ⟨rfl, rfl, rfl, by decide +kernel, rfl, by decide +kernel, by decide +kernel⟩

set_option maxHeartbeats 16000000 in
theorem ok_limited {f C fT fL : Addr} {fd fdT fdL : FuncData} (F : Fun K "_law_limited" "_law_limited" st__law_limited f fd) (T : Txt K mg C) (C_law_take : Cal P wd K mg base 1 "_law_take" fT fdT ["pool", "size"] spTake)
    (C_law_put : Cal P wd K mg base 2 "_law_put" fL fdL ["pool", "house", "x", "y", "k"] (spPut C)) : FnOk P wd K mg base CX0 3 f fd ["pool", "house"] (spDo C 400) := by
  refine F.ok sc__law_limited (fun vs H Q E h => ?_) (fun cdv A outer s H vs Q E hr h => ?_)
  · obtain ⟨p, d, rfl, _⟩ := h
    rfl
  · obtain ⟨p, d, rfl, hp, hH, room, k⟩ := h
    have hu := hu_of hr
    have nd := sc__law_limited.nd
    have hr1 : Room 1 _ := hr.mono (by decide)
    have ha := hH.ha
    have hpl := hH.hpl
    have p2 := hH.good.p2
    have p7 := hH.good.p7
    have lm : (d.ps.map V.int).length = d.ps.length := List.length_map _
    refine ⟨_, (pss_cons (ps_set (i := 2) nd rfl (Or.inl rfl) (pe_dget hu (pv 1) pe_str (fun _ _ => rfl)))
  (pss_cons (ps_set (i := 3) nd rfl (Or.inl rfl) (pe_ix ix_list (pv 2) (pe_f C_law_take hr1 (pa_cons (pv 0) (pa_cons (pe_callB call_len_seq (by rfl) T.b_len PySem.boot_len (pa_cons (pv 2) pa_nil)) pa_nil))) (fun _ _ => rfl)))
  (pss_cons (ps_set (i := 4) nd rfl (Or.inl rfl) (pe_ix ix_list (pv 2) (pe_f C_law_take hr1 (pa_cons (pv 0) (pa_cons (pe_callB call_len_seq (by rfl) T.b_len PySem.boot_len (pa_cons (pv 2) pa_nil)) pa_nil))) (fun _ _ => rfl)))
  (pss_cons (ps_if (pt_cmpR op_eq (pe_f C_law_take hr1 (pa_cons (pv 0) (pa_cons pe_int pa_nil))) pe_int (nomark _))
    (pss_one (ps_set (i := 4) nd rfl (Or.inl rfl) (pv 3)))
    pss_nil)
  (pss_cons (ps_set (i := 5) nd rfl (Or.inl rfl) (pe_op op_add (pe_op op_sub (pe_dget hu (pe_dget hu (pv 1) pe_str (fun _ _ => rfl)) (pv 3) (fun _ _ => rfl)) (pe_dget hu (pe_dget hu (pv 1) pe_str (fun _ _ => rfl)) (pv 4) (fun _ _ => rfl))) (pe_ix ix_tup (pe_tup (pa_cons pe_int (pa_cons pe_int (pa_cons pe_int (pa_cons pe_int pa_nil))))) (pe_f C_law_take hr1 (pa_cons (pv 0) (pa_cons pe_int pa_nil))) (fun _ _ => rfl))))
  (pss_cons (ps_if (pt_cmpR op_eq (pe_f C_law_take hr1 (pa_cons (pv 0) (pa_cons pe_int pa_nil))) pe_int (nomark _))
    (pss_one (ps_set (i := 5) nd rfl (Or.inl rfl) (pe_op op_sub (pe_f C_law_take hr1 (pa_cons (pv 0) (pa_cons pe_int pa_nil))) pe_int)))
    pss_nil)
  (pss_one (ps_ret (pe_f C_law_put hr (pa_cons (pv 0) (pa_cons (pv 1) (pa_cons (pv 3) (pa_cons (pv 4) (pa_cons (pv 5) pa_nil)))))))))))))), ?_⟩
    repeat (walk_at "rd")
    refine ⟨p, _, rfl, hp, by omega, by omega, fun i1 H1 i10 i11 hp1 k1 => ?_⟩
    have hH1 := hH.fr0 (Fr.pool hp k1)
    have hpl1 := hH1.hpl
    have g1 := (Go.refl [] H).take hp hp1 k1
    obtain ⟨x, mx, hx⟩ := at_ps i10 i11
    repeat (walk_at "rd")
    refine ⟨p, _, rfl, hp1, by omega, by omega, fun i2 H2 i20 i21 hp2 k2 => ?_⟩
    have hH2 := hH1.fr0 (Fr.pool hp1 k2)
    have hpl2 := hH2.hpl
    have g2 := g1.take hp1 hp2 k2
    obtain ⟨y, my, hy⟩ := at_ps i20 i21
    repeat (walk_at "rd")
    refine ⟨p, 10, rfl, hp2, by decide, by decide, fun i3 H3 i30 i31 hp3 k3 => ?_⟩
    have hH3 := hH2.fr0 (Fr.pool hp2 k3)
    have ha3 := hH3.ha
    have hhd3 := hH3.hhd
    have g3 := g2.take hp2 hp3 k3
    repeat (walk_at "rd")
    refine iteD (fun _ => ?_) (fun _ => ?_)
    all_goals
      repeat (walk_at "rd")
      refine k_dgetI hhd3 (valV_h mx) ?_
      repeat (walk_at "rd")
      refine k_dgetI hhd3 (valV_h (by first | exact mx | exact my)) ?_
      repeat (walk_at "rd")
      intro t nt
      repeat (walk_at "rd")
      have hp3t := hp3.new (o := .tup [V.int 0, .int 0, .int 1, .int 5]) nt
      refine ⟨p, 4, rfl, hp3t, by decide, by decide, fun i4 H4 i40 i41 hp4 k4 => ?_⟩
      have hH4 := (hH3.k0 ((Keep.refl [] H3).new nt)).fr0 (Fr.pool hp3t k4)
      have g4 := (g3.new nt).take hp3t hp4 k4
      have ht4 := k4 _ _ upd_same (by simpa using (hp3t.ne upd_same noPool_tup).symm)
      obtain ⟨rm, hrm, _⟩ := at4 (a := 0) (b := 0) (c := 1) (d := 5) i40 i41
      repeat (walk_at "rd")
      refine ⟨p, 6, rfl, hp4, by decide, by decide, fun i5 H5 i50 i51 hp5 k5 => ?_⟩
      have hH5 := hH4.fr0 (Fr.pool hp4 k5)
      have g5 := g4.take hp4 hp5 k5
      repeat (walk_at "rd")
      refine iteD (fun _ => ?_) (fun _ => ?_)
      · repeat (walk_at "rd")
        refine ⟨p, 9, rfl, hp5, by decide, by decide, fun i6 H6 i60 i61 hp6 k6 => ?_⟩
        have hH6 := hH5.fr0 (Fr.pool hp5 k6)
        have g6 := g5.take hp5 hp6 k6
        repeat (walk_at "rd")
        refine ⟨p, d, _, _, _, rfl, hp6, hH6, (by first | exact mx | exact my), (by first | exact mx | exact my), by omega, fun d' H' hH' hp' f' gr' st' _ => ?_⟩
        exact k d' H' hH' hp' (g6.any.fr.trans f') (g6.gr.trans gr') (st'.pre g6)
      · repeat (walk_at "rd")
        refine ⟨p, d, _, _, _, rfl, hp5, hH5, (by first | exact mx | exact my), (by first | exact mx | exact my), by omega, fun d' H' hH' hp' f' gr' st' _ => ?_⟩
        exact k d' H' hH' hp' (g5.any.fr.trans f') (g5.gr.trans gr') (st'.pre g5)
end
end L2.K44
end P_K44l
section P_K44m
namespace L2.K44
open PySem PySem.Spec PyProof.Rows L2.KB
theorem cut_take (xs : List V) (c : Nat) : cutV xs none (some (c : Int)) = xs.take c := by
  unfold cutV
  rw [HT.sIx_none, HT.sIx_nat, List.drop_zero, Nat.sub_zero]
  rcases Nat.le_total c xs.length with h | h
  · rw [Nat.min_eq_left h]
  · rw [Nat.min_eq_right h, List.take_length, List.take_of_length_le h]
theorem HouseAt.stand_at {C : Addr} {H : Hp} {d : Hs} (h : HouseAt C H d) {r : Int} (h0 : 0 ≤ r) (h1 : r < ((d.sr.map V.ref).length : Int)) : ∃ q l, atI (d.sr.map V.ref) r = some (.ref q) ∧ H q = some (.tup [.int l.x, .int l.y, .int l.k, .int l.lab]) ∧ l.x ∈ d.ps ∧ l.y ∈ d.ps ∧ l ∈ d.ls := by
  obtain ⟨n, rfl⟩ := Int.eq_ofNat_of_zero_le h0
  rw [List.length_map] at h1
  have hn : n < d.sr.length := by omega
  have hl : n < d.ls.length := by rw [← h.slen]; exact hn
  have ml := List.getElem_mem hl
  have i := h.W.good.inn _ ml
  exact ⟨d.sr[n], d.ls[n], atI_nat (by rw [List.getElem?_map, List.getElem?_eq_getElem hn]; rfl), h.hsr.2 n _ _ (List.getElem?_eq_getElem hn) (List.getElem?_eq_getElem hl), h.good.ksub _ i.1, h.good.ksub _ i.2, ml⟩
/-- a list of ints that is not the house's places -/
theorem HouseAt.ints_out {C : Addr} {H : Hp} {d : Hs} (h : HouseAt C H d) {o : Addr} {qs : List Int} (e : H o = some (.lst (qs.map V.int))) (n : qs ≠ []) (np : o ≠ d.pl) : o ∉ d.F := by
  have refs : ∀ rs : List Addr, HO.lst (qs.map V.int) ≠ .lst (rs.map V.ref) := fun rs z => by
    cases qs with
    | nil => exact n rfl
    | cons a r =>
      injection z with z
      cases rs with
      | nil => cases z
      | cons b q => injection z with z _; cases z
  intro m
  unfold Hs.F at m
  simp only [List.mem_cons, List.not_mem_nil, or_false] at m
  rcases m with rfl | rfl | rfl | rfl | rfl | rfl | rfl | rfl
  · rw [h.ha] at e; cases e
  · exact np rfl
  · rw [h.hhd] at e; cases e
  · rw [h.W.hw] at e; cases e
  · rw [h.W.hh] at e; cases e
  · rw [h.W.hl] at e; exact refs _ (Option.some.inj e).symm
  · rw [h.hst] at e; exact refs _ (Option.some.inj e).symm
  · rw [h.hse] at e; cases e
section
variable {P : Program} {wd : World} {K : PySem.W.Frag} {mg : Str → Option Value} {base : Heap}
abbrev st__law_turned : Stmt := topS 11
abbrev N__law_turned : List Str := ["pool", "house", "many", "x", "y", "k", "label"]
theorem sc__law_turned : FnScope N__law_turned ["pool", "house"] (defScope st__law_turned) := ⟨rfl, rfl, rfl, by decide +kernel, rfl, by decide +kernel, by decide +kernel⟩

set_option maxHeartbeats 16000000 in
theorem ok_turned {f C fT fL fP : Addr} {fd fdT fdL fdP : FuncData} (F : Fun K "_law_turned" "_law_turned" st__law_turned f fd) (T : Txt K mg C) (C_law_take : Cal P wd K mg base 1 "_law_take" fT fdT ["pool", "size"] spTake)
    (C_law_put : Cal P wd K mg base 2 "_law_put" fP fdP ["pool", "house", "x", "y", "k"] (spPut C)) (C_law_limited : Cal P wd K mg base 3 "_law_limited" fL fdL ["pool", "house"] (spDo C 400)) : FnOk P wd K mg base CX0 4 f fd ["pool", "house"] (spDo C 400) := by
  refine F.ok sc__law_turned (fun vs H Q E h => ?_) (fun cdv A outer s H vs Q E hr h => ?_)
  · obtain ⟨p, d, rfl, _⟩ := h
    rfl
  · obtain ⟨p, d, rfl, hp, hH, room, k⟩ := h
    have hu := hu_of hr
    have nd := sc__law_turned.nd
    have hr1 : Room 1 _ := hr.mono (by decide)
    have hr2 : Room 2 _ := hr.mono (by decide)
    have ha := hH.ha
    have hst := hH.hst
    have slen := hH.slen
    have lm : (d.sr.map V.ref).length = d.sr.length := List.length_map _
    refine ⟨_, (pss_cons (ps_set (i := 2) nd rfl (Or.inl rfl) (pe_callB call_len_seq (by rfl) T.b_len PySem.boot_len (pa_cons (pe_dget hu (pv 1) pe_str (fun _ _ => rfl)) pa_nil)))
  (pss_cons (ps_if (pt_cmpR op_eq (pv 2) pe_int (nomark _))
    (pss_one (ps_ret (pe_f C_law_limited hr (pa_cons (pv 0) (pa_cons (pv 1) pa_nil)))))
    pss_nil)
  (pss_cons (ps_asg (pe_ix ix_list (pe_dget hu (pv 1) pe_str (fun _ _ => rfl)) (pe_f C_law_take hr1 (pa_cons (pv 0) (pa_cons (pv 2) pa_nil))) (fun _ _ => rfl)) (pg_tup rfl (pgs_cons (pg_name (i := 3) nd rfl (Or.inl rfl)) (pgs_cons (pg_name (i := 4) nd rfl (Or.inl rfl)) (pgs_cons (pg_name (i := 5) nd rfl (Or.inl rfl)) (pgs_cons (pg_name (i := 6) nd rfl (Or.inl rfl)) pgs_nil))))))
  (pss_one (ps_ret (pe_f C_law_put hr2 (pa_cons (pv 0) (pa_cons (pv 1) (pa_cons (pv 4) (pa_cons (pv 3) (pa_cons (pe_op op_sub (pe_op op_sub pe_int (pv 5)) pe_int) pa_nil))))))))))), ?_⟩
    repeat (walk_at "rd")
    refine iteD (fun _ => ?_) (fun c0 => ?_)
    · repeat (walk_at "rd")
      exact ⟨p, d, rfl, hp, hH, room, k⟩
    · repeat (walk_at "rd")
      refine ⟨p, _, rfl, hp, by omega, by omega, fun i1 H1 i10 i11 hp1 k1 => ?_⟩
      have hH1 := hH.fr0 (Fr.pool hp k1)
      have hst1 := hH1.hst
      have g1 := (Go.refl [] H).take hp hp1 k1
      obtain ⟨q, l, hq, hl, mx, my, _⟩ := hH1.stand_at i10 i11
      repeat (walk_at "rd")
      refine ⟨p, d, _, _, _, rfl, hp1, hH1, my, mx, by omega, fun d' H' hH' hp' f' gr' st' _ => ?_⟩
      exact k d' H' hH' hp' (g1.any.fr.trans f') (g1.gr.trans gr') (st'.pre g1)
abbrev st__law_run : Stmt := topS 12
abbrev N__law_run : List Str := ["pool", "house", "order", "many", "odd", "k", "x", "y", "room"]
theorem sc__law_run : FnScope N__law_run ["pool", "house"] (defScope st__law_run) := ⟨rfl, rfl, rfl, by decide +kernel, rfl, by decide +kernel, by decide +kernel⟩

set_option maxHeartbeats 16000000 in
theorem ok_run {f C fT fP fM : Addr} {fd fdT fdP fdM : FuncData} (F : Fun K "_law_run" "_law_run" st__law_run f fd) (T : Txt K mg C) (C_law_take : Cal P wd K mg base 1 "_law_take" fT fdT ["pool", "size"] spTake)
    (C_law_mixed : Cal P wd K mg base 2 "_law_mixed" fM fdM ["pool", "row"] spMixed) (C_law_put : Cal P wd K mg base 2 "_law_put" fP fdP ["pool", "house", "x", "y", "k"] (spPut C)) : FnOk P wd K mg base CX0 3 f fd ["pool", "house"] (spDo C 393) := by
  refine F.ok sc__law_run (fun vs H Q E h => ?_) (fun cdv A outer s H vs Q E hr h => ?_)
  · obtain ⟨p, d, rfl, _⟩ := h
    rfl
  · obtain ⟨p, d, rfl, hp, hH, room, k⟩ := h
    have hu := hu_of hr
    have nd := sc__law_run.nd
    have hr1 : Room 1 _ := hr.mono (by decide)
    have hr2 : Room 2 _ := hr.mono (by decide)
    have ha := hH.ha
    have hpl := hH.hpl
    have p2 := hH.good.p2
    have p7 := hH.good.p7
    refine ⟨_, (pss_cons (ps_set (i := 2) nd rfl (Or.inl rfl) (pe_f C_law_mixed hr2 (pa_cons (pv 0) (pa_cons (pe_dget hu (pv 1) pe_str (fun _ _ => rfl)) pa_nil))))
  (pss_cons (ps_set (i := 2) nd rfl (Or.inl rfl) (pe_slice sl_list (pv 2) po_none (po_some (pe_op op_add pe_int (pe_f C_law_take hr1 (pa_cons (pv 0) (pa_cons (pe_op op_sub (pe_callB call_len_seq (by rfl) T.b_len PySem.boot_len (pa_cons (pv 2) pa_nil)) pe_int) pa_nil)))))))
  (pss_cons (ps_set (i := 3) nd rfl (Or.inl rfl) (pe_callB call_len_seq (by rfl) T.b_len PySem.boot_len (pa_cons (pv 2) pa_nil)))
  (pss_cons (ps_set (i := 4) nd rfl (Or.inl rfl) (pe_f C_law_take hr1 (pa_cons (pv 0) (pa_cons (pv 3) pa_nil))))
  (pss_cons (ps_for PassesOwn.never rfl (pi_range1 rfl T.b_range (pa_cons (pv 3) pa_nil)) (pg_name (i := 5) nd rfl (Or.inl rfl))
    (pss_cons (ps_set (i := 6) nd rfl (Or.inl rfl) (pe_ix ix_list (pv 2) (pv 5) (fun _ _ => rfl)))
  (pss_cons (ps_set (i := 7) nd rfl (Or.inl rfl) (pe_ix ix_list (pv 2) (pe_op op_mod (pe_callTy call_int1 (by rfl) T.b_int PyProof.Rows.boot_int (pa_cons (pe_op op_add (pv 5) pe_int) pa_nil)) (pv 3)) (fun _ _ => rfl)))
  (pss_cons (ps_set (i := 8) nd rfl (Or.inl rfl) (pe_ifExp (pt_cmpR op_eq (pv 5) (pv 4) (nomark _)) (pe_ix ix_tup (pe_tup (pa_cons (pe_un un_neg pe_int) (pa_cons (pe_un un_neg pe_int) (pa_cons pe_int (pa_cons pe_int pa_nil))))) (pe_f C_law_take hr1 (pa_cons (pv 0) (pa_cons pe_int pa_nil))) (fun _ _ => rfl)) pe_int))
  (pss_one (ps_if (pt_not (pt_val (pe_f C_law_put hr2 (pa_cons (pv 0) (pa_cons (pv 1) (pa_cons (pv 6) (pa_cons (pv 7) (pa_cons (pe_op op_add (pe_op op_sub (pe_dget hu (pe_dget hu (pv 1) pe_str (fun _ _ => rfl)) (pv 6) (fun _ _ => rfl)) (pe_dget hu (pe_dget hu (pv 1) pe_str (fun _ _ => rfl)) (pv 7) (fun _ _ => rfl))) (pv 8)) pa_nil))))))))
    (pss_one (ps_ret pe_bl))
    pss_nil))))))
  (pss_one (ps_ret pe_bl))))))), ?_⟩
    repeat (walk_at "rd")
    refine ⟨p, _, d.ps, rfl, hp, hpl, by omega, fun H1 r qs qp hp1 k1 nr hq1 => ?_⟩
    have g1 := (Go.refl [] H).take hp hp1 k1
    have hH1 := hH.fr0 g1.fr
    have ql := qp.length_eq
    have lm : (qs.map V.int).length = qs.length := List.length_map _
    repeat (walk_at "rd")
    refine ⟨p, _, rfl, hp1, by omega, by omega, fun t H2 t0 t1 hp2 k2 => ?_⟩
    have g2 := g1.take hp1 hp2 k2
    have hH2 := hH1.fr0 (Fr.pool hp1 k2)
    have hq2 := k2 _ _ hq1 (by simpa using (hp1.ne hq1 noPool_ints).symm)
    repeat (walk_at "rd")
    intro oa noa
    obtain ⟨tn, rfl⟩ := Int.eq_ofNat_of_zero_le t0
    rw [show (2 : Int) + (tn : Int) = ((2 + tn : Nat) : Int) by omega, cut_take, ← List.map_take]
    have os2 : 2 ≤ (qs.take (2 + tn)).length := by rw [List.length_take]; omega
    have os7 : (qs.take (2 + tn)).length ≤ 7 := by rw [List.length_take]; omega
    have osm : ∀ x ∈ qs.take (2 + tn), x ∈ d.ps := fun x hx => qp.mem_iff.mp (List.mem_of_mem_take hx)
    generalize qs.take (2 + tn) = os at *
    have lo : (os.map V.int).length = os.length := List.length_map _
    have osn : os ≠ [] := fun z => by rw [z] at os2; simp at os2
    have noaH := g2.back noa
    have g3 := g2.new (o := .lst (os.map V.int)) noa
    have hp3 := hp2.new (o := .lst (os.map V.int)) noa
    have hH3 := hH2.k0 ((Keep.refl [] H2).new (o := .lst (os.map V.int)) noa)
    have oa3 : upd H2 oa (.lst (os.map V.int)) oa = some (.lst (os.map V.int)) := upd_same
    have oapl : oa ≠ d.pl := (ne_of_none hpl noaH).symm
    generalize upd H2 oa (.lst (os.map V.int)) = H3 at *
    repeat (walk_at "rd")
    refine ⟨p, _, rfl, hp3, by omega, by omega, fun od H4 od0 od1 hp4 k4 => ?_⟩
    have g4 := g3.take hp3 hp4 k4
    have hH4 := hH3.fr0 (Fr.pool hp3 k4)
    have oa4 := k4 _ _ oa3 (by simpa using (hp3.ne oa3 noPool_ints).symm)
    repeat (walk_at "rd")
    refine k_forR (n := (os.map V.int).length) (by omega) (fun i σ H5 => ∃ (ko xo yo ro : Option V) (d' : Hs), σ = [some (.ref p), some (.ref d.a), some (.ref oa), some (.int ((os.map V.int).length : Int)), some (.int od), ko, xo, yo, ro] ∧ HouseAt C H5 d' ∧ PoolAt H5 p ∧ H5 oa = some (.lst (os.map V.int)) ∧ Fr d.F H H5 ∧ Grow H H5 ∧ Step H d d' ∧ d'.ls.length = d.ls.length + i)
      ⟨_, _, _, _, d, rfl, hH4, hp4, oa4, g4.any.fr, g4.gr, Step.refl _ _, rfl⟩ ?_ ?_
    · rintro i σ H5 hi ⟨ko, xo, yo, ro, d', rfl, hH5, hp5, oa5, f5, gr5, s5, l5⟩
      have il : i < os.length := by omega
      have hx : (os.map V.int)[i]? = some (.int os[i]) := by rw [List.getElem?_map, List.getElem?_eq_getElem il]; rfl
      have mx := osm _ (List.getElem_mem il)
      generalize os[i] = x at *
      have e0 : 0 ≤ ((i : Int) + 1) % ((os.map V.int).length : Int) := Int.emod_nonneg _ (by omega)
      have e1 : ((i : Int) + 1) % ((os.map V.int).length : Int) < ((os.map V.int).length : Int) := Int.emod_lt_of_pos _ (by omega)
      obtain ⟨y, my, hy⟩ := at_ps e0 e1
      replace my := osm _ my
      rw [← s5.ps] at mx my
      have fin : ∀ H6, HouseAt C H6 d' → PoolAt H6 p → H6 oa = some (.lst (os.map V.int)) → Go [] H5 H6 → ∀ (d2 : Hs) (H7 : Hp), HouseAt C H7 d2 → PoolAt H7 p → Fr d'.F H6 H7 → Grow H6 H7 → Step H6 d' d2 → d2.ls.length = d'.ls.length + 1 →
          HouseAt C H7 d2 ∧ PoolAt H7 p ∧ H7 oa = some (.lst (os.map V.int)) ∧ Fr d.F H H7 ∧ Grow H H7 ∧ Step H d d2 ∧ d2.ls.length = d.ls.length + (i + 1) := by
        intro H6 hH6 hp6 oa6 g6 d2 H7 hH7 hp7 f7 gr7 s7 l7
        refine ⟨hH7, hp7, f7 _ _ oa6 (hH6.ints_out oa6 osn (by rw [s5.pl]; exact oapl)) noPool_ints, ?_, (gr5.trans g6.gr).trans gr7, ?_, by omega⟩
        · intro c o e n np
          refine f7 c o (g6.at (f5 c o e n np) (by simp) np) (fun m => ?_) np
          rcases s5.F c m with q | q
          · exact n q
          · rw [q] at e; cases e
        · exact ⟨s7.a.trans s5.a, s7.pl.trans s5.pl, s7.hd.trans s5.hd, s7.ps.trans s5.ps, s7.hv.trans s5.hv, fun z hz => (s7.F z hz).elim (fun q => s5.F z q) fun q => .inr (gr5 z (g6.back q))⟩
      repeat (walk_at "rd")
      refine iteD (fun _ => ?_) (fun _ => ?_)
      · repeat (walk_at "rd")
        intro t4 nt4
        repeat (walk_at "rd")
        have hp5t := hp5.new (o := .tup [V.int (-1), .int (-1), .int 0, .int 2]) nt4
        refine ⟨p, 4, rfl, hp5t, by decide, by decide, fun i4 H6 i40 i41 hp6 k6 => ?_⟩
        have hH6 := (hH5.k0 ((Keep.refl [] H5).new (o := .tup [V.int (-1), .int (-1), .int 0, .int 2]) nt4)).fr0 (Fr.pool hp5t k6)
        have g6 := ((Go.refl [] H5).new (o := .tup [V.int (-1), .int (-1), .int 0, .int 2]) nt4).take hp5t hp6 k6
        have ht6 := k6 _ _ upd_same (by simpa using (hp5t.ne upd_same noPool_tup).symm)
        have oa6 := g6.at oa5 (by simp) noPool_ints
        have ha6 := hH6.ha
        have hhd6 := hH6.hhd
        rw [s5.a] at ha6
        obtain ⟨rm, hrm, _⟩ := at4 (a := -1) (b := -1) (c := 0) (d := 2) i40 i41
        repeat (walk_at "rd")
        refine k_dgetI hhd6 (valV_h mx) ?_
        repeat (walk_at "rd")
        refine k_dgetI hhd6 (valV_h my) ?_
        repeat (walk_at "rd")
        refine ⟨p, d', _, _, _, by rw [s5.a]; rfl, hp6, hH6, mx, my, by omega, fun d2 H7 hH7 hp7 f7 gr7 s7 l7 => ?_⟩
        repeat (walk_at "rd")
        refine iteF ?_
        repeat (walk_at "rd")
        exact ⟨_, _, _, _, d2, rfl, fin H6 hH6 hp6 oa6 g6 d2 H7 hH7 hp7 f7 gr7 s7 l7⟩
      · have ha5 := hH5.ha
        have hhd5 := hH5.hhd
        rw [s5.a] at ha5
        repeat (walk_at "rd")
        refine k_dgetI hhd5 (valV_h mx) ?_
        repeat (walk_at "rd")
        refine k_dgetI hhd5 (valV_h my) ?_
        repeat (walk_at "rd")
        refine ⟨p, d', _, _, _, by rw [s5.a]; rfl, hp5, hH5, mx, my, by omega, fun d2 H7 hH7 hp7 f7 gr7 s7 l7 => ?_⟩
        repeat (walk_at "rd")
        refine iteF ?_
        repeat (walk_at "rd")
        exact ⟨_, _, _, _, d2, rfl, fin H5 hH5 hp5 oa5 (Go.refl _ _) d2 H7 hH7 hp7 f7 gr7 s7 l7⟩
    · rintro σ H5 ⟨ko, xo, yo, ro, d', rfl, hH5, hp5, oa5, f5, gr5, s5, l5⟩
      repeat (walk_at "rd")
      exact k d' H5 hH5 hp5 f5 gr5 s5
end
end L2.K44
end P_K44m
section P_K44n
namespace L2.K44
open PySem PySem.Spec PyProof.Rows L2.KB
section
variable {P : Program} {wd : World} {K : PySem.W.Frag} {mg : Str → Option Value} {base : Heap}
abbrev st__law_back : Stmt := topS 17
abbrev N__law_back : List Str := ["pool", "house", "many", "count"]
theorem sc__law_back : FnScope N__law_back ["pool", "house"] (defScope st__law_back) := ⟨rfl, rfl, rfl, by decide +kernel, rfl, by decide +kernel, by decide +kernel⟩

set_option maxHeartbeats 16000000 in
theorem ok_lback {f C fT fB : Addr} {fd fdT fdB : FuncData} (F : Fun K "_law_back" "_law_back" st__law_back f fd) (T : Txt K mg C) (C_law_take : Cal P wd K mg base 1 "_law_take" fT fdT ["pool", "size"] spTake)
    (CWays_back : CalM P wd K mg base 1 C "back" fB fdB ["self", "count"] (spBack C)) : FnOk P wd K mg base CX0 2 f fd ["pool", "house"] (spDo C 401) := by
  refine F.ok sc__law_back (fun vs H Q E h => ?_) (fun cdv A outer s H vs Q E hr h => ?_)
  · obtain ⟨p, d, rfl, _⟩ := h
    rfl
  · obtain ⟨p, d, rfl, hp, hH, _, k⟩ := h
    have hu := hu_of hr
    have nd := sc__law_back.nd
    have hr1 := hr
    have ha := hH.ha
    have hst := hH.hst
    have l4 := hH.good.l4
    have slen := hH.slen
    have lm : (d.sr.map V.ref).length = d.sr.length := List.length_map _
    refine ⟨_, (pss_cons (ps_set (i := 2) nd rfl (Or.inl rfl) (pe_callB call_len_seq (by rfl) T.b_len PySem.boot_len (pa_cons (pe_dget hu (pv 1) pe_str (fun _ _ => rfl)) pa_nil)))
  (pss_cons (ps_set (i := 3) nd rfl (Or.inl rfl) (pe_f C_law_take hr1 (pa_cons (pv 0) (pa_cons (pe_op op_add (pv 2) pe_int) pa_nil))))
  (pss_cons (ps_if (pt_cmpR op_gt (pe_f C_law_take hr1 (pa_cons (pv 0) (pa_cons pe_int pa_nil))) pe_int (nomark _))
    (pss_one (ps_set (i := 3) nd rfl (Or.inl rfl) (pe_callB (call_max2 rfl) (by rfl) T.b_max boot_max (pa_cons pe_int (pa_cons (pe_op op_sub (pe_op op_sub (pv 2) pe_int) (pe_f C_law_take hr1 (pa_cons (pv 0) (pa_cons pe_int pa_nil)))) pa_nil)))))
    pss_nil)
  (pss_cons (ps_dput hu (pv 1) pe_str (pe_slice sl_list (pe_dget hu (pv 1) pe_str (fun _ _ => rfl)) po_none (po_some (pv 3))) rfl)
  (pss_one (ps_ret (pe_cmp (pc_isN (pe_mm CWays_back hr T.cl (pe_dget hu (pv 1) pe_str (fun _ _ => rfl)) (pa_cons (pv 3) pa_nil)))))))))), ?_⟩
    repeat (walk_at "rd")
    refine ⟨p, _, rfl, hp, by omega, by omega, fun i1 H1 i10 i11 hp1 k1 => ?_⟩
    have g1 := (Go.refl [] H).take hp hp1 k1
    repeat (walk_at "rd")
    refine ⟨p, 3, rfl, hp1, by decide, by decide, fun i2 H2 i20 i21 hp2 k2 => ?_⟩
    have g2 := g1.take hp1 hp2 k2
    have hH2 := hH.fr0 g2.fr
    have ha2 := hH2.ha
    have hst2 := hH2.hst
    have fin : ∀ (c : Nat) (H3 H4 : Hp) (p3 : Addr), HouseAt C H3 d → PoolAt H3 p → Go [] H H3 → H3 p3 = none →
        (∀ c', (c' ≠ d.a → H4 c' = upd H3 p3 (.lst ((d.sr.take c).map V.ref)) c')) → H4 d.a = some (.dK (hkv d.pl d.hd d.w p3 d.se d.calm d.start d.step)) → spBack C [.ref d.w, .int (c : Int)] H4 (fun v H5 => Q (.bl (decide (v = .non))) H5) E := by
      intro c H3 H4 p3 hH3 hp3 g3 np3 eH4 ea
      have a_p3 : d.a ≠ p3 := ne_of_none hH3.ha np3
      have old : ∀ x o, H3 x = some o → x ≠ d.a → H4 x = some o := fun x o e n => by rw [eH4 x n]; exact upd_new np3 e
      have e3 : H4 p3 = some (.lst ((d.sr.take c).map V.ref)) := by rw [eH4 _ a_p3.symm]; exact upd_same
      have k4 : Keep [d.a] H3 H4 := fun x o e n => old x o e (by simpa using n)
      have hx : ∀ z ∈ [d.a], ∀ o, H3 z = some o → ∀ l, o ≠ limT l := by
        intro z hz o e l
        rw [List.mem_singleton.mp hz, hH3.ha] at e
        cases e; intro y; cases y
      have W4 := hH3.W.fr (Fr.of k4) (by simpa using hH3.a_w.symm) (by simpa using hH3.a_ah.symm) (by simpa using hH3.a_al.symm) hx
      have g4 : Go [d.a] H H4 := g3.any.keepF k4 (fun c hc => .inl hc) (by intro c hc; rw [List.mem_singleton.mp hc]; exact ⟨_, ea⟩)
      have hp4 := hp3.keep k4 (by intro c hc; rw [List.mem_singleton.mp hc]; exact ⟨_, hH3.ha, noPool_dK⟩)
      refine ⟨d.w, d.dx, d.ah, d.al, d.tr, d.ks, d.h, d.ls, d.n, c, rfl, W4, fun H5 W5 k5 => ?_⟩
      show Q (.bl (decide (V.non = V.non))) H5
      rw [show decide (V.non = V.non) = true from decide_eq_true rfl]
      have nk : ∀ z, z ≠ d.w → z ≠ d.al → z ∉ [d.w, d.al] := fun z n1 n2 m => by
        simp only [List.mem_cons, List.not_mem_nil, or_false] at m
        exact m.elim n1 n2
      have np3H := g3.back np3
      have p3w : p3 ≠ d.w := (ne_of_none hH3.W.hw np3).symm
      have p3al : p3 ≠ d.al := (ne_of_none hH3.W.hl np3).symm
      have hp5 := hp4.keep k5 (by
        intro c hc
        simp only [List.mem_cons, List.not_mem_nil, or_false] at hc
        rcases hc with rfl | rfl
        · exact ⟨_, W4.hw, noPool_ins⟩
        · exact ⟨_, W4.hl, noPool_refs⟩)
      have G5 : Go d.F H H5 := (g4.mono (G := d.F) (by
        intro c hc
        rw [List.mem_singleton.mp hc]
        unfold Hs.F; simp)).keepF k5 (by
          intro c hc
          simp only [List.mem_cons, List.not_mem_nil, or_false] at hc
          unfold Hs.F
          rcases hc with rfl | rfl <;> simp) (by
          intro c hc
          simp only [List.mem_cons, List.not_mem_nil, or_false] at hc
          rcases hc with rfl | rfl
          · exact ⟨_, W5.hw⟩
          · exact ⟨_, W5.hl⟩)
      have g := hH.good
      refine k { d with st := p3, sr := d.sr.take c, tr := d.tr.take c, ls := d.ls.take c, n := min d.n (d.ls.take c).length } H5
        ⟨k5 _ _ ea (nk _ hH.a_w hH.a_al), k5 _ _ (old _ _ hH3.hpl hH.a_pl.symm) (nk _ hH.pl_w hH.pl_al), k5 _ _ (old _ _ hH3.hhd hH.a_hd.symm) (nk _ hH.hd_w hH.hd_al), W5, k5 _ _ e3 (nk _ p3w p3al), ?_, k5 _ _ (old _ _ hH3.hse hH.a_se.symm) (nk _ hH.se_w hH.se_al), ⟨g.p2, g.p7, g.pn, g.p0, g.ksub, fun z => ?_, ?_, fun i l hi => ?_, g.s1, g.s4⟩, hH.hdah, p3al⟩ hp5 G5.fr G5.gr ⟨rfl, rfl, rfl, rfl, rfl, ?_⟩
      · refine ((hH3.hsr.fr (Fr.of k4) hx).take c).keep k5 ?_
        intro c hc o e l
        simp only [List.mem_cons, List.not_mem_nil, or_false] at hc
        rcases hc with rfl | rfl
        · rw [W4.hw] at e; cases e; intro z; cases z
        · rw [W4.hl] at e; cases e; intro z; cases z
      · have := g.calm z
        show min d.n (d.ls.take c).length = (d.ls.take c).length
        rw [this, List.length_take]; omega
      · show (d.ls.take c).length ≤ 400
        rw [List.length_take]; omega
      · have hi' : (d.ls.take c)[i]? = some l := hi
        have il := (List.getElem?_eq_some_iff.mp hi').1
        rw [List.length_take] at il
        rw [List.getElem?_take_of_lt (by omega)] at hi'
        exact g.lab i l hi'
      · intro z hz
        unfold Hs.F at hz ⊢
        simp only [List.mem_cons, List.not_mem_nil, or_false] at hz ⊢
        rcases hz with rfl | rfl | rfl | rfl | rfl | rfl | rfl | rfl
        all_goals first | (right; exact np3H) | (left; simp)
    repeat (walk_at "rd")
    refine iteD (fun _ => ?_) (fun _ => ?_)
    · repeat (walk_at "rd")
      refine ⟨p, 2, rfl, hp2, by decide, by decide, fun i3 H3 i30 i31 hp3 k3 => ?_⟩
      have g3 := g2.take hp2 hp3 k3
      have hH3 := hH.fr0 g3.fr
      have ha3 := hH3.ha
      have hst3 := hH3.hst
      have hw3 := hH3.W.hw
      repeat (walk_at "rd")
      have z0 : 0 ≤ (if ((d.sr.map V.ref).length : Int) - 1 - i3 > 0 then ((d.sr.map V.ref).length : Int) - 1 - i3 else 0) := by split <;> omega
      generalize (if ((d.sr.map V.ref).length : Int) - 1 - i3 > 0 then ((d.sr.map V.ref).length : Int) - 1 - i3 else 0) = z at *
      obtain ⟨c, rfl⟩ := Int.eq_ofNat_of_zero_le z0
      rw [cut_take, ← List.map_take]
      intro p3 np3
      repeat (walk_at "rd")
      have a_p3 : d.a ≠ p3 := ne_of_none hH3.ha np3
      have hw' : upd (upd H3 p3 (.lst ((d.sr.take c).map V.ref))) d.a (.dK (hkv d.pl d.hd d.w p3 d.se d.calm d.start d.step)) d.w = _ := upd_old hH3.a_w.symm (upd_new np3 hH3.W.hw)
      repeat (walk_at "rd")
      exact fin c H3 _ p3 hH3 hp3 g3 np3 (fun x n => upd_ne n) upd_same
    · repeat (walk_at "rd")
      have hw2 := hH2.W.hw
      obtain ⟨c, rfl⟩ := Int.eq_ofNat_of_zero_le i10
      rw [cut_take, ← List.map_take]
      intro p3 np3
      repeat (walk_at "rd")
      have a_p3 : d.a ≠ p3 := ne_of_none hH2.ha np3
      have hw' : upd (upd H2 p3 (.lst ((d.sr.take c).map V.ref))) d.a (.dK (hkv d.pl d.hd d.w p3 d.se d.calm d.start d.step)) d.w = _ := upd_old hH2.a_w.symm (upd_new np3 hH2.W.hw)
      repeat (walk_at "rd")
      exact fin c H2 _ p3 hH2 hp2 g2 np3 (fun x n => upd_ne n) upd_same
end
end L2.K44
end P_K44n
section P_K44o
namespace L2.K44
open PySem PySem.Spec PyProof.Rows L2.KB
def spPossible : Sp := fun vs H Q _ => ∃ (pl st : Addr) (ps : List Int) (sr : List Addr) (ls : List Lim), vs = [.ref pl, .ref st] ∧ H pl = some (.lst (ps.map V.int)) ∧ H st = some (.lst (sr.map V.ref)) ∧ Tups H sr ls ∧ ps.Nodup ∧ (∀ l ∈ ls, l.x ∈ ps ∧ l.y ∈ ps) ∧ ps.length ≤ 1000 ∧
  ∀ H' : Hp, Keep [] H H' → Q (.bl (bf (ps.length + 1) (fun _ => 0) ls)) H'
def Mid (pl st dp : Addr) (ps : List Int) (sr : List Addr) (H0 H : Hp) (d : Int → Int) : Prop := H pl = some (.lst (ps.map V.int)) ∧ H st = some (.lst (sr.map V.ref)) ∧ H dp = some (.dK (hkvs ps d)) ∧ Keep [] H0 H
section
variable {P : Program} {wd : World} {K : PySem.W.Frag} {mg : Str → Option Value} {base : Heap}
abbrev st__law_possible : Stmt := topS 13
abbrev N__law_possible : List Str := ["places", "stand", "depth", "place", "turn", "calm", "row"]
theorem sc__law_possible : FnScope N__law_possible ["places", "stand"] (defScope st__law_possible) := ⟨rfl, rfl, rfl, by decide +kernel, rfl, by decide +kernel, by decide +kernel⟩

set_option maxHeartbeats 16000000 in
theorem ok_possible {f C : Addr} {fd : FuncData} (F : Fun K "_law_possible" "_law_possible" st__law_possible f fd) (T : Txt K mg C) : FnOk P wd K mg base CX0 1 f fd ["places", "stand"] spPossible := by
  refine F.ok sc__law_possible (fun vs H Q E h => ?_) (fun cdv A outer s H vs Q E hr h => ?_)
  · obtain ⟨pl, st, ps, sr, ls, rfl, _⟩ := h
    rfl
  · obtain ⟨pl, st, ps, sr, ls, rfl, hpl, hst, ht, pn, hin, p7, k⟩ := h
    have hu := hu_of hr
    have nd := sc__law_possible.nd
    refine ⟨_, (pss_cons (ps_set (i := 2) nd rfl (Or.inl rfl) pe_dnewK)
  (pss_cons (ps_for PassesOwn.never rfl (pi_list (pv 0)) (pg_name (i := 3) nd rfl (Or.inl rfl))
    (pss_one (ps_dput hu (pv 2) (pv 3) pe_int rfl)))
  (pss_cons (ps_for PassesOwn.never rfl (pi_range1 rfl T.b_range (pa_cons (pe_op op_add (pe_callB call_len_seq (by rfl) T.b_len PySem.boot_len (pa_cons (pv 0) pa_nil)) pe_int) pa_nil)) (pg_name (i := 4) nd rfl (Or.inl rfl))
    (pss_cons (ps_set (i := 5) nd rfl (Or.inl rfl) pe_bl)
  (pss_cons (ps_for PassesOwn.never rfl (pi_list (pv 1)) (pg_name (i := 6) nd rfl (Or.inl rfl))
    (pss_one (ps_if (pt_cmpR op_gt (pe_dget hu (pv 2) (pe_ix ix_tup (pv 6) pe_int (fun _ _ => rfl)) (fun _ _ => rfl)) (pe_op op_add (pe_dget hu (pv 2) (pe_ix ix_tup (pv 6) pe_int (fun _ _ => rfl)) (fun _ _ => rfl)) (pe_ix ix_tup (pv 6) pe_int (fun _ _ => rfl))) (nomark _))
    (pss_cons (ps_dput hu (pv 2) (pe_ix ix_tup (pv 6) pe_int (fun _ _ => rfl)) (pe_op op_add (pe_dget hu (pv 2) (pe_ix ix_tup (pv 6) pe_int (fun _ _ => rfl)) (fun _ _ => rfl)) (pe_ix ix_tup (pv 6) pe_int (fun _ _ => rfl))) rfl)
  (pss_one (ps_set (i := 5) nd rfl (Or.inl rfl) pe_bl)))
    pss_nil)))
  (pss_one (ps_if (pt_val (pv 5))
    (pss_one (ps_ret pe_bl))
    pss_nil)))))
  (pss_one (ps_ret pe_bl))))), ?_⟩
    repeat (walk_at "rd")
    refine r_dnew fun dp ndp => ?_
    repeat (walk_at "rd")
    have pl_dp : pl ≠ dp := ne_of_none hpl ndp
    have st_dp : st ≠ dp := ne_of_none hst ndp
    have ptop : ∀ {H1 H2 : Hp} {o : HO}, Keep [] H H1 → Keep [] H (upd H1 dp o) := fun k => k.mine ndp
    refine k_forL (SqL.of (upd_new ndp hpl)) (fun i σ H1 => ∃ po : Option V, σ = [some (.ref pl), some (.ref st), some (.ref dp), po, none, none, none] ∧ H1 pl = some (.lst (ps.map V.int)) ∧ H1 st = some (.lst (sr.map V.ref)) ∧ H1 dp = some (.dK (hkvs (ps.take i) fun _ => 0)) ∧ Keep [] H H1)
      ⟨none, rfl, upd_new ndp hpl, upd_new ndp hst, upd_same, (Keep.refl _ _).new ndp⟩ (fun i σ H1 _ ⟨_, _, e, _⟩ => SqL.of e) ?_ ?_
    · rintro i x σ H1 hi ⟨po, rfl, w1, w2, w3, kp⟩
      rw [List.getElem?_map] at hi
      obtain ⟨y, hy, rfl⟩ := Option.map_eq_some_iff.mp hi
      have il := (List.getElem?_eq_some_iff.mp hy).1
      have ny : y ∉ ps.take i := fun m => by
        obtain ⟨j, hj⟩ := List.getElem?_of_mem m
        have jl := (List.getElem?_eq_some_iff.mp hj).1
        rw [List.length_take] at jl
        rw [List.getElem?_take_of_lt (by omega)] at hj
        exact nodup_ne pn (by omega) il (hj.trans hy.symm)
      repeat (walk_at "rd")
      refine k_dputI w3 (by unfold hkvs; rw [List.length_map, List.length_take]; exact small1000 (by omega)) (putK_set ny) ?_
      refine ⟨_, rfl, upd_old pl_dp w1, upd_old st_dp w2, ?_, kp.mine ndp⟩
      rw [List.take_add_one, hy, show fset (fun _ => (0 : Int)) y 0 = fun _ => 0 from funext fun q => by unfold fset; split <;> rfl]
      exact upd_same
    · rintro σ H1 ⟨po, rfl, w1, w2, w3, kp⟩
      rw [List.length_map, List.take_length] at w3
      repeat (walk_at "rd")
      rw [List.length_map, show (ps.length : Int) + 1 = ((ps.length + 1 : Nat) : Int) by omega]
      refine k_forR (n := ps.length + 1) (by omega) (fun i σ H2 => ∃ (to co ro : Option V) (d : Int → Int), σ = [some (.ref pl), some (.ref st), some (.ref dp), po, to, co, ro] ∧ Mid pl st dp ps sr H H2 d ∧ bf (ps.length + 1) (fun _ => 0) ls = bf (ps.length + 1 - i) d ls)
        ⟨none, none, none, fun _ => 0, rfl, ⟨w1, w2, w3, kp⟩, rfl⟩ ?_ ?_
      · rintro i σ H2 hi ⟨to, co, ro, d, rfl, ⟨m1, m2, m3, m4⟩, eb⟩
        repeat (walk_at "rd")
        refine k_forL (SqL.of m2) (fun j σ H3 => ∃ (ro : Option V), σ = [some (.ref pl), some (.ref st), some (.ref dp), po, some (.int (i : Int)), some (.bl ((ls.take j).foldl rstep (d, true)).2), ro] ∧ Mid pl st dp ps sr H H3 ((ls.take j).foldl rstep (d, true)).1)
          ⟨ro, rfl, m1, m2, m3, m4⟩ (fun j σ H3 _ ⟨_, _, _, e, _⟩ => SqL.of e) ?_ ?_
        · rintro j x σ H3 hj ⟨ro, rfl, n1, n2, n3, n4⟩
          rw [List.getElem?_map] at hj
          obtain ⟨t, hs, rfl⟩ := Option.map_eq_some_iff.mp hj
          have jl : j < ls.length := by rw [← ht.1]; exact (List.getElem?_eq_some_iff.mp hs).1
          have hl : ls[j]? = some ls[j] := List.getElem?_eq_getElem jl
          have tt : H3 t = some (.tup [.int ls[j].x, .int ls[j].y, .int ls[j].k, .int ls[j].lab]) := n4 _ _ (ht.2 j t _ hs hl) (by simp)
          have inn := hin _ (List.getElem_mem jl)
          have ef : (ls.take (j + 1)).foldl rstep (d, true) = rstep ((ls.take j).foldl rstep (d, true)) ls[j] := by
            rw [List.take_add_one, hl, List.foldl_append]; rfl
          rw [ef]
          generalize (ls.take j).foldl rstep (d, true) = e at *
          generalize ls[j] = l at *
          repeat (walk_at "rd")
          refine k_dgetI n3 (valV_h inn.1) ?_
          repeat (walk_at "rd")
          refine k_dgetI n3 (valV_h inn.2) ?_
          repeat (walk_at "rd")
          refine iteD (fun c => ?_) (fun c => ?_)
          · repeat (walk_at "rd")
            refine k_dgetI n3 (valV_h inn.2) ?_
            repeat (walk_at "rd")
            have r1 : rstep e l = (fset e.1 l.x (e.1 l.y + l.k), false) := if_pos c
            rw [r1]
            have e2 : putK (hkvs ps e.1) (.inl l.x) (.int (e.1 l.y + l.k)) = hkvs ps (fset e.1 l.x (e.1 l.y + l.k)) := by
              have z := putK_map (f := fun q => V.int (e.1 q)) (g := fun q => V.int (fset e.1 l.x (e.1 l.y + l.k) q)) inn.1 (fun q hq => by simp only [fset_ne hq])
              simp only [fset_same] at z
              exact z
            refine k_dputI n3 (by unfold hkvs; rw [List.length_map]; exact small1000 (by omega)) e2 ?_
            repeat (walk_at "rd")
            exact ⟨_, rfl, upd_old pl_dp n1, upd_old st_dp n2, upd_same, n4.mine ndp⟩
          · repeat (walk_at "rd")
            have r1 : rstep e l = e := if_neg c
            rw [r1]
            exact ⟨_, rfl, n1, n2, n3, n4⟩
        · rintro σ H3 ⟨ro, rfl, M⟩
          rw [List.length_map, ht.1, List.take_length] at *
          have er : ls.foldl rstep (d, true) = roundF d ls := rfl
          rw [er] at *
          have eb2 : bf (ps.length + 1 - i) d ls = if (roundF d ls).2 then true else bf (ps.length + 1 - (i + 1)) (roundF d ls).1 ls := by
            rw [show ps.length + 1 - i = (ps.length + 1 - (i + 1)) + 1 by omega]; rfl
          repeat (walk_at "rd")
          refine iteB (fun c => ?_) (fun c => ?_)
          · repeat (walk_at "rd")
            have := k H3 M.2.2.2
            rw [eb, eb2, if_pos c] at this
            exact this
          · repeat (walk_at "rd")
            refine ⟨_, _, _, _, rfl, M, ?_⟩
            rw [eb, eb2, if_neg (by rw [c]; exact Bool.false_ne_true)]
            rfl
      · rintro σ H2 ⟨to, co, ro, d, rfl, M, eb⟩
        rw [Nat.sub_self] at eb
        repeat (walk_at "rd")
        have := k H2 M.2.2.2
        rw [eb] at this
        exact this
end
end L2.K44
end P_K44o
section P_K44p
namespace L2.K44
open PySem PySem.Spec PyProof.Rows L2.KB
/-! ### the law's look at a ring -/
theorem Chain.hd {ls : List Lim} {z p : Int} {is : List Nat} (c : Chain ls z p is) {a : Nat} (h : is[0]? = some a) : (row ls a).x = p := by
  cases c with
  | last hx hy => cases h; exact hx
  | step hx r => cases h; exact hx
theorem Chain.nx {ls : List Lim} {z : Int} : ∀ {is : List Nat} {p : Int} (_ : Chain ls z p is) (j : Nat) {a b : Nat}, is[j]? = some a → is[j + 1]? = some b → (row ls a).y = (row ls b).x
  | _, _, .last hx hy, j, a, b, h1, h2 => by cases j <;> simp at h2
  | _, _, .step hx r, 0, a, b, h1, h2 => by
    cases h1
    rw [List.getElem?_cons_succ] at h2
    exact (r.hd h2).symm
  | _, _, .step hx r, j + 1, a, b, h1, h2 => by
    rw [List.getElem?_cons_succ] at h1 h2
    exact r.nx j h1 h2
theorem Chain.la {ls : List Lim} {z : Int} : ∀ {is : List Nat} {p : Int} (_ : Chain ls z p is) {a : Nat}, is[is.length - 1]? = some a → (row ls a).y = z
  | _, _, .last hx hy, a, h => by cases h; exact hy
  | _, _, .step (is := is) hx r, a, h => by
    have := List.length_pos_iff.mpr r.ne
    rw [List.length_cons, Nat.add_sub_cancel, show is.length = (is.length - 1) + 1 by omega, List.getElem?_cons_succ] at h
    exact r.la h
def spRingL : Sp := fun vs H Q _ => ∃ (r st : Addr) (is : List Nat) (sr : List Addr) (ls : List Lim), vs = [.ref r, .ref st] ∧ H r = some (.lst (is.map fun i => V.int (row ls i).lab)) ∧ H st = some (.lst (sr.map V.ref)) ∧ Tups H sr ls ∧ Ring ls is ∧ ls.length ≤ 400 ∧
  (∀ i j : Nat, i < j → j < ls.length → (row ls i).lab ≠ (row ls j).lab) ∧ ∀ H' : Hp, Keep [] H H' → Q (.bl true) H'
theorem ksum_snoc {ls : List Lim} {is : List Nat} {i : Nat} : ksum ls (is ++ [i]) = ksum ls is + (row ls i).k := by
  unfold ksum; rw [List.map_append, List.sum_append]; simp
section
variable {P : Program} {wd : World} {K : PySem.W.Frag} {mg : Str → Option Value} {base : Heap}
abbrev st__law_ring : Stmt := topS 14
abbrev N__law_ring : List Str := ["told", "stand", "table", "row", "walk", "total", "firsts", "k", "label"]
theorem sc__law_ring : FnScope N__law_ring ["told", "stand"] (defScope st__law_ring) := ⟨rfl, rfl, rfl, by decide +kernel, rfl, by decide +kernel, by decide +kernel⟩

set_option maxHeartbeats 16000000 in
theorem ok_lring {f C fW : Addr} {fd fdW : FuncData} (F : Fun K "_law_ring" "_law_ring" st__law_ring f fd) (T : Txt K mg C) (C_law_whole : Cal P wd K mg base 1 "_law_whole" fW fdW ["value"] spWhole) : FnOk P wd K mg base CX0 2 f fd ["told", "stand"] spRingL := by
  refine F.ok sc__law_ring (fun vs H Q E h => ?_) (fun cdv A outer s H vs Q E hr h => ?_)
  · obtain ⟨r, st, is, sr, ls, rfl, _⟩ := h
    rfl
  · obtain ⟨r, st, is, sr, ls, rfl, hto, hst, ht, ri, l4, dis, k⟩ := h
    have hu := hu_of hr
    have nd := sc__law_ring.nd
    have il := ri.len
    obtain ⟨z0, ch⟩ := ri.ch
    have ip := List.length_pos_iff.mpr ch.ne
    have lm : (is.map fun i => V.int (row ls i).lab).length = is.length := List.length_map _
    refine ⟨_, (pss_cons (ps_if (PW.pt (pw_or (pt_not (pt_val (pe_callB call_isi (by rfl) T.b_isinstance boot_isinstance (pa_cons (pv 0) (pa_cons (pe_bltn (v := .ty "list") rfl T.b_list boot_list rfl) pa_nil))))) (pw_or1 (pt_cmpR op_eq (pe_callB call_len_seq (by rfl) T.b_len PySem.boot_len (pa_cons (pv 0) pa_nil)) pe_int (nomark _)))))
    (pss_one (ps_ret pe_bl))
    pss_nil)
  (pss_cons (ps_set (i := 2) nd rfl (Or.inr rfl) pe_dnewK)
  (pss_cons (ps_for PassesOwn.never rfl (pi_list (pv 1)) (pg_name (i := 3) nd rfl (Or.inl rfl))
    (pss_one (ps_dput hu (pv 2) (pe_ix ix_tup (pv 3) pe_int (fun _ _ => rfl)) (pv 3) rfl)))
  (pss_cons (ps_if (pt_cmpR op_gt (pe_callB call_len_seq (by rfl) T.b_len PySem.boot_len (pa_cons (by refine' pe_lc (own := [("label", 8)]) rfl nd (pi_list (pv 0)) (blkOk_by (N := N__law_ring) (sc := defScope st__law_ring) (by decide +kernel)) (fun _ _ _ _ _ => (pg_name (i := 8) nd rfl (Or.inl rfl))) ?ht ?he; (case ht => exact (fun _ _ _ _ _ => (pts_one (PW.pt (pw_or (pt_not (pt_val (pe_f C_law_whole hr (pa_cons (pv 8) pa_nil)))) (pw_or1 (pt_cmp (pc_dnotin hu (pv 8) (pv 2))))))))); (case he => exact (fun _ _ _ _ _ => (pv 8)))) pa_nil)) pe_int (nomark _))
    (pss_one (ps_ret pe_bl))
    pss_nil)
  (pss_cons (by refine' ps_setLc (i := 4) (own := [("label", 8)]) (tt := tYes) rfl nd rfl rfl (sw_true rfl rfl rfl (by decide +kernel)) (pi_list (pv 0)) (blkOk_by (N := N__law_ring) (sc := defScope st__law_ring) (by decide +kernel)) (fun _ _ _ _ _ => (pg_name (i := 8) nd rfl (Or.inl rfl))) ?ht ?he; (case ht => exact (fun _ _ _ _ _ => pts_nil)); (case he => exact (fun _ _ _ _ _ => (pe_dget hu (pv 2) (pv 8) (fun _ _ => rfl)))))
  (pss_cons (ps_set (i := 5) nd rfl (Or.inl rfl) pe_int)
  (pss_cons (ps_set (i := 6) nd rfl (Or.inl rfl) (pe_lst pa_nil))
  (pss_cons (ps_for PassesOwn.never rfl (pi_range1 rfl T.b_range (pa_cons (pe_callB call_len_seq (by rfl) T.b_len PySem.boot_len (pa_cons (pv 4) pa_nil)) pa_nil)) (pg_name (i := 7) nd rfl (Or.inl rfl))
    (pss_cons (ps_if (PW.pt (pw_or (pt_cmpR op_ne (pe_ix ix_tup (pe_ix ix_list (pv 4) (pe_op op_sub (pv 7) pe_int) (fun _ _ => rfl)) pe_int (fun _ _ => rfl)) (pe_ix ix_tup (pe_ix ix_list (pv 4) (pv 7) (fun _ _ => rfl)) pe_int (fun _ _ => rfl)) (nomark _)) (pw_or1 (pt_cmpR op_in_seq (pe_ix ix_tup (pe_ix ix_list (pv 4) (pv 7) (fun _ _ => rfl)) pe_int (fun _ _ => rfl)) (pv 6) (by with_unfolding_all rfl)))))
    (pss_one (ps_ret pe_bl))
    pss_nil)
  (pss_cons (ps_expr (pe_bm PySem.F.plainAttrs_list PySem.F.slot_list_append PySem.F.type_list_append mt_append (pv 6) (pa_cons (pe_ix ix_tup (pe_ix ix_list (pv 4) (pv 7) (fun _ _ => rfl)) pe_int (fun _ _ => rfl)) pa_nil)))
  (pss_one (ps_set (i := 5) nd rfl (Or.inl rfl) (pe_op op_add (pv 5) (pe_ix ix_tup (pe_ix ix_list (pv 4) (pv 7) (fun _ _ => rfl)) pe_int (fun _ _ => rfl))))))))
  (pss_one (ps_ret (pe_cmpR op_lt (pv 5) pe_int (nomark _)))))))))))), ?_⟩
    repeat (walk_at "rd")
    refine k_isi (.base (.lst hto)) (by decide +kernel : kitB "list" "list" = some true) ?_
    repeat (walk_at "rd")
    refine iteF ?_
    repeat (walk_at "rd")
    refine iteD (fun c => by omega) (fun _ => ?_)
    repeat (walk_at "rd")
    refine r_dnew fun tb ntb => ?_
    repeat (walk_at "rd")
    have r_tb : r ≠ tb := ne_of_none hto ntb
    have st_tb : st ≠ tb := ne_of_none hst ntb
    refine k_forL (SqL.of (upd_new ntb hst)) (fun i σ H1 => ∃ (ro : Option V) (kvs : List (Key × V)), σ = [some (.ref r), some (.ref st), some (.ref tb), ro, none, none, none, none, none] ∧ H1 tb = some (.dK kvs) ∧ kvs.length ≤ i ∧ (∀ (j : Nat) t, j < i → sr[j]? = some t → valV kvs (.inl (row ls j).lab) = some (.ref t)) ∧ Keep [] H H1)
      ⟨none, [], rfl, upd_same, Nat.le_refl _, fun j t h => absurd h (Nat.not_lt_zero _), (Keep.refl _ _).new ntb⟩ (fun i σ H1 _ ⟨_, _, _, _, _, _, kp⟩ => SqL.of (kp _ _ hst (by simp))) ?_ ?_
    · rintro i x σ H1 hi ⟨ro, kvs, rfl, w1, w2, w3, kp⟩
      rw [List.getElem?_map] at hi
      obtain ⟨t, hs, rfl⟩ := Option.map_eq_some_iff.mp hi
      have jl : i < ls.length := by rw [← ht.1]; exact (List.getElem?_eq_some_iff.mp hs).1
      have tt : H1 t = some (.tup [.int (row ls i).x, .int (row ls i).y, .int (row ls i).k, .int (row ls i).lab]) := kp _ _ (ht.2 i t _ hs (row_get jl)) (by simp)
      repeat (walk_at "rd")
      refine k_dputI w1 (small1000 (by omega)) rfl ?_
      refine ⟨_, _, rfl, upd_same, by have := length_putK kvs (.inl (row ls i).lab) (.ref t); omega, fun j u hj hu => ?_, kp.mine ntb⟩
      rw [valV_put]
      by_cases e : j = i
      · subst e
        rw [hs] at hu; cases hu
        rw [if_pos rfl]
      · rw [if_neg (fun z => dis j i (by omega) jl (Sum.inl.inj z))]
        exact w3 j u (by omega) hu
    · rintro σ H1 ⟨ro, kvs, rfl, w1, w2, w3, kp⟩
      rw [List.length_map, ht.1] at w3
      have hto1 := kp _ _ hto (by simp)
      have tbl : ∀ i ∈ is, ∃ t, sr[i]? = some t ∧ valV kvs (.inl (row ls i).lab) = some (.ref t) := fun i hi => by
        have := ri.lt i hi
        have : i < sr.length := by rw [ht.1]; exact this
        exact ⟨_, List.getElem?_eq_getElem this, w3 i _ (ri.lt i hi) (List.getElem?_eq_getElem this)⟩
      repeat (walk_at "rd")
      refine k_lc (SqL.of hto1) fun D nD => ?_
      refine lc_list (fun i H2 => H2 D = some (.lst []) ∧ Keep [] H1 H2) ⟨upd_same, (Keep.refl _ _).new nD⟩ (fun i H2 _ ⟨_, kq⟩ => SqL.of (kq _ _ hto1 (by simp))) ?_ ?_
      · rintro i x H2 hi ⟨d1, kq⟩
        rw [List.getElem?_map] at hi
        obtain ⟨m, hm, rfl⟩ := Option.map_eq_some_iff.mp hi
        obtain ⟨t, ht1, ht2⟩ := tbl m (List.mem_of_getElem? hm)
        have w12 := kq _ _ w1 (by simp)
        repeat (walk_at "rd")
        refine ⟨rfl, ?_⟩
        repeat (walk_at "rd")
        refine ⟨_, rfl, ?_⟩
        repeat (walk_at "rd")
        refine iteF ?_
        repeat (walk_at "rd")
        refine k_dinI w12 ht2 ?_
        repeat (walk_at "rd")
        refine iteF ?_
        exact ⟨d1, kq⟩
      · rintro H2 ⟨d1, kq⟩
        repeat (walk_at "rd")
        refine iteD (fun c => absurd c (by decide)) (fun _ => ?_)
        repeat (walk_at "rd")
        have hto2 := kq _ _ hto1 (by simp)
        have w12 := kq _ _ w1 (by simp)
        have kp2 : Keep [] H H2 := kp.trans kq
        refine k_lc (SqL.of hto2) fun D2 nD2 => ?_
        refine lc_list (fun i H3 => ∃ ts : List Addr, ts.length = i ∧ H3 D2 = some (.lst (ts.map V.ref)) ∧ (∀ (j : Nat) t m, ts[j]? = some t → is[j]? = some m → sr[m]? = some t) ∧ Keep [] H2 H3) ⟨[], rfl, upd_same, fun j t m h => by simp at h, (Keep.refl _ _).new nD2⟩ (fun i H3 _ ⟨_, _, _, _, kz⟩ => SqL.of (kz _ _ hto2 (by simp))) ?_ ?_
        · rintro i x H3 hi ⟨ts, tl, f1, f2, kz⟩
          rw [List.getElem?_map] at hi
          obtain ⟨m, hm, rfl⟩ := Option.map_eq_some_iff.mp hi
          have jl := (List.getElem?_eq_some_iff.mp hm).1
          obtain ⟨t, ht1, ht2⟩ := tbl m (List.mem_of_getElem? hm)
          have w13 := kz _ _ w12 (by simp)
          repeat (walk_at "rd")
          refine ⟨rfl, ?_⟩
          repeat (walk_at "rd")
          refine iteT ?_
          repeat (walk_at "rd")
          refine k_dgetI w13 ht2 ?_
          repeat (walk_at "rd")
          refine ⟨_, f1, by rw [List.length_map]; exact small1000 (by omega), ts ++ [t], by rw [List.length_append, tl]; rfl, by rw [List.map_append]; exact upd_same, fun j u m' hj hm' => ?_, kz.mine nD2⟩
          by_cases c : j < ts.length
          · rw [List.getElem?_append_left c] at hj
            exact f2 j u m' hj hm'
          · rw [List.getElem?_append_right (by omega)] at hj
            have : j = ts.length := by
              have := (List.getElem?_eq_some_iff.mp hj).1
              simp at this; omega
            subst this
            simp at hj
            subst hj
            rw [tl, hm] at hm'
            cases hm'
            exact ht1
        · rintro H3 ⟨ts, tl, f1, f2, kz⟩
          rw [lm] at tl
          have kp3 : Keep [] H H3 := kp2.trans kz
          have tat : ∀ (j m : Nat), is[j]? = some m → ∃ t, (ts.map V.ref)[j]? = some (.ref t) ∧ H3 t = some (limT (row ls m)) := fun j m hj => by
            have jl : j < ts.length := by rw [tl]; exact (List.getElem?_eq_some_iff.mp hj).1
            have hj2 : ts[j]? = some ts[j] := List.getElem?_eq_getElem jl
            exact ⟨ts[j], by rw [List.getElem?_map, hj2]; rfl, kp3 _ _ (ht.2 m _ _ (f2 j _ m hj2 hj) (row_get (ri.lt m (List.mem_of_getElem? hj)))) (by simp)⟩
          have lt2 : (ts.map V.ref).length = is.length := by rw [List.length_map, tl]
          repeat (walk_at "rd")
          intro fi nfi
          repeat (walk_at "rd")
          have D2fi : D2 ≠ fi := ne_of_none f1 nfi
          rw [lt2]
          have nfiH : H fi = none := kp3.none nfi
          refine k_forR (n := is.length) (by omega) (fun i σ H4 => ∃ (lo ko : Option V), σ = [some (.ref r), some (.ref st), some (.ref tb), ro, some (.ref D2), some (.int (ksum ls (is.take i))), some (.ref fi), ko, lo] ∧ H4 fi = some (.lst ((is.take i).map fun m => V.int (row ls m).x)) ∧ H4 D2 = some (.lst (ts.map V.ref)) ∧ (∀ c o, H3 c = some o → H4 c = some o) ∧ Keep [] H H4)
            ⟨_, _, rfl, upd_same, upd_new nfi f1, fun c o e => upd_new nfi e, kp3.new nfi⟩ ?_ ?_
          · rintro i σ H4 hi ⟨lo, ko, rfl, v1, v2, v3, kp4⟩
            have hm : is[i]? = some is[i] := List.getElem?_eq_getElem hi
            obtain ⟨t, ht1, ht2⟩ := tat i _ hm
            have ht4 : H4 t = some (.tup [.int (row ls is[i]).x, .int (row ls is[i]).y, .int (row ls is[i]).k, .int (row ls is[i]).lab]) := v3 _ _ ht2
            have prev : ∃ u m, atI (ts.map V.ref) ((i : Int) - 1) = some (.ref u) ∧ H4 u = some (.tup [.int (row ls m).x, .int (row ls m).y, .int (row ls m).k, .int (row ls m).lab]) ∧ (row ls m).y = (row ls is[i]).x := by
              cases i with
              | zero =>
                have hl : is[is.length - 1]? = some is[is.length - 1] := List.getElem?_eq_getElem (by omega)
                obtain ⟨u, hu1, hu2⟩ := tat _ _ hl
                refine ⟨u, _, ?_, v3 _ _ hu2, (ch.la hl).trans (ch.hd hm).symm⟩
                unfold atI ixN
                rw [if_neg (by omega), if_pos (by omega), lt2]
                show (ts.map V.ref)[(((0 : Nat) : Int) - 1 + (is.length : Int)).toNat]? = _
                rw [show (((0 : Nat) : Int) - 1 + (is.length : Int)).toNat = is.length - 1 by omega]
                exact hu1
              | succ j =>
                have hl : is[j]? = some is[j] := List.getElem?_eq_getElem (by omega)
                obtain ⟨u, hu1, hu2⟩ := tat _ _ hl
                exact ⟨u, _, at_of (j := j) (by omega) hu1, v3 _ _ hu2, ch.nx j hl hm⟩
            obtain ⟨u, m, hu1, hu2, eu⟩ := prev
            repeat (walk_at "rd")
            refine iteN (fun c => (c eu).elim) (fun _ => ?_)
            repeat (walk_at "rd")
            have nin : inV (.int (row ls is[i]).x) ((is.take i).map fun m => V.int (row ls m).x) = false := by
              unfold inV
              rw [List.any_eq_false]
              intro y hy
              obtain ⟨m', hm', rfl⟩ := List.mem_map.mp hy
              show ¬ (((row ls m').x == (row ls is[i]).x) = true)
              rw [beq_iff_eq]
              intro e
              obtain ⟨j, hj⟩ := List.getElem?_of_mem hm'
              have jl := (List.getElem?_eq_some_iff.mp hj).1
              rw [List.length_take] at jl
              rw [List.getElem?_take_of_lt (by omega)] at hj
              exact nodup_ne ri.nd (i := j) (j := i) (by omega) (by rw [List.length_map]; exact hi) (by rw [List.getElem?_map, List.getElem?_map, hj, hm]; exact congrArg some e)
            refine ⟨fi, _, rfl, .inl (SqL.of v1), rfl, by rw [List.all_map]; exact List.all_eq_true.mpr fun _ _ => rfl, ?_⟩
            rw [nin]
            repeat (walk_at "rd")
            refine iteF ?_
            repeat (walk_at "rd")
            refine k_append v1 (by rw [List.length_map, List.length_take]; exact small1000 (by omega)) ?_
            repeat (walk_at "rd")
            have et : is.take (i + 1) = is.take i ++ [is[i]] := by rw [List.take_add_one, hm]; rfl
            refine ⟨lo, some (.int (i : Int)), ?_, ?_, upd_old D2fi v2, fun c o e => upd_old (ne_of_none e nfi) (v3 c o e), kp4.mine nfiH⟩
            · rw [et, ksum_snoc]; rfl
            · rw [et, List.map_append]; exact upd_same
          · rintro σ H4 ⟨lo, ko, rfl, v1, v2, v3, kp4⟩
            rw [List.take_length] at *
            repeat (walk_at "rd")
            have := k H4 kp4
            rw [← decide_eq_true ri.neg] at this
            exact this
end
end L2.K44
end P_K44p
section P_K44q
namespace L2.KB
open PySem PySem.Spec PyProof.Rows
section
variable {K : PySem.W.Frag} {σ : L2.St} {H : Hp} {Q : VK} {x : V} {g : TG} {tt : TT} {te t0 : TE} {vs : List Nat}
def kLcK (g : TG) (tt : TT) (te : TE) (vs : List Nat) (σ : L2.St) (Q : VK) (x : V) (H : Hp) : Prop := ∃ d o, x = .ref d ∧ ((∃ kvs, H d = some (.frz o (.dK kvs)) ∧ ∀ D, H D = none → kLW (Itk d o kvs) g tt te vs σ Q D H) ∨ ∃ kvs, H d = some (.frz o (.dT kvs)) ∧ ∀ D, H D = none → kLW (Itkt d o kvs) g tt te vs σ Q D H)
theorem r_lcK (h : t0 σ H fun x H1 => kLcK g tt te vs σ Q x H1) : tLc (iKeys t0) g tt te vs σ H Q := h
theorem k_lcK {d : Addr} {o : Obj} {kvs : List (Key × V)} (h : H d = some (.frz o (.dK kvs))) (q : ∀ D, H D = none → kLW (Itk d o kvs) g tt te vs σ Q D H) : kLcK g tt te vs σ Q (.ref d) H := ⟨d, o, rfl, .inl ⟨kvs, h, q⟩⟩
theorem r_bm0 {T : String} {r : V → List V → Hp → VK → Prop} (h : t0 σ H fun x H1 => tyV K T x H1 ∧ r x [] H1 Q) : tBM0 K T r t0 σ H Q := h
theorem k_dclear {a : Addr} {kvs : List (Key × V)} (h : H a = some (.dK kvs)) (q : Q .non (upd H a (.dK []))) : tyV K "dict" (.ref a) H ∧ rDClear (.ref a) [] H Q := ⟨.inr (.inr (.inl ⟨rfl, .inl ⟨kvs, h⟩⟩)), a, kvs, rfl, rfl, h, q⟩
theorem k_lclear {a : Addr} {xs : List V} (h : H a = some (.lst xs)) (q : Q .non (upd H a (.lst []))) : tyV K "list" (.ref a) H ∧ rClear (.ref a) [] H Q := ⟨.inl ⟨rfl, xs, SqL.of h⟩, a, xs, rfl, rfl, h, q⟩
end
end L2.KB
namespace L2.K44
open PySem PySem.Spec PyProof.Rows L2.KB
/-! ### what is kept in calm -/
theorem sorted_unique : ∀ {xs ys : List Int}, xs.Perm ys → xs.Pairwise (· ≤ ·) → ys.Pairwise (· ≤ ·) → xs = ys
  | [], ys, p, _, _ => (List.nil_perm.mp p).symm
  | x :: xs, [], p, _, _ => absurd p.length_eq (by simp)
  | x :: xs, y :: ys, p, h1, h2 => by
    obtain ⟨a1, a2⟩ := List.pairwise_cons.mp h1
    obtain ⟨b1, b2⟩ := List.pairwise_cons.mp h2
    have e : x = y := by
      have mx : x ∈ y :: ys := p.mem_iff.mp List.mem_cons_self
      have my : y ∈ x :: xs := p.mem_iff.mpr List.mem_cons_self
      have l1 : y ≤ x := by
        rcases List.mem_cons.mp mx with r | r
        · omega
        · exact b1 x r
      have l2 : x ≤ y := by
        rcases List.mem_cons.mp my with r | r
        · omega
        · exact a1 y r
      omega
    subst e
    rw [sorted_unique (List.Perm.cons_inv p) a2 b2]
theorem eqvAll_ints : ∀ ss : List Int, PyData.eqvAll (ss.map PyData.int) (ss.map PyData.int) = true
  | [] => rfl
  | s :: ss => by rw [List.map_cons, PyData.eqvAll, eqvAll_ints ss]; simp [PyData.eqv]
theorem DpAll_ints {K : PySem.W.Frag} {H : Hp} : ∀ ss : List Int, DpAll K H (ss.map V.int) (ss.map PyData.int)
  | [] => .nil
  | s :: ss => .cons (.int s) (DpAll_ints ss)
theorem canLay_ints : ∀ ss : List Int, PyData.canLayAll0 (ss.map PyData.int) = true
  | [] => rfl
  | s :: ss => by rw [List.map_cons, PyData.canLayAll0, canLay_ints ss]; rfl
theorem depthAll_ints : ∀ ss : List Int, PyData.depthAll (ss.map PyData.int) ≤ 1
  | [] => by rw [List.map_nil, PyData.depthAll]; omega
  | s :: ss => by
    have := depthAll_ints ss
    rw [List.map_cons, PyData.depthAll, PyData.depth]; omega
theorem shaped_ints (ss : List Int) : SeqAt.shaped (.list (ss.map PyData.int)) = true := by
  unfold SeqAt.shaped
  rw [Bool.and_eq_true]
  refine ⟨by rw [PyData.canLay0]; exact canLay_ints ss, decide_eq_true ?_⟩
  rw [PyData.depth]
  have := depthAll_ints ss
  omega
def spKept (C : Addr) : Sp := fun vs H Q _ => ∃ d : Hs, vs = [.ref d.a] ∧ HouseAt C H d ∧ d.calm = true ∧ ∀ H' : Hp, Keep [] H H' → Q (.bl true) H'
section
variable {P : Program} {wd : World} {K : PySem.W.Frag} {mg : Str → Option Value} {base : Heap}
abbrev st__law_kept : Stmt := topS 15
abbrev N__law_kept : List Str := ["house", "turn", "told", "place", "row"]
theorem sc__law_kept : FnScope N__law_kept ["house"] (defScope st__law_kept) := ⟨rfl, rfl, rfl, by decide +kernel, rfl, by decide +kernel, by decide +kernel⟩

set_option maxHeartbeats 16000000 in
theorem ok_kept {f C fW fH : Addr} {fd fdW fdH : FuncData} (F : Fun K "_law_kept" "_law_kept" st__law_kept f fd) (T : Txt K mg C) (C_law_whole : Cal P wd K mg base 1 "_law_whole" fW fdW ["value"] spWhole)
    (CWays_heights : CalM P wd K mg base 1 C "heights" fH fdH ["self"] (spHeights C)) : FnOk P wd K mg base CX0 2 f fd ["house"] (spKept C) := by
  refine F.ok sc__law_kept (fun vs H Q E h => ?_) (fun cdv A outer s H vs Q E hr h => ?_)
  · obtain ⟨d, rfl, _⟩ := h
    rfl
  · obtain ⟨d, rfl, hH, hc, k⟩ := h
    have hu := hu_of hr
    have nd := sc__law_kept.nd
    have cl := T.cl
    refine ⟨_, (pss_cons (ps_for PassesOwn.never rfl (pi_range1 rfl T.b_range (pa_cons pe_int pa_nil)) (pg_name (i := 1) nd rfl (Or.inl rfl))
    (pss_cons (ps_set (i := 2) nd rfl (Or.inr rfl) (pe_mm0 CWays_heights hr T.cl (pe_dget hu (pv 0) pe_str (fun _ _ => rfl))))
  (pss_cons (ps_if (PW.pt (pw_or (pt_not (pt_val (pe_callB call_isi (by rfl) T.b_isinstance boot_isinstance (pa_cons (pv 2) (pa_cons (pe_bltn (v := .ty "dict") rfl T.b_dict boot_dict rfl) pa_nil))))) (pw_or1 (pt_cmpR (op_neD hr.units) (pe_callTy (call_listD rfl) (by rfl) T.b_list boot_list (pa_cons (pv 2) pa_nil)) (pe_callB cr_sortedI (by rfl) T.b_sorted boot_sorted (pa_cons (pe_callTy (call_listD rfl) (by rfl) T.b_list boot_list (pa_cons (pe_dget hu (pv 0) pe_str (fun _ _ => rfl)) pa_nil)) pa_nil)) (nomark _)))))
    (pss_one (ps_ret pe_bl))
    pss_nil)
  (pss_cons (ps_if (pt_cmpR op_gt (pe_callB call_len_seq (by rfl) T.b_len PySem.boot_len (pa_cons (pe_lock (by refine' pe_lc (own := [("place", 3)]) rfl nd (pi_keys (pv 2)) (blkOk_by (N := N__law_kept) (sc := defScope st__law_kept) (by decide +kernel)) (fun _ _ _ _ _ => (pg_name (i := 3) nd rfl (Or.inl rfl))) ?ht ?he; (case ht => exact (fun _ _ _ _ _ => (pts_one (PW.pt (pw_or (pt_not (pt_val (pe_f C_law_whole hr (pa_cons (pv 3) pa_nil)))) (pw_or1 (pt_not (pt_val (pe_f C_law_whole hr (pa_cons (pe_dget hu (pv 2) (pv 3) (fun _ _ => rfl)) pa_nil)))))))))); (case he => exact (fun _ _ _ _ _ => (pv 3))))) pa_nil)) pe_int (nomark _))
    (pss_one (ps_ret pe_bl))
    pss_nil)
  (pss_cons (ps_if (PW.pt (pw_or (pt_cmpR op_ne (pe_dget hu (pv 2) pe_int (fun _ _ => rfl)) pe_int (nomark _)) (pw_or1 (pt_cmpR op_gt (pe_callB call_len_seq (by rfl) T.b_len PySem.boot_len (pa_cons (by refine' pe_lc (own := [("row", 4)]) rfl nd (pi_list (pe_dget hu (pv 0) pe_str (fun _ _ => rfl))) (blkOk_by (N := N__law_kept) (sc := defScope st__law_kept) (by decide +kernel)) (fun _ _ _ _ _ => (pg_name (i := 4) nd rfl (Or.inl rfl))) ?ht ?he; (case ht => exact (fun _ _ _ _ _ => (pts_one (pt_cmpR op_gt (pe_op op_sub (pe_dget hu (pv 2) (pe_ix (ixT K rfl) (pv 4) pe_int (fun _ _ => rfl)) (fun _ _ => rfl)) (pe_dget hu (pv 2) (pe_ix (ixT K rfl) (pv 4) pe_int (fun _ _ => rfl)) (fun _ _ => rfl))) (pe_ix (ixT K rfl) (pv 4) pe_int (fun _ _ => rfl)) (nomark _))))); (case he => exact (fun _ _ _ _ _ => (pv 4)))) pa_nil)) pe_int (nomark _)))))
    (pss_one (ps_ret pe_bl))
    pss_nil)
  (pss_one (ps_expr (pe_dclear (pv 2)))))))))
  (pss_one (ps_ret pe_bl))), ?_⟩
    repeat (walk_at "rd")
    refine k_forR (n := 2) (by omega) (fun i σ H1 => ∃ (to tl po ro : Option V), σ = [some (.ref d.a), to, tl, po, ro] ∧ Keep [] H H1) ⟨_, _, _, _, rfl, Keep.refl _ _⟩ ?_ ?_
    · rintro i σ H1 hi ⟨to, tl, po, ro, rfl, kp⟩
      have hH1 := hH.k0 kp
      have ha1 := hH1.ha
      have hw1 := hH1.W.hw
      repeat (walk_at "rd")
      refine ⟨d.w, d.dx, d.ah, d.al, d.tr, d.ks, d.h, d.ls, d.n, rfl, hH1.W, fun H2 t ss pm pw nt ht k2 => ?_⟩
      repeat (walk_at "rd")
      refine k_isi (.base (.dK ht)) (by decide +kernel : kitB "dict" "dict" = some true) ?_
      repeat (walk_at "rd")
      refine iteF ?_
      repeat (walk_at "rd")
      have kp2 : Keep [] H H2 := kp.trans k2
      have hH2 := hH.k0 kp2
      have ha2 := hH2.ha
      have hse2 := hH2.hse
      have k7 := hH.k7
      have sl := pm.length_eq
      have ek : (hkvs ss fun p => d.h p - d.h 0).map (fun kv => kV kv.1) = ss.map V.int := by
        unfold hkvs; rw [List.map_map]; rfl
      refine ⟨t, _, rfl, .inl ht, fun l1 nl1 => ?_⟩
      rw [ek]
      repeat (walk_at "rd")
      refine ⟨d.se, _, rfl, .inl (upd_new nl1 hse2), fun l2 nl2 => ?_⟩
      rw [show (d.ks.map fun p => ((Sum.inl p : Key), V.bl true)).map (fun kv => kV kv.1) = d.ks.map V.int by rw [List.map_map]; rfl]
      refine ⟨l2, d.ks, rfl, SqL.of upd_same, fun ns l3 pm2 pw2 nl3 => ?_⟩
      have es : ns = ss := sorted_unique (pm2.trans pm.symm) pw2 pw
      subst es
      have e1 : upd (upd (upd H2 l1 (.lst (ns.map V.int))) l2 (.lst (d.ks.map V.int))) l3 (.lst (ns.map V.int)) l1 = some (.lst (ns.map V.int)) := upd_new nl3 (upd_new nl2 upd_same)
      refine ⟨.list (ns.map PyData.int), .list (ns.map PyData.int), .lst (SqL.of e1) (DpAll_ints ns), .lst (SqL.of upd_same) (DpAll_ints ns), shaped_ints ns, shaped_ints ns, ?_⟩
      rw [show PyData.eqv (.list (ns.map PyData.int)) (.list (ns.map PyData.int)) = true by rw [PyData.eqv]; exact eqvAll_ints ns]
      have k3 : Keep [] H2 (upd (upd (upd H2 l1 (.lst (ns.map V.int))) l2 (.lst (d.ks.map V.int))) l3 (.lst (ns.map V.int))) := (((Keep.refl [] H2).new nl1).new nl2).new nl3
      generalize upd (upd (upd H2 l1 (.lst (ns.map V.int))) l2 (.lst (d.ks.map V.int))) l3 (.lst (ns.map V.int)) = H3 at *
      have ht3 := k3 _ _ ht (by simp)
      have kp3 : Keep [] H H3 := kp2.trans k3
      repeat (walk_at "rd")
      refine iteF ?_
      repeat (walk_at "rd")
      have ntH : H t = none := kp.none nt
      refine k_lockE ht3 fun od => ?_
      refine r_lcK ?_
      repeat (walk_at "rd")
      refine k_lcK upd_same fun D nD => ?_
      have tD : t ≠ D := ne_of_none upd_same nD
      have nD3 : H3 D = none := by rw [upd_ne tD.symm] at nD; exact nD
      refine lc_it walk_keys (fun i H4 => H4 D = some (.lst []) ∧ H4 t = some (.frz od (.dK (hkvs ns fun p => d.h p - d.h 0))) ∧ ∀ c o, c ≠ t → H3 c = some o → H4 c = some o) ⟨upd_same, upd_old tD upd_same, fun c o n e => upd_old (ne_of_none e nD3) (upd_old n e)⟩ (fun i H4 _ p => p.2.1) ?_ ?_
      · rintro i x H4 H4' hi ⟨v1, v2, v3⟩ ⟨rfl, ky, vl, hk, rfl⟩
        unfold hkvs at hk
        rw [List.getElem?_map] at hk
        obtain ⟨y, hy, e⟩ := Option.map_eq_some_iff.mp hk
        cases e
        have my : y ∈ ns := List.mem_of_getElem? hy
        repeat (walk_at "rd")
        refine ⟨rfl, ?_⟩
        repeat (walk_at "rd")
        refine ⟨y, rfl, ?_⟩
        repeat (walk_at "rd")
        refine iteF ?_
        repeat (walk_at "rd")
        refine k_dgetIz v2 (valV_h my) ?_
        repeat (walk_at "rd")
        refine ⟨_, rfl, ?_⟩
        repeat (walk_at "rd")
        refine iteF ?_
        exact ⟨v1, v2, v3⟩
      · rintro H4 ⟨v1, v2, v3⟩
        refine ⟨v2, ?_⟩
        have z0 : (0 : Int) ∈ ns := pm.mem_iff.mpr hH.W.good.z
        have ht5 : upd H4 t (.dK (hkvs ns fun p => d.h p - d.h 0)) t = _ := upd_same
        have D5 : upd H4 t (.dK (hkvs ns fun p => d.h p - d.h 0)) D = _ := upd_old tD.symm v1
        have kp5 : Keep [] H (upd H4 t (.dK (hkvs ns fun p => d.h p - d.h 0))) := fun c o e _ => by
          have n : c ≠ t := ne_of_none e ntH
          exact upd_old n (v3 c o n (kp3 _ _ e (by simp)))
        generalize upd H4 t (.dK (hkvs ns fun p => d.h p - d.h 0)) = H5 at *
        have hH5 := hH.k0 kp5
        have ha5 := hH5.ha
        have hst5 := hH5.hst
        repeat (walk_at "rd")
        refine iteD (fun c => absurd c (by decide)) (fun _ => ?_)
        repeat (walk_at "rd")
        refine k_dgetI ht5 (valV_h z0) ?_
        repeat (walk_at "rd")
        refine iteN (fun c => absurd (Int.sub_self _) c) (fun _ => ?_)
        repeat (walk_at "rd")
        refine k_lc (SqL.of hst5) fun D2 nD2 => ?_
        have nD2H : H D2 = none := kp5.none nD2
        have tD2 : t ≠ D2 := ne_of_none ht5 nD2
        refine lc_list (fun i H6 => H6 D2 = some (.lst []) ∧ Keep [] H5 H6) ⟨upd_same, (Keep.refl _ _).new nD2⟩ (fun i H6 _ ⟨_, kz⟩ => SqL.of (kz _ _ hst5 (by simp))) ?_ ?_
        · rintro i x H6 hi ⟨d1, kz⟩
          rw [List.getElem?_map] at hi
          obtain ⟨u, hs, rfl⟩ := Option.map_eq_some_iff.mp hi
          have jl : i < d.ls.length := by rw [← hH.slen]; exact (List.getElem?_eq_some_iff.mp hs).1
          have tt : H6 u = some (.tup [.int (row d.ls i).x, .int (row d.ls i).y, .int (row d.ls i).k, .int (row d.ls i).lab]) := kz _ _ (hH5.hsr.2 i u _ hs (row_get jl)) (by simp)
          have ml : row d.ls i ∈ d.ls := List.mem_of_getElem? (row_get jl)
          have inn := hH.W.good.inn _ ml
          have mx : (row d.ls i).x ∈ ns := pm.mem_iff.mpr inn.1
          have my : (row d.ls i).y ∈ ns := pm.mem_iff.mpr inn.2
          have ho : Holds d.h (row d.ls i) := hH.W.good.ok _ (by rw [hH.good.calm hc, List.take_length]; exact ml)
          have ht6 := kz _ _ ht5 (by simp)
          generalize row d.ls i = l at *
          repeat (walk_at "rd")
          refine ⟨rfl, ?_⟩
          repeat (walk_at "rd")
          refine k_dgetI ht6 (valV_h mx) ?_
          repeat (walk_at "rd")
          refine k_dgetI ht6 (valV_h my) ?_
          repeat (walk_at "rd")
          refine iteD (fun c => ?_) (fun _ => ⟨d1, kz⟩)
          unfold Holds at ho
          omega
        · rintro H6 ⟨d1, kz⟩
          have ht6 := kz _ _ ht5 (by simp)
          repeat (walk_at "rd")
          refine iteD (fun c => absurd c (by decide)) (fun _ => ?_)
          repeat (walk_at "rd")
          refine r_bm0 ?_
          repeat (walk_at "rd")
          refine k_dclear ht6 ?_
          repeat (walk_at "rd")
          exact ⟨_, _, _, _, rfl, (kp5.trans kz).mine ntH⟩
    · rintro σ H1 ⟨to, tl, po, ro, rfl, kp⟩
      repeat (walk_at "rd")
      exact k H1 kp
end
end L2.K44
end P_K44q
section P_K44r
namespace L2.K44
open PySem PySem.Spec PyProof.Rows L2.KB
theorem prime401 {m : Int} {e : Int} (h1 : 1 ≤ m) (h2 : m ≤ 400) (e1 : 1 ≤ e) (e2 : e ≤ 400) (h : (m * e) % 401 = 0) : False := by
  have hd : ((401 : Nat) : Int) ∣ m * e := Int.dvd_of_emod_eq_zero h
  have hd' : 401 ∣ (m * e).natAbs := Int.ofNat_dvd_left.mp hd
  rw [Int.natAbs_mul] at hd'
  have c : Nat.Coprime 401 m.natAbs := by
    have hm : m.natAbs ≤ 400 := by omega
    have hm1 : 1 ≤ m.natAbs := by omega
    generalize m.natAbs = a at *
    have all : ∀ a : Fin 401, 1 ≤ a.1 → Nat.gcd 401 a.1 = 1 := by decide +kernel
    exact all ⟨a, by omega⟩ hm1
  have := Nat.Coprime.dvd_of_dvd_mul_left c hd'
  have := Nat.le_of_dvd (by omega) this
  omega
theorem HGood.dis {d : Hs} (g : HGood d) : ∀ i j : Nat, i < j → j < d.ls.length → (row d.ls i).lab ≠ (row d.ls j).lab := by
  intro i j hij hj e
  have l4 := g.l4
  have s1 := g.s1
  have s4 := g.s4
  obtain ⟨t1, u1, a1, a2, a3, a4⟩ := g.lab i _ (row_get (by omega))
  obtain ⟨t2, u2, b1, b2, b3, b4⟩ := g.lab j _ (row_get hj)
  rw [a4, b4] at e
  have m1 := Int.emod_nonneg (d.start + d.step * (i : Int)) (by decide : (401 : Int) ≠ 0)
  have m2 := Int.emod_nonneg (d.start + d.step * (j : Int)) (by decide : (401 : Int) ≠ 0)
  have eq : (d.start + d.step * (i : Int)) % 401 = (d.start + d.step * (j : Int)) % 401 := by
    generalize (d.start + d.step * (i : Int)) % 401 = x at *
    generalize (d.start + d.step * (j : Int)) % 401 = y at *
    rcases a3 with rfl | rfl <;> rcases b3 with rfl | rfl <;> omega
  have z : (d.step * ((j : Int) - (i : Int))) % 401 = 0 := by
    rw [Int.mul_sub]
    omega
  exact prime401 s1 s4 (by omega) (by omega) z
def spSettled (C : Addr) : Sp := fun vs H Q _ => ∃ d : Hs, vs = [.ref d.a] ∧ HouseAt C H d ∧ ∀ (d' : Hs) (H' : Hp), HouseAt C H' d' → Keep d.F H H' → Grow H H' → Step H d d' → Q (.bl true) H'
def spLooked (C : Addr) : Sp := fun vs H Q _ => ∃ d : Hs, vs = [.ref d.a] ∧ HouseAt C H d ∧ ∀ H' : Hp, Keep [] H H' → Q (.bl true) H'
theorem iteNon {A B : Prop} (h : B) : if (!decide (V.non = V.non)) = true then A else B := by
  rw [decide_eq_true (rfl : V.non = V.non), if_neg (by decide)]; exact h
theorem HouseAt.feas {C : Addr} {H : Hp} {d : Hs} (h : HouseAt C H d) (n : d.n = d.ls.length) : Feas d.ls := ⟨d.h, fun l hl => h.W.good.ok l (by rw [n, List.take_length]; exact hl)⟩
section
variable {P : Program} {wd : World} {K : PySem.W.Frag} {mg : Str → Option Value} {base : Heap}
abbrev st__law_settled : Stmt := topS 16
abbrev N__law_settled : List Str := ["house", "due", "turn", "told"]
theorem sc__law_settled : FnScope N__law_settled ["house"] (defScope st__law_settled) := ⟨rfl, rfl, rfl, by decide +kernel, rfl, by decide +kernel, by decide +kernel⟩

set_option maxHeartbeats 16000000 in
theorem ok_settled {f C fP fR fS : Addr} {fd fdP fdR fdS : FuncData} (F : Fun K "_law_settled" "_law_settled" st__law_settled f fd) (T : Txt K mg C) (C_law_possible : Cal P wd K mg base 1 "_law_possible" fP fdP ["places", "stand"] spPossible)
    (C_law_ring : Cal P wd K mg base 2 "_law_ring" fR fdR ["told", "stand"] spRingL) (CWays_settle : CalM P wd K mg base 3 C "settle" fS fdS ["self"] (spSettle C)) : FnOk P wd K mg base CX0 4 f fd ["house"] (spSettled C) := by
  refine F.ok sc__law_settled (fun vs H Q E h => ?_) (fun cdv A outer s H vs Q E hr h => ?_)
  · obtain ⟨d, rfl, _⟩ := h
    rfl
  · obtain ⟨d, rfl, hH, k⟩ := h
    have hu := hu_of hr
    have nd := sc__law_settled.nd
    have hr1 : Room 1 _ := hr.mono (by decide)
    have hr2 : Room 2 _ := hr.mono (by decide)
    have cl := T.cl
    have ha := hH.ha
    have p7 := hH.good.p7
    have inn : ∀ l ∈ d.ls, l.x ∈ d.ps ∧ l.y ∈ d.ps := fun l hl => let i := hH.W.good.inn l hl; ⟨hH.good.ksub _ i.1, hH.good.ksub _ i.2⟩
    refine ⟨_, (pss_cons (ps_set (i := 1) nd rfl (Or.inl rfl) (pe_f C_law_possible hr1 (pa_cons (pe_dget hu (pv 0) pe_str (fun _ _ => rfl)) (pa_cons (pe_dget hu (pv 0) pe_str (fun _ _ => rfl)) pa_nil))))
  (pss_cons (ps_for PassesOwn.never rfl (pi_range1 rfl T.b_range (pa_cons pe_int pa_nil)) (pg_name (i := 2) nd rfl (Or.inl rfl))
    (pss_cons (ps_set (i := 3) nd rfl (Or.inl rfl) (pe_mm0 CWays_settle hr T.cl (pe_dget hu (pv 0) pe_str (fun _ _ => rfl))))
  (pss_cons (ps_if (PW.pt (pw_and (pt_val (pv 1)) (pw_and1 (pt_cmp (pc_notN (pv 3))))))
    (pss_one (ps_ret pe_bl))
    pss_nil)
  (pss_cons (ps_if (PW.pt (pw_and (pt_not (pt_val (pv 1))) (pw_and1 (pt_not (pt_val (pe_f C_law_ring hr2 (pa_cons (pv 3) (pa_cons (pe_dget hu (pv 0) pe_str (fun _ _ => rfl)) pa_nil))))))))
    (pss_one (ps_ret pe_bl))
    pss_nil)
  (pss_one (ps_if (pt_not (pt_val (pv 1)))
    (pss_one (ps_expr (pe_bm0 PySem.F.plainAttrs_list PySem.F.slot_list_clear PySem.F.type_list_clear mt_clear (pv 3))))
    pss_nil))))))
  (pss_cons (ps_dput hu (pv 0) pe_str (pv 1) rfl)
  (pss_one (ps_ret pe_bl))))), ?_⟩
    repeat (walk_at "rd")
    refine ⟨d.pl, d.st, d.ps, d.sr, d.ls, rfl, hH.hpl, hH.hst, hH.hsr, hH.good.pn, inn, by omega, fun H1 k1 => ?_⟩
    have bi := bf_iff (ls := d.ls) (ps := d.ps) inn
    generalize bf (d.ps.length + 1) (fun _ => 0) d.ls = due at *
    repeat (walk_at "rd")
    refine k_forR (n := 2) (by omega) (fun i σ H2 => ∃ (to tl : Option V) (h' : Int → Int) (n' : Nat), σ = [some (.ref d.a), some (.bl due), to, tl] ∧ HouseAt C H2 { d with h := h', n := n' } ∧ Keep d.F H H2 ∧ (0 < i → due = true → n' = d.ls.length))
      ⟨_, _, d.h, d.n, rfl, hH.k0 k1, k1.mono (by simp), fun h => absurd h (by decide)⟩ ?_ ?_
    · rintro i σ H2 hi ⟨to, tl, h', n', rfl, hH2, kp2, _⟩
      have ha2 := hH2.ha
      have hw2 := hH2.W.hw
      repeat (walk_at "rd")
      refine ⟨d.w, d.dx, d.ah, d.al, d.tr, d.ks, h', d.ls, n', rfl, hH2.W, fun H3 v h2 n2 W3 k3 hv => ?_⟩
      have nk : ∀ c, c ≠ d.w → c ≠ d.ah → c ∉ [d.w, d.ah] := fun c n1 n2 m => by
        simp only [List.mem_cons, List.not_mem_nil, or_false] at m
        exact m.elim n1 n2
      have hx : ∀ c ∈ [d.w, d.ah], ∀ o, H2 c = some o → ∀ l, o ≠ limT l := by
        intro c hc o e l
        simp only [List.mem_cons, List.not_mem_nil, or_false] at hc
        rcases hc with rfl | rfl
        · rw [hw2] at e; cases e; intro z; cases z
        · have := hH2.W.hh
          rw [this] at e; cases e; intro z; cases z
      have kp3 : Keep d.F H H3 := kp2.trans (k3.mono (by
        intro c hc
        simp only [List.mem_cons, List.not_mem_nil, or_false] at hc
        unfold Hs.F
        rcases hc with rfl | rfl <;> simp))
      have house : (d.calm = true → n2 = d.ls.length) → HouseAt C H3 { d with h := h2, n := n2 } := fun hc =>
        ⟨k3 _ _ hH2.ha (nk _ hH.a_w hH.a_ah), k3 _ _ hH2.hpl (nk _ hH.pl_w hH.pl_ah), k3 _ _ hH2.hhd (nk _ hH.hd_w hH.hdah), W3, k3 _ _ hH2.hst (nk _ hH.st_w hH.st_ah), hH2.hsr.keep k3 hx, k3 _ _ hH2.hse (nk _ hH.se_w hH.se_ah),
          ⟨hH.good.p2, hH.good.p7, hH.good.pn, hH.good.p0, hH.good.ksub, hc, hH.good.l4, hH.good.lab, hH.good.s1, hH.good.s4⟩, hH.hdah, hH.stal⟩
      rcases hv with ⟨rfl, en⟩ | ⟨r, is, rfl, nr, hr3, ri⟩
      · have hH3 := house fun _ => en
        have hd : due = true := bi.mpr (hH3.feas en)
        subst hd
        repeat (walk_at "rd")
        refine iteT ?_
        repeat (walk_at "rd")
        refine iteNon ?_
        repeat (walk_at "rd")
        refine iteF ?_
        repeat (walk_at "rd")
        refine iteF ?_
        repeat (walk_at "rd")
        refine iteF ?_
        repeat (walk_at "rd")
        exact ⟨_, _, h2, n2, rfl, hH3, kp3, fun _ _ => en⟩
      · have hd : due = false := by
          cases e : due with
          | false => rfl
          | true => exact (ri.infeas (bi.mp e)).elim
        subst hd
        have hH3 := house fun z => (ri.infeas (hH2.feas (hH2.good.calm z))).elim
        have hrs := hH3.hsr
        have hst3 := hH3.hst
        have ha3 := hH3.ha
        have ril := ri.len
        repeat (walk_at "rd")
        refine iteF ?_
        repeat (walk_at "rd")
        refine iteF ?_
        repeat (walk_at "rd")
        refine iteT ?_
        repeat (walk_at "rd")
        refine ⟨r, d.st, is, d.sr, d.ls, rfl, hr3, hst3, hrs, ri, hH.good.l4, hH.good.dis, fun H4 k4 => ?_⟩
        repeat (walk_at "rd")
        refine iteF ?_
        repeat (walk_at "rd")
        refine iteT ?_
        repeat (walk_at "rd")
        refine r_bm0 ?_
        repeat (walk_at "rd")
        have hr4 := k4 _ _ hr3 (by simp)
        refine k_lclear hr4 ?_
        repeat (walk_at "rd")
        have rF : ∀ x ∈ d.F, x ∉ [r] := fun x hx m => by
          obtain ⟨o, e, _⟩ := hH2.at_ x hx
          rw [List.mem_singleton.mp m, nr] at e; cases e
        have nrH : H r = none := kp2.back (fun c hc => let ⟨o, e, _⟩ := hH2.at_ c hc; ⟨o, e⟩) nr
        have hH4 := (hH3.k0 k4).fr (H' := upd H4 r (.lst [])) (F := [r]) ((Fr.refl _ H4).upd (List.mem_singleton_self r)) rF (by
          intro c hc o e l
          rw [List.mem_singleton.mp hc, hr4] at e
          cases e; intro z; cases z)
        exact ⟨_, _, h2, n2, rfl, hH4, (kp3.trans (k4.mono (by simp))).mine nrH, fun _ z => by cases z⟩
    · rintro σ H2 ⟨to, tl, h', n', rfl, hH2, kp2, hn⟩
      have ha2 := hH2.ha
      have hh := hH.W.good.le
      repeat (walk_at "rd")
      have hx : ∀ z ∈ [d.a], ∀ o, H2 z = some o → ∀ l, o ≠ limT l := by
        intro z hz o e l
        rw [List.mem_singleton.mp hz, ha2] at e
        cases e; intro y; cases y
      have n1 : ∀ c, d.a ≠ c → c ∉ [d.a] := fun c n m => n (List.mem_singleton.mp m).symm
      have k4 : Keep [d.a] H2 (upd H2 d.a (.dK (hkv d.pl d.hd d.w d.st d.se due d.start d.step))) := (Keep.refl _ H2).upd (List.mem_singleton_self _)
      have W4 := hH2.W.fr (Fr.of k4) (n1 _ hH.a_w) (n1 _ hH.a_ah) (n1 _ hH.a_al) hx
      have aF : d.a ∈ d.F := by unfold Hs.F; simp
      have kp4 : Keep d.F H (upd H2 d.a (.dK (hkv d.pl d.hd d.w d.st d.se due d.start d.step))) := kp2.upd aF
      refine k { d with h := h', n := n', calm := due } _ ⟨upd_same, k4 _ _ hH2.hpl (n1 _ hH.a_pl), k4 _ _ hH2.hhd (n1 _ hH.a_hd), W4, k4 _ _ hH2.hst (n1 _ hH.a_st), hH2.hsr.keep k4 hx, k4 _ _ hH2.hse (n1 _ hH.a_se),
        ⟨hH.good.p2, hH.good.p7, hH.good.pn, hH.good.p0, hH.good.ksub, hn (by decide), hH.good.l4, hH.good.lab, hH.good.s1, hH.good.s4⟩, hH.hdah, hH.stal⟩ kp4 (kp4.grow fun c hc => ?_) ⟨rfl, rfl, rfl, rfl, rfl, fun z hz => .inl hz⟩
      by_cases e : c = d.a
      · subst e; exact ⟨_, upd_same⟩
      · obtain ⟨o, eo, _⟩ := hH2.at_ c hc
        exact ⟨o, upd_old e eo⟩
end
end L2.K44
end P_K44r
section P_K44s
namespace L2.K44
open PySem PySem.Spec PyProof.Rows L2.KB
theorem iteX {c : Prop} [Decidable c] {A B : Prop} (hB : B) (hA : c → B → A) : if decide c = true then A else B := by
  by_cases h : c
  · rw [if_pos (decide_eq_true h)]; exact hA h hB
  · rw [if_neg (by simpa using h)]; exact hB
section
variable {P : Program} {wd : World} {K : PySem.W.Frag} {mg : Str → Option Value} {base : Heap}
abbrev st__law_looked : Stmt := topS 19
abbrev N__law_looked : List Str := ["house", "many"]
theorem sc__law_looked : FnScope N__law_looked ["house"] (defScope st__law_looked) := ⟨rfl, rfl, rfl, by decide +kernel, rfl, by decide +kernel, by decide +kernel⟩

set_option maxHeartbeats 16000000 in
theorem ok_looked {f C fW fK fL : Addr} {fd fdW fdK fdL : FuncData} (F : Fun K "_law_looked" "_law_looked" st__law_looked f fd) (T : Txt K mg C) (C_law_whole : Cal P wd K mg base 1 "_law_whole" fW fdW ["value"] spWhole)
    (C_law_kept : Cal P wd K mg base 2 "_law_kept" fK fdK ["house"] (spKept C)) (CWays_limits : CalM P wd K mg base 1 C "limits" fL fdL ["self"] (spLimits C)) : FnOk P wd K mg base CX0 3 f fd ["house"] (spLooked C) := by
  refine F.ok sc__law_looked (fun vs H Q E h => ?_) (fun cdv A outer s H vs Q E hr h => ?_)
  · obtain ⟨d, rfl, _⟩ := h
    rfl
  · obtain ⟨d, rfl, hH, k⟩ := h
    have hu := hu_of hr
    have nd := sc__law_looked.nd
    have hr1 : Room 1 _ := hr.mono (by decide)
    have cl := T.cl
    have ha := hH.ha
    have hw := hH.W.hw
    have hst := hH.hst
    have slen := hH.slen
    refine ⟨_, (pss_cons (ps_set (i := 1) nd rfl (Or.inl rfl) (pe_mm0 CWays_limits hr1 T.cl (pe_dget hu (pv 0) pe_str (fun _ _ => rfl))))
  (pss_cons (ps_if (PW.pt (pw_or (pt_not (pt_val (pe_f C_law_whole hr1 (pa_cons (pv 1) pa_nil)))) (pw_or1 (pt_cmpR op_ne (pv 1) (pe_callB call_len_seq (by rfl) T.b_len PySem.boot_len (pa_cons (pe_dget hu (pv 0) pe_str (fun _ _ => rfl)) pa_nil)) (nomark _)))))
    (pss_one (ps_ret pe_bl))
    pss_nil)
  (pss_one (ps_ret (pe_or (pe_not (pe_dget hu (pv 0) pe_str (fun _ _ => rfl))) (pe_one (pe_f C_law_kept hr (pa_cons (pv 0) pa_nil)))))))), ?_⟩
    repeat (walk_at "rd")
    refine ⟨d.w, d.dx, d.ah, d.al, d.tr, d.ks, d.h, d.ls, d.n, rfl, hH.W, ?_⟩
    repeat (walk_at "rd")
    refine ⟨_, rfl, ?_⟩
    repeat (walk_at "rd")
    refine iteF ?_
    repeat (walk_at "rd")
    refine iteN (fun c => absurd (by rw [List.length_map, slen]) c) (fun _ => ?_)
    repeat (walk_at "rd")
    cases ec : d.calm with
    | true =>
      refine iteF ?_
      repeat (walk_at "rd")
      exact ⟨d, rfl, hH, ec, fun H' kp => k H' kp⟩
    | false =>
      refine iteT ?_
      exact k H (Keep.refl _ _)
abbrev st__law_deed : Stmt := topS 18
abbrev N__law_deed : List Str := ["pool", "house", "pick"]
theorem sc__law_deed : FnScope N__law_deed ["pool", "house"] (defScope st__law_deed) := ⟨rfl, rfl, rfl, by decide +kernel, rfl, by decide +kernel, by decide +kernel⟩

set_option maxHeartbeats 16000000 in
theorem ok_deed {f C fT fL fU fR fB fS : Addr} {fd fdT fdL fdU fdR fdB fdS : FuncData} (F : Fun K "_law_deed" "_law_deed" st__law_deed f fd) (T : Txt K mg C) (C_law_take : Cal P wd K mg base 1 "_law_take" fT fdT ["pool", "size"] spTake)
    (C_law_limited : Cal P wd K mg base 3 "_law_limited" fL fdL ["pool", "house"] (spDo C 400)) (C_law_turned : Cal P wd K mg base 4 "_law_turned" fU fdU ["pool", "house"] (spDo C 400)) (C_law_run : Cal P wd K mg base 3 "_law_run" fR fdR ["pool", "house"] (spDo C 393))
    (C_law_back : Cal P wd K mg base 2 "_law_back" fB fdB ["pool", "house"] (spDo C 401)) (C_law_settled : Cal P wd K mg base 4 "_law_settled" fS fdS ["house"] (spSettled C)) : FnOk P wd K mg base CX0 5 f fd ["pool", "house"] (spDo C 401) := by
  refine F.ok sc__law_deed (fun vs H Q E h => ?_) (fun cdv A outer s H vs Q E hr h => ?_)
  · obtain ⟨p, d, rfl, _⟩ := h
    rfl
  · obtain ⟨p, d, rfl, hp, hH, room, k⟩ := h
    have hu := hu_of hr
    have nd := sc__law_deed.nd
    have hr1 : Room 1 _ := hr.mono (by decide)
    have hr2 : Room 2 _ := hr.mono (by decide)
    have hr3 : Room 3 _ := hr.mono (by decide)
    have slen := hH.slen
    have lm : (d.sr.map V.ref).length = d.sr.length := List.length_map _
    refine ⟨_, (pss_cons (ps_set (i := 2) nd rfl (Or.inl rfl) (pe_f C_law_take hr1 (pa_cons (pv 0) (pa_cons pe_int pa_nil))))
  (pss_cons (ps_if (PW.pt (pw_and (pt_cmpR op_lt (pv 2) pe_int (nomark _)) (pw_and1 (pt_cmpR op_lt (pe_callB call_len_seq (by rfl) T.b_len PySem.boot_len (pa_cons (pe_dget hu (pv 1) pe_str (fun _ _ => rfl)) pa_nil)) pe_int (nomark _)))))
    (pss_one (ps_ret (pe_f C_law_limited hr3 (pa_cons (pv 0) (pa_cons (pv 1) pa_nil)))))
    pss_nil)
  (pss_cons (ps_if (PW.pt (pw_and (pt_cmpR op_eq (pv 2) pe_int (nomark _)) (pw_and1 (pt_cmpR op_lt (pe_callB call_len_seq (by rfl) T.b_len PySem.boot_len (pa_cons (pe_dget hu (pv 1) pe_str (fun _ _ => rfl)) pa_nil)) pe_int (nomark _)))))
    (pss_one (ps_ret (pe_f C_law_turned hr (pa_cons (pv 0) (pa_cons (pv 1) pa_nil)))))
    pss_nil)
  (pss_cons (ps_if (PW.pt (pw_and (pt_cmpR op_eq (pv 2) pe_int (nomark _)) (pw_and1 (pt_cmpR op_lt (pe_callB call_len_seq (by rfl) T.b_len PySem.boot_len (pa_cons (pe_dget hu (pv 1) pe_str (fun _ _ => rfl)) pa_nil)) pe_int (nomark _)))))
    (pss_one (ps_ret (pe_f C_law_run hr3 (pa_cons (pv 0) (pa_cons (pv 1) pa_nil)))))
    pss_nil)
  (pss_cons (ps_if (pt_cmpR op_lt (pv 2) pe_int (nomark _))
    (pss_one (ps_ret (pe_f C_law_back hr2 (pa_cons (pv 0) (pa_cons (pv 1) pa_nil)))))
    pss_nil)
  (pss_one (ps_ret (pe_f C_law_settled hr (pa_cons (pv 1) pa_nil))))))))), ?_⟩
    repeat (walk_at "rd")
    refine ⟨p, 12, rfl, hp, by decide, by decide, fun i1 H1 i10 i11 hp1 k1 => ?_⟩
    have g1 := (Go.refl [] H).take hp hp1 k1
    have hH1 := hH.fr0 g1.fr
    have ha1 := hH1.ha
    have hst1 := hH1.hst
    have fin : ∀ (d' : Hs) (H' : Hp), HouseAt C H' d' → PoolAt H' p → Fr d.F H1 H' → Grow H1 H' → Step H1 d d' → Q (.bl true) H' := fun d' H' hH' hp' f' gr' st' =>
      k d' H' hH' hp' (g1.any.fr.trans f') (g1.gr.trans gr') (st'.pre g1)
    have finS : ∀ (d' : Hs) (H' : Hp), HouseAt C H' d' → Keep d.F H1 H' → Grow H1 H' → Step H1 d d' → Q (.bl true) H' := fun d' H' hH' k' gr' st' =>
      fin d' H' hH' (hp1.keep k' fun c hc => let ⟨o, e, n, _⟩ := hH1.at_ c hc; ⟨o, e, n⟩) (Fr.of k') gr' st'
    repeat (walk_at "rd")
    refine iteX ?_ fun _ tl => ?_
    · refine iteF ?_
      repeat (walk_at "rd")
      refine iteX ?_ fun _ tl => ?_
      · refine iteF ?_
        repeat (walk_at "rd")
        refine iteX ?_ fun _ tl => ?_
        · refine iteF ?_
          repeat (walk_at "rd")
          refine iteD (fun _ => ?_) (fun _ => ?_)
          · repeat (walk_at "rd")
            exact ⟨p, d, rfl, hp1, hH1, room, fin⟩
          · repeat (walk_at "rd")
            exact ⟨d, rfl, hH1, finS⟩
        · repeat (walk_at "rd")
          refine iteD (fun _ => ?_) (fun _ => tl)
          repeat (walk_at "rd")
          exact ⟨p, d, rfl, hp1, hH1, by omega, fin⟩
      · repeat (walk_at "rd")
        refine iteD (fun _ => ?_) (fun _ => tl)
        repeat (walk_at "rd")
        exact ⟨p, d, rfl, hp1, hH1, by omega, fin⟩
    · repeat (walk_at "rd")
      refine iteD (fun _ => ?_) (fun _ => tl)
      repeat (walk_at "rd")
      exact ⟨p, d, rfl, hp1, hH1, by omega, fin⟩
end
end L2.K44
end P_K44s
section P_K44t
namespace L2.K44
open PySem PySem.Spec PyProof.Rows L2.KB
/-! ### the law: two houses, apart -/
def ScrAt (K : PySem.W.Frag) (H : Hp) (a : Addr) (ns : List Int) (F : List Addr) : Prop := (Rd H a (.lst (ns.map V.int)) ∧ a ∉ F) ∨ ∀ H', SqL K H' a (ns.map V.int)
theorem ScrAt.of {K : PySem.W.Frag} {H : Hp} {a : Addr} {ns : List Int} (h : SqL K H a (ns.map V.int)) : ScrAt K H a ns [] := h.elim (fun h => .inl ⟨h, by simp⟩) fun h => .inr fun _ => .inr h
theorem ScrAt.seq {K : PySem.W.Frag} {H : Hp} {a : Addr} {ns : List Int} {F : List Addr} (h : ScrAt K H a ns F) : SqL K H a (ns.map V.int) := h.elim (fun h => .inl h.1) fun h => h H
theorem ScrAt.mv {K : PySem.W.Frag} {H H' : Hp} {a : Addr} {ns : List Int} {F G F' : List Addr} (h : ScrAt K H a ns F) (k : Fr G H H') (hG : ∀ z ∈ G, z ∈ F) (hF : ∀ z ∈ F', z ∈ F ∨ H z = none) : ScrAt K H' a ns F' := by
  rcases h with ⟨r, n⟩ | h
  · have out : ∀ o, H a = some o → a ∉ F' := fun o e m => (hF a m).elim n fun q => by rw [q] at e; cases e
    rcases r with e | ⟨q, e⟩
    · exact .inl ⟨.inl (k _ _ e (fun m => n (hG _ m)) noPool_ints), out _ e⟩
    · exact .inl ⟨.inr ⟨q, k _ _ e (fun m => n (hG _ m)) fun ⟨_, _, _, _, z⟩ => by cases z⟩, out _ e⟩
  · exact .inr h
structure TwoAt (K : PySem.W.Frag) (C : Addr) (H : Hp) (sc hl : Addr) (ns : List Int) (d1 d2 : Hs) : Prop where
  h1 : HouseAt C H d1
  h2 : HouseAt C H d2
  dis : ∀ z ∈ d1.F, z ∉ d2.F
  scr : ScrAt K H sc ns (d1.F ++ d2.F)
  at_ : H hl = some (.lst [.ref d1.a, .ref d2.a])
  hlF : hl ∉ d1.F ++ d2.F
section
variable {K : PySem.W.Frag} {C : Addr} {H H' : Hp} {sc hl : Addr} {ns : List Int} {d1 d2 d' : Hs}
theorem HouseAt.notT (h : HouseAt C H d1) : ∀ c ∈ d1.F, ∀ o, H c = some o → ∀ l, o ≠ limT l := fun c hc o e l => by
  obtain ⟨o', e', _, n⟩ := h.at_ c hc
  rw [e] at e'; cases e'; exact n l
theorem HouseAt.np (h : HouseAt C H d1) : ∀ c ∈ d1.F, ∃ o, H c = some o ∧ ¬ isPool o := fun c hc => let ⟨o, e, n, _⟩ := h.at_ c hc; ⟨o, e, n⟩
theorem TwoAt.k0 (T : TwoAt K C H sc hl ns d1 d2) (k : Fr [] H H') : TwoAt K C H' sc hl ns d1 d2 :=
  ⟨T.h1.fr0 k, T.h2.fr0 k, T.dis, T.scr.mv k (by simp) fun z hz => .inl hz, k _ _ T.at_ (by simp) (noPool_refs (rs := [d1.a, d2.a])), T.hlF⟩
theorem TwoAt.one (T : TwoAt K C H sc hl ns d1 d2) (h : HouseAt C H' d') (k : Fr d1.F H H') (s : Step H d1 d') : TwoAt K C H' sc hl ns d' d2 := by
  have ap : ∀ z ∈ d2.F, H z = none → False := fun z hz e => by
    obtain ⟨o, e', _⟩ := T.h2.at_ z hz
    rw [e] at e'; cases e'
  have n1 : hl ∉ d1.F := fun m => T.hlF (List.mem_append_left _ m)
  refine ⟨h, T.h2.fr k (fun x hx m => T.dis x m hx) T.h1.notT, fun z hz m => (s.F z hz).elim (fun q => T.dis z q m) (ap z m), T.scr.mv k (fun z hz => List.mem_append_left _ hz) fun z hz => ?_, ?_, fun m => ?_⟩
  · rcases List.mem_append.mp hz with m | m
    · exact (s.F z m).imp (fun q => List.mem_append_left _ q) id
    · exact .inl (List.mem_append_right _ m)
  · rw [s.a]; exact k _ _ T.at_ n1 (noPool_refs (rs := [d1.a, d2.a]))
  · rcases List.mem_append.mp m with m | m
    · rcases s.F _ m with q | q
      · exact n1 q
      · rw [T.at_] at q; cases q
    · exact T.hlF (List.mem_append_right _ m)
theorem TwoAt.two (T : TwoAt K C H sc hl ns d1 d2) (h : HouseAt C H' d') (k : Fr d2.F H H') (s : Step H d2 d') : TwoAt K C H' sc hl ns d1 d' := by
  have ap : ∀ z ∈ d1.F, H z = none → False := fun z hz e => by
    obtain ⟨o, e', _⟩ := T.h1.at_ z hz
    rw [e] at e'; cases e'
  have n2 : hl ∉ d2.F := fun m => T.hlF (List.mem_append_right _ m)
  refine ⟨T.h1.fr k T.dis T.h2.notT, h, fun z m hz => (s.F z hz).elim (fun q => T.dis z m q) (ap z m), T.scr.mv k (fun z hz => List.mem_append_right _ hz) fun z hz => ?_, ?_, fun m => ?_⟩
  · rcases List.mem_append.mp hz with m | m
    · exact .inl (List.mem_append_left _ m)
    · exact (s.F z m).imp (fun q => List.mem_append_right _ q) id
  · rw [s.a]; exact k _ _ T.at_ n2 (noPool_refs (rs := [d1.a, d2.a]))
  · rcases List.mem_append.mp m with m | m
    · exact T.hlF (List.mem_append_left _ m)
    · rcases s.F _ m with q | q
      · exact n2 q
      · rw [T.at_] at q; cases q
theorem TwoAt.pick (T : TwoAt K C H sc hl ns d1 d2) {j : Nat} {x : V} (h : ([.ref d1.a, .ref d2.a] : List V)[j]? = some x) : ∃ d : Hs, x = .ref d.a ∧ HouseAt C H d ∧ ∀ (d' : Hs) (H' : Hp), HouseAt C H' d' → Fr d.F H H' → Step H d d' → ∃ e1 e2 : Hs, TwoAt K C H' sc hl ns e1 e2 ∧ e1.a = d1.a ∧ e2.a = d2.a := by
  match j, h with
  | 0, h => cases h; exact ⟨d1, rfl, T.h1, fun d' H' a b c => ⟨d', d2, T.one a b c, c.a, rfl⟩⟩
  | 1, h => cases h; exact ⟨d2, rfl, T.h2, fun d' H' a b c => ⟨d1, d', T.two a b c, rfl, c.a⟩⟩
  | j + 2, h => simp at h
theorem TwoAt.sel (T : TwoAt K C H sc hl ns d1 d2) {r : Int} (h0 : 0 ≤ r) (h1 : r < 2) : ∃ d : Hs, atI ([.ref d1.a, .ref d2.a] : List V) r = some (.ref d.a) ∧ HouseAt C H d ∧ ∀ (d' : Hs) (H' : Hp), HouseAt C H' d' → Fr d.F H H' → Step H d d' → ∃ e1 e2 : Hs, TwoAt K C H' sc hl ns e1 e2 ∧ e1.a = d1.a ∧ e2.a = d2.a := by
  obtain ⟨n, rfl⟩ := Int.eq_ofNat_of_zero_le h0
  have hn : n < ([.ref d1.a, .ref d2.a] : List V).length := by show n < 2; omega
  obtain ⟨d, ed, hd, u⟩ := T.pick (List.getElem?_eq_getElem hn)
  exact ⟨d, by rw [← ed]; exact atI_nat (List.getElem?_eq_getElem hn), hd, u⟩
end
def spLaw (K : PySem.W.Frag) : Sp := fun vs H Q _ => ∃ (a : Addr) (ns : List Int), vs = [.ref a] ∧ SqL K H a (ns.map V.int) ∧ ns.length ≤ 63 ∧ ∀ H', Q (.bl true) H'
section
variable {P : Program} {wd : World} {K : PySem.W.Frag} {mg : Str → Option Value} {base : Heap}
abbrev st_law : Stmt := topS 20
abbrev N_law : List Str := ["script", "pool", "houses", "deeds", "far", "draw", "k", "house", "turn"]
theorem sc_law : FnScope N_law ["script"] (defScope st_law) := ⟨rfl, rfl, rfl, by decide +kernel, rfl, by decide +kernel, by decide +kernel⟩

set_option maxHeartbeats 16000000 in
theorem ok_law {f C fP fT fH fD fL fS fB : Addr} {fd fdP fdT fdH fdD fdL fdS fdB : FuncData} (F : Fun K "law" "law" st_law f fd) (T : Txt K mg C) (C_law_pool : Cal P wd K mg base 1 "_law_pool" fP fdP ["script", "k"] (spPool K)) (C_law_take : Cal P wd K mg base 1 "_law_take" fT fdT ["pool", "size"] spTake)
    (C_law_house : Cal P wd K mg base 3 "_law_house" fH fdH ["pool"] (spHouse C)) (C_law_deed : Cal P wd K mg base 5 "_law_deed" fD fdD ["pool", "house"] (spDo C 401)) (C_law_looked : Cal P wd K mg base 3 "_law_looked" fL fdL ["house"] (spLooked C))
    (C_law_settled : Cal P wd K mg base 4 "_law_settled" fS fdS ["house"] (spSettled C)) (C_law_back : Cal P wd K mg base 2 "_law_back" fB fdB ["pool", "house"] (spDo C 401)) : FnOk P wd K mg base CX0 6 f fd ["script"] (spLaw K) := by
  refine F.ok sc_law (fun vs H Q E h => ?_) (fun cdv A outer s H vs Q E hr h => ?_)
  · obtain ⟨a, ns, rfl, _⟩ := h
    rfl
  · obtain ⟨sc, ns, rfl, hS, n63, k⟩ := h
    have hu := hu_of hr
    have nd := sc_law.nd
    have hr1 : Room 1 _ := hr.mono (by decide)
    have hr2 : Room 2 _ := hr.mono (by decide)
    have hr3 : Room 3 _ := hr.mono (by decide)
    have hr4 : Room 4 _ := hr.mono (by decide)
    refine ⟨_, (pss_cons (ps_set (i := 1) nd rfl (Or.inl rfl) (pe_f C_law_pool hr1 (pa_cons (pv 0) (pa_cons pe_int pa_nil))))
  (pss_cons (ps_set (i := 2) nd rfl (Or.inl rfl) (pe_lst (pa_cons (pe_f C_law_house hr3 (pa_cons (pv 1) pa_nil)) (pa_cons (pe_f C_law_house hr3 (pa_cons (pe_f C_law_pool hr1 (pa_cons (pv 0) (pa_cons pe_int pa_nil))) pa_nil)) pa_nil))))
  (pss_cons (ps_set (i := 3) nd rfl (Or.inl rfl) (pe_op op_add pe_int (pe_f C_law_take hr1 (pa_cons (pv 1) (pa_cons pe_int pa_nil)))))
  (pss_cons (ps_set (i := 4) nd rfl (Or.inl rfl) (pe_f C_law_take hr1 (pa_cons (pv 1) (pa_cons pe_int pa_nil))))
  (pss_cons (ps_if (pt_cmpR op_lt (pv 4) pe_int (nomark _))
    (pss_one (ps_set (i := 3) nd rfl (Or.inl rfl) (pe_op op_add pe_int (pe_f C_law_take hr1 (pa_cons (pv 1) (pa_cons (pe_ix ix_tup (pe_tup (pa_cons pe_int (pa_cons pe_int (pa_cons pe_int (pa_cons pe_int pa_nil))))) (pv 4) (fun _ _ => rfl)) pa_nil))))))
    pss_nil)
  (pss_cons (ps_set (i := 5) nd rfl (Or.inl rfl) (pv 1))
  (pss_cons (ps_for PassesOwn.never rfl (pi_range1 rfl T.b_range (pa_cons (pv 3) pa_nil)) (pg_name (i := 6) nd rfl (Or.inl rfl))
    (pss_cons (ps_if (pt_cmpR op_lt (pe_op op_add pe_int (pv 6)) (pe_callB call_len_seq (by rfl) T.b_len PySem.boot_len (pa_cons (pv 0) pa_nil)) (nomark _))
    (pss_one (ps_set (i := 5) nd rfl (Or.inl rfl) (pe_f C_law_pool hr1 (pa_cons (pv 0) (pa_cons (pe_op op_add pe_int (pv 6)) pa_nil)))))
    pss_nil)
  (pss_cons (ps_if (pt_not (pt_val (pe_f C_law_deed hr (pa_cons (pv 5) (pa_cons (pe_ix ix_list (pv 2) (pe_f C_law_take hr1 (pa_cons (pv 5) (pa_cons pe_int pa_nil))) (fun _ _ => rfl)) pa_nil)))))
    (pss_one (ps_ret pe_bl))
    pss_nil)
  (pss_one (ps_for PassesOwn.never rfl (pi_list (pv 2)) (pg_name (i := 7) nd rfl (Or.inl rfl))
    (pss_one (ps_if (pt_not (pt_val (pe_f C_law_looked hr3 (pa_cons (pv 7) pa_nil))))
    (pss_one (ps_ret pe_bl))
    pss_nil)))))))
  (pss_cons (ps_for PassesOwn.never rfl (pi_list (pv 2)) (pg_name (i := 7) nd rfl (Or.inl rfl))
    (pss_one (ps_for PassesOwn.never rfl (pi_range1 rfl T.b_range (pa_cons pe_int pa_nil)) (pg_name (i := 8) nd rfl (Or.inl rfl))
    (pss_cons (ps_if (PW.pt (pw_or (pt_not (pt_val (pe_f C_law_settled hr4 (pa_cons (pv 7) pa_nil)))) (pw_or1 (pt_not (pt_val (pe_f C_law_looked hr3 (pa_cons (pv 7) pa_nil)))))))
    (pss_one (ps_ret pe_bl))
    pss_nil)
  (pss_one (ps_if (PW.pt (pw_or (pt_not (pt_val (pe_f C_law_back hr2 (pa_cons (pv 5) (pa_cons (pv 7) pa_nil))))) (pw_or1 (pt_not (pt_val (pe_f C_law_looked hr3 (pa_cons (pv 7) pa_nil)))))))
    (pss_one (ps_ret pe_bl))
    pss_nil))))))
  (pss_one (ps_ret (pe_and (pe_f C_law_settled hr4 (pa_cons (pe_ix ix_list (pv 2) pe_int (fun _ _ => rfl)) pa_nil)) (pe_and (pe_f C_law_looked hr3 (pa_cons (pe_ix ix_list (pv 2) pe_int (fun _ _ => rfl)) pa_nil)) (pe_one (pe_f C_law_looked hr3 (pa_cons (pe_ix ix_list (pv 2) pe_int (fun _ _ => rfl)) pa_nil))))))))))))))), ?_⟩
    repeat (walk_at "rd")
    refine ⟨sc, ns, 0, rfl, hS, fun p c0 b0 s0 np => ?_⟩
    have g1 := (Go.refl [] H).new (o := poolO c0 0 b0 s0) np
    have hp1 : PoolAt (upd H p (poolO c0 0 b0 s0)) p := ⟨c0, 0, b0, s0, upd_same⟩
    have hS1 := (ScrAt.of hS).mv (F' := []) g1.fr (by simp) (by simp)
    generalize upd H p (poolO c0 0 b0 s0) = H1 at *
    repeat (walk_at "rd")
    refine ⟨p, rfl, hp1, fun d1 H2 hD1 hp2 g2 fresh1 => ?_⟩
    have f2 := g2.fr
    have hS2 := hS1.mv (F' := d1.F) f2 (by simp) (fun z hz => .inr (fresh1 z hz))
    repeat (walk_at "rd")
    refine ⟨sc, ns, 1, rfl, hS2.seq, fun q c1 b1 s1 nq => ?_⟩
    have g3 := (Go.refl [] H2).new (o := poolO c1 0 b1 s1) nq
    have hq3 : PoolAt (upd H2 q (poolO c1 0 b1 s1)) q := ⟨c1, 0, b1, s1, upd_same⟩
    have hp3 := hp2.new (o := poolO c1 0 b1 s1) nq
    have hD13 := hD1.fr0 g3.fr
    have hS3 := hS2.mv (F' := d1.F) g3.fr (by simp) (fun z hz => .inl hz)
    generalize upd H2 q (poolO c1 0 b1 s1) = H3 at *
    repeat (walk_at "rd")
    refine ⟨q, rfl, hq3, fun d2 H4 hD2 hq4 g4 fresh2 => ?_⟩
    have f4 := g4.fr
    have hS4 := hS3.mv (F' := d1.F ++ d2.F) f4 (by simp) (fun z hz => (List.mem_append.mp hz).imp id (fun m => fresh2 z m))
    have hD14 := hD13.fr0 f4
    have dis : ∀ z ∈ d1.F, z ∉ d2.F := fun z m1 m2 => by
      obtain ⟨o, e, _⟩ := hD13.at_ z m1
      rw [fresh2 z m2] at e; cases e
    have hp4 : PoolAt H4 p := g4.pl p (by simp) hp3
    repeat (walk_at "rd")
    intro hl nhl
    have g5 := (Go.refl [] H4).new (o := .lst [.ref d1.a, .ref d2.a]) nhl
    have hp5 := hp4.new (o := .lst [.ref d1.a, .ref d2.a]) nhl
    have hlF : hl ∉ d1.F ++ d2.F := fun m => by
      rcases List.mem_append.mp m with m | m
      · obtain ⟨o, e, _⟩ := hD14.at_ _ m
        rw [nhl] at e; cases e
      · obtain ⟨o, e, _⟩ := hD2.at_ _ m
        rw [nhl] at e; cases e
    have T5 : TwoAt K C (upd H4 hl (.lst [.ref d1.a, .ref d2.a])) sc hl ns d1 d2 := ⟨hD14.fr0 g5.fr, hD2.fr0 g5.fr, dis, hS4.mv g5.fr (by simp) (fun z hz => .inl hz), upd_same, hlF⟩
    generalize upd H4 hl (.lst [.ref d1.a, .ref d2.a]) = H5 at *
    repeat (walk_at "rd")
    refine ⟨p, 31, rfl, hp5, by decide, by decide, fun r6 H6 r60 r61 hp6 k6 => ?_⟩
    have T6 := T5.k0 (Fr.pool hp5 k6)
    repeat (walk_at "rd")
    refine ⟨p, 48, rfl, hp6, by decide, by decide, fun r7 H7 r70 r71 hp7 k7 => ?_⟩
    have T7 := T6.k0 (Fr.pool hp6 k7)
    repeat (walk_at "rd")
    refine iteD (fun c4 => ?_) (fun _ => ?_)
    · repeat (walk_at "rd")
      intro t nt
      repeat (walk_at "rd")
      obtain ⟨sz, hsz, sor⟩ := at4 (a := 300) (b := 60) (c := 60) (d := 60) r70 c4
      have ht8 : upd H7 t (.tup [V.int 300, .int 60, .int 60, .int 60]) t = _ := upd_same
      repeat (walk_at "rd")
      have hp7t := hp7.new (o := .tup [V.int 300, .int 60, .int 60, .int 60]) nt
      refine ⟨p, sz, rfl, hp7t, by omega, by omega, fun r8 H8 r80 r81 hp8 k8 => ?_⟩
      have T8 := (T7.k0 ((Go.refl [] H7).new (o := .tup [V.int 300, .int 60, .int 60, .int 60]) nt).fr).k0 (Fr.pool hp7t k8)
      repeat (walk_at "rd")
      obtain ⟨Dn, hDn⟩ : ∃ Dn : Nat, 60 + r8 = (Dn : Int) := ⟨(60 + r8).toNat, by omega⟩
      have Db : Dn < 1000 := by omega
      rw [hDn]
      refine k_forR (n := Dn) (by omega) (fun i σ H => ∃ (deo fo ko ho to : Option V) (dr : Addr) (d1 d2 : Hs), σ = [some (.ref sc), some (.ref p), some (.ref hl), deo, fo, some (.ref dr), ko, ho, to] ∧ TwoAt K C H sc hl ns d1 d2 ∧ PoolAt H dr)
        ⟨_, _, _, _, _, p, d1, d2, rfl, T8, hp8⟩ ?_ ?_
      · clear hS hS1 hS2 hS3 hS4 hD1 hD13 hD14 hD2 T5 T6 T7 T8 hp1 hp2 hp3 hp4 hp5 hp6 hp7 hp8 k6 k7 dis hq3 hq4 g1 g2 g3 g4 g5 f2 f4 fresh1 fresh2 np nq nhl hlF
        rintro i σ H1 hi ⟨deo, fo, ko, ho, to, dr, e1, e2, rfl, T1, hp1⟩
        have hS1 := T1.scr.seq
        repeat (walk_at "rd")
        refine iteD (fun c => ?_) (fun c => ?_)
        · repeat (walk_at "rd")
          refine ⟨sc, ns, 2 + i, by rw [show (2 : Int) + (i : Int) = ((2 + i : Nat) : Int) by omega]; rfl, hS1, fun q c1 b1 s1 nq => ?_⟩
          have g2 := (Go.refl [] H1).new (o := poolO c1 0 b1 s1) nq
          have hp2 : PoolAt (upd H1 q (poolO c1 0 b1 s1)) q := ⟨c1, 0, b1, s1, upd_same⟩
          have T2 := T1.k0 g2.fr
          generalize upd H1 q (poolO c1 0 b1 s1) = H2 at *
          repeat (walk_at "rd")
          refine ⟨q, 2, rfl, hp2, by decide, by decide, fun r H3 r0 r1 hp3 k3 => ?_⟩
          have T3 := T2.k0 (Fr.pool hp2 k3)
          have hl3 := T3.at_
          obtain ⟨d, hd, hD, up⟩ := T3.sel r0 r1
          repeat (walk_at "rd")
          refine ⟨q, d, rfl, hp3, hD, by have := hD.good.l4; omega, fun d' H4 hD4 hp4 f4 gr4 st4 => ?_⟩
          obtain ⟨u1, u2, T4, _, _⟩ := up d' H4 hD4 f4 st4
          repeat (walk_at "rd")
          refine iteF ?_
          repeat (walk_at "rd")
          have hl4 := T4.at_
          refine k_forL (SqL.of hl4) (fun j σ H5 => ∃ (deo fo ko ho to : Option V), σ = [some (.ref sc), some (.ref p), some (.ref hl), deo, fo, some (.ref q), ko, ho, to] ∧ TwoAt K C H5 sc hl ns u1 u2 ∧ PoolAt H5 q)
            ⟨_, _, _, _, _, rfl, T4, hp4⟩ (fun j σ H5 _ ⟨_, _, _, _, _, _, T5, _⟩ => SqL.of T5.at_) ?_ ?_
          · rintro j x σ H5 hj ⟨deo, fo, ko, ho, to, rfl, T5, hp5⟩
            obtain ⟨v, rfl, hV, _⟩ := T5.pick hj
            repeat (walk_at "rd")
            refine ⟨v, rfl, hV, fun H6 k6 => ?_⟩
            repeat (walk_at "rd")
            refine iteF ?_
            repeat (walk_at "rd")
            exact ⟨_, _, _, _, _, rfl, T5.k0 (Fr.of k6), hp5.k0 k6⟩
          · rintro σ H5 ⟨deo, fo, ko, ho, to, rfl, T5, hp5⟩
            repeat (walk_at "rd")
            exact ⟨_, _, _, _, _, q, u1, u2, rfl, T5, hp5⟩
        · obtain ⟨H2, rfl⟩ : ∃ X, X = H1 := ⟨_, rfl⟩
          obtain ⟨q, rfl⟩ : ∃ X, X = dr := ⟨_, rfl⟩
          have hp2 := hp1
          have T2 := T1
          repeat (walk_at "rd")
          refine ⟨q, 2, rfl, hp2, by decide, by decide, fun r H3 r0 r1 hp3 k3 => ?_⟩
          have T3 := T2.k0 (Fr.pool hp2 k3)
          have hl3 := T3.at_
          obtain ⟨d, hd, hD, up⟩ := T3.sel r0 r1
          repeat (walk_at "rd")
          refine ⟨q, d, rfl, hp3, hD, by have := hD.good.l4; omega, fun d' H4 hD4 hp4 f4 gr4 st4 => ?_⟩
          obtain ⟨u1, u2, T4, _, _⟩ := up d' H4 hD4 f4 st4
          repeat (walk_at "rd")
          refine iteF ?_
          repeat (walk_at "rd")
          have hl4 := T4.at_
          refine k_forL (SqL.of hl4) (fun j σ H5 => ∃ (deo fo ko ho to : Option V), σ = [some (.ref sc), some (.ref p), some (.ref hl), deo, fo, some (.ref q), ko, ho, to] ∧ TwoAt K C H5 sc hl ns u1 u2 ∧ PoolAt H5 q)
            ⟨_, _, _, _, _, rfl, T4, hp4⟩ (fun j σ H5 _ ⟨_, _, _, _, _, _, T5, _⟩ => SqL.of T5.at_) ?_ ?_
          · rintro j x σ H5 hj ⟨deo, fo, ko, ho, to, rfl, T5, hp5⟩
            obtain ⟨v, rfl, hV, _⟩ := T5.pick hj
            repeat (walk_at "rd")
            refine ⟨v, rfl, hV, fun H6 k6 => ?_⟩
            repeat (walk_at "rd")
            refine iteF ?_
            repeat (walk_at "rd")
            exact ⟨_, _, _, _, _, rfl, T5.k0 (Fr.of k6), hp5.k0 k6⟩
          · rintro σ H5 ⟨deo, fo, ko, ho, to, rfl, T5, hp5⟩
            repeat (walk_at "rd")
            exact ⟨_, _, _, _, _, q, u1, u2, rfl, T5, hp5⟩
      · rintro σ H1 ⟨deo, fo, ko, ho, to, dr, e1, e2, rfl, T1, hp1⟩
        have hl1 := T1.at_
        repeat (walk_at "rd")
        refine k_forL (SqL.of hl1) (fun j σ H5 => ∃ (deo fo ko ho to : Option V) (u1 u2 : Hs), σ = [some (.ref sc), some (.ref p), some (.ref hl), deo, fo, some (.ref dr), ko, ho, to] ∧ TwoAt K C H5 sc hl ns u1 u2 ∧ PoolAt H5 dr ∧ u1.a = e1.a ∧ u2.a = e2.a)
          ⟨_, _, _, _, _, e1, e2, rfl, T1, hp1, rfl, rfl⟩ (fun j σ H5 _ ⟨_, _, _, _, _, _, _, _, T5, _, q1, q2⟩ => SqL.of (by rw [← q1, ← q2]; exact T5.at_)) ?_ ?_
        · rintro j x σ H5 hj ⟨deo, fo, ko, ho, to, u1, u2, rfl, T5, hp5, q1, q2⟩
          repeat (walk_at "rd")
          refine k_forR (n := 3) (by omega) (fun i σ H6 => ∃ (deo fo ko to : Option V) (w1 w2 : Hs), σ = [some (.ref sc), some (.ref p), some (.ref hl), deo, fo, some (.ref dr), ko, some x, to] ∧ TwoAt K C H6 sc hl ns w1 w2 ∧ PoolAt H6 dr ∧ w1.a = e1.a ∧ w2.a = e2.a)
            ⟨_, _, _, _, u1, u2, rfl, T5, hp5, q1, q2⟩ ?_ ?_
          · rintro i σ H6 _ ⟨deo, fo, ko, to, w1, w2, rfl, T6, hp6, q1, q2⟩
            rw [← q1, ← q2] at hj
            obtain ⟨v, rfl, hV, up⟩ := T6.pick hj
            repeat (walk_at "rd")
            refine ⟨v, rfl, hV, fun v2 H7 hV7 k7 gr7 st7 => ?_⟩
            obtain ⟨x1, x2, T7, z1, z2⟩ := up v2 H7 hV7 (Fr.of k7) st7
            have hp7 := hp6.keep k7 hV.np
            repeat (walk_at "rd")
            refine iteF ?_
            repeat (walk_at "rd")
            rw [← z1, ← z2] at hj
            obtain ⟨v7, ev7, hV7', _⟩ := T7.pick hj
            refine ⟨v7, by rw [ev7]; rfl, hV7', fun H8 k8 => ?_⟩
            have T8 := T7.k0 (Fr.of k8)
            have hp8 := hp7.k0 k8
            repeat (walk_at "rd")
            refine iteF ?_
            repeat (walk_at "rd")
            obtain ⟨v8, ev8, hV8, up8⟩ := T8.pick hj
            refine ⟨dr, v8, by rw [ev8]; rfl, hp8, hV8, by have := hV8.good.l4; omega, fun v9 H9 hV9 hp9 f9 gr9 st9 => ?_⟩
            obtain ⟨y1, y2, T9, z3, z4⟩ := up8 v9 H9 hV9 f9 st9
            repeat (walk_at "rd")
            refine iteF ?_
            repeat (walk_at "rd")
            rw [← z3, ← z4] at hj
            obtain ⟨v10, ev10, hV10, _⟩ := T9.pick hj
            refine ⟨v10, by rw [ev10]; rfl, hV10, fun H10 k10 => ?_⟩
            repeat (walk_at "rd")
            refine iteF ?_
            repeat (walk_at "rd")
            exact ⟨_, _, _, _, y1, y2, rfl, T9.k0 (Fr.of k10), hp9.k0 k10, (z3.trans z1).trans q1, (z4.trans z2).trans q2⟩
          · rintro σ H6 ⟨deo, fo, ko, to, w1, w2, rfl, T6, hp6, q1, q2⟩
            repeat (walk_at "rd")
            exact ⟨_, _, _, _, _, w1, w2, rfl, T6, hp6, q1, q2⟩
        · rintro σ H5 ⟨deo, fo, ko, ho, to, u1, u2, rfl, T5, hp5, q1, q2⟩
          have hl5 := T5.at_
          repeat (walk_at "rd")
          refine ⟨u1, rfl, T5.h1, fun v6 H6 hV6 k6 gr6 st6 => ?_⟩
          have T6 := T5.one hV6 (Fr.of k6) st6
          have hl6 := T6.at_
          repeat (walk_at "rd")
          refine iteT ?_
          repeat (walk_at "rd")
          refine ⟨v6, rfl, T6.h1, fun H7 k7 => ?_⟩
          have T7 := T6.k0 (Fr.of k7)
          have hl7 := T7.at_
          repeat (walk_at "rd")
          refine iteT ?_
          repeat (walk_at "rd")
          refine ⟨u2, rfl, T7.h2, fun H8 k8 => ?_⟩
          exact k H8
    · repeat (walk_at "rd")
      obtain ⟨H8, rfl⟩ : ∃ X, X = H7 := ⟨_, rfl⟩
      have hp8 := hp7
      have T8 := T7
      obtain ⟨Dn, hDn⟩ : ∃ Dn : Nat, 10 + r6 = (Dn : Int) := ⟨(10 + r6).toNat, by omega⟩
      have Db : Dn < 1000 := by omega
      rw [hDn]
      refine k_forR (n := Dn) (by omega) (fun i σ H => ∃ (deo fo ko ho to : Option V) (dr : Addr) (d1 d2 : Hs), σ = [some (.ref sc), some (.ref p), some (.ref hl), deo, fo, some (.ref dr), ko, ho, to] ∧ TwoAt K C H sc hl ns d1 d2 ∧ PoolAt H dr)
        ⟨_, _, _, _, _, p, d1, d2, rfl, T8, hp8⟩ ?_ ?_
      · clear hS hS1 hS2 hS3 hS4 hD1 hD13 hD14 hD2 T5 T6 T7 T8 hp1 hp2 hp3 hp4 hp5 hp6 hp7 hp8 k6 k7 dis hq3 hq4 g1 g2 g3 g4 g5 f2 f4 fresh1 fresh2 np nq nhl hlF
        rintro i σ H1 hi ⟨deo, fo, ko, ho, to, dr, e1, e2, rfl, T1, hp1⟩
        have hS1 := T1.scr.seq
        repeat (walk_at "rd")
        refine iteD (fun c => ?_) (fun c => ?_)
        · repeat (walk_at "rd")
          refine ⟨sc, ns, 2 + i, by rw [show (2 : Int) + (i : Int) = ((2 + i : Nat) : Int) by omega]; rfl, hS1, fun q c1 b1 s1 nq => ?_⟩
          have g2 := (Go.refl [] H1).new (o := poolO c1 0 b1 s1) nq
          have hp2 : PoolAt (upd H1 q (poolO c1 0 b1 s1)) q := ⟨c1, 0, b1, s1, upd_same⟩
          have T2 := T1.k0 g2.fr
          generalize upd H1 q (poolO c1 0 b1 s1) = H2 at *
          repeat (walk_at "rd")
          refine ⟨q, 2, rfl, hp2, by decide, by decide, fun r H3 r0 r1 hp3 k3 => ?_⟩
          have T3 := T2.k0 (Fr.pool hp2 k3)
          have hl3 := T3.at_
          obtain ⟨d, hd, hD, up⟩ := T3.sel r0 r1
          repeat (walk_at "rd")
          refine ⟨q, d, rfl, hp3, hD, by have := hD.good.l4; omega, fun d' H4 hD4 hp4 f4 gr4 st4 => ?_⟩
          obtain ⟨u1, u2, T4, _, _⟩ := up d' H4 hD4 f4 st4
          repeat (walk_at "rd")
          refine iteF ?_
          repeat (walk_at "rd")
          have hl4 := T4.at_
          refine k_forL (SqL.of hl4) (fun j σ H5 => ∃ (deo fo ko ho to : Option V), σ = [some (.ref sc), some (.ref p), some (.ref hl), deo, fo, some (.ref q), ko, ho, to] ∧ TwoAt K C H5 sc hl ns u1 u2 ∧ PoolAt H5 q)
            ⟨_, _, _, _, _, rfl, T4, hp4⟩ (fun j σ H5 _ ⟨_, _, _, _, _, _, T5, _⟩ => SqL.of T5.at_) ?_ ?_
          · rintro j x σ H5 hj ⟨deo, fo, ko, ho, to, rfl, T5, hp5⟩
            obtain ⟨v, rfl, hV, _⟩ := T5.pick hj
            repeat (walk_at "rd")
            refine ⟨v, rfl, hV, fun H6 k6 => ?_⟩
            repeat (walk_at "rd")
            refine iteF ?_
            repeat (walk_at "rd")
            exact ⟨_, _, _, _, _, rfl, T5.k0 (Fr.of k6), hp5.k0 k6⟩
          · rintro σ H5 ⟨deo, fo, ko, ho, to, rfl, T5, hp5⟩
            repeat (walk_at "rd")
            exact ⟨_, _, _, _, _, q, u1, u2, rfl, T5, hp5⟩
        · obtain ⟨H2, rfl⟩ : ∃ X, X = H1 := ⟨_, rfl⟩
          obtain ⟨q, rfl⟩ : ∃ X, X = dr := ⟨_, rfl⟩
          have hp2 := hp1
          have T2 := T1
          repeat (walk_at "rd")
          refine ⟨q, 2, rfl, hp2, by decide, by decide, fun r H3 r0 r1 hp3 k3 => ?_⟩
          have T3 := T2.k0 (Fr.pool hp2 k3)
          have hl3 := T3.at_
          obtain ⟨d, hd, hD, up⟩ := T3.sel r0 r1
          repeat (walk_at "rd")
          refine ⟨q, d, rfl, hp3, hD, by have := hD.good.l4; omega, fun d' H4 hD4 hp4 f4 gr4 st4 => ?_⟩
          obtain ⟨u1, u2, T4, _, _⟩ := up d' H4 hD4 f4 st4
          repeat (walk_at "rd")
          refine iteF ?_
          repeat (walk_at "rd")
          have hl4 := T4.at_
          refine k_forL (SqL.of hl4) (fun j σ H5 => ∃ (deo fo ko ho to : Option V), σ = [some (.ref sc), some (.ref p), some (.ref hl), deo, fo, some (.ref q), ko, ho, to] ∧ TwoAt K C H5 sc hl ns u1 u2 ∧ PoolAt H5 q)
            ⟨_, _, _, _, _, rfl, T4, hp4⟩ (fun j σ H5 _ ⟨_, _, _, _, _, _, T5, _⟩ => SqL.of T5.at_) ?_ ?_
          · rintro j x σ H5 hj ⟨deo, fo, ko, ho, to, rfl, T5, hp5⟩
            obtain ⟨v, rfl, hV, _⟩ := T5.pick hj
            repeat (walk_at "rd")
            refine ⟨v, rfl, hV, fun H6 k6 => ?_⟩
            repeat (walk_at "rd")
            refine iteF ?_
            repeat (walk_at "rd")
            exact ⟨_, _, _, _, _, rfl, T5.k0 (Fr.of k6), hp5.k0 k6⟩
          · rintro σ H5 ⟨deo, fo, ko, ho, to, rfl, T5, hp5⟩
            repeat (walk_at "rd")
            exact ⟨_, _, _, _, _, q, u1, u2, rfl, T5, hp5⟩
      · rintro σ H1 ⟨deo, fo, ko, ho, to, dr, e1, e2, rfl, T1, hp1⟩
        have hl1 := T1.at_
        repeat (walk_at "rd")
        refine k_forL (SqL.of hl1) (fun j σ H5 => ∃ (deo fo ko ho to : Option V) (u1 u2 : Hs), σ = [some (.ref sc), some (.ref p), some (.ref hl), deo, fo, some (.ref dr), ko, ho, to] ∧ TwoAt K C H5 sc hl ns u1 u2 ∧ PoolAt H5 dr ∧ u1.a = e1.a ∧ u2.a = e2.a)
          ⟨_, _, _, _, _, e1, e2, rfl, T1, hp1, rfl, rfl⟩ (fun j σ H5 _ ⟨_, _, _, _, _, _, _, _, T5, _, q1, q2⟩ => SqL.of (by rw [← q1, ← q2]; exact T5.at_)) ?_ ?_
        · rintro j x σ H5 hj ⟨deo, fo, ko, ho, to, u1, u2, rfl, T5, hp5, q1, q2⟩
          repeat (walk_at "rd")
          refine k_forR (n := 3) (by omega) (fun i σ H6 => ∃ (deo fo ko to : Option V) (w1 w2 : Hs), σ = [some (.ref sc), some (.ref p), some (.ref hl), deo, fo, some (.ref dr), ko, some x, to] ∧ TwoAt K C H6 sc hl ns w1 w2 ∧ PoolAt H6 dr ∧ w1.a = e1.a ∧ w2.a = e2.a)
            ⟨_, _, _, _, u1, u2, rfl, T5, hp5, q1, q2⟩ ?_ ?_
          · rintro i σ H6 _ ⟨deo, fo, ko, to, w1, w2, rfl, T6, hp6, q1, q2⟩
            rw [← q1, ← q2] at hj
            obtain ⟨v, rfl, hV, up⟩ := T6.pick hj
            repeat (walk_at "rd")
            refine ⟨v, rfl, hV, fun v2 H7 hV7 k7 gr7 st7 => ?_⟩
            obtain ⟨x1, x2, T7, z1, z2⟩ := up v2 H7 hV7 (Fr.of k7) st7
            have hp7 := hp6.keep k7 hV.np
            repeat (walk_at "rd")
            refine iteF ?_
            repeat (walk_at "rd")
            rw [← z1, ← z2] at hj
            obtain ⟨v7, ev7, hV7', _⟩ := T7.pick hj
            refine ⟨v7, by rw [ev7]; rfl, hV7', fun H8 k8 => ?_⟩
            have T8 := T7.k0 (Fr.of k8)
            have hp8 := hp7.k0 k8
            repeat (walk_at "rd")
            refine iteF ?_
            repeat (walk_at "rd")
            obtain ⟨v8, ev8, hV8, up8⟩ := T8.pick hj
            refine ⟨dr, v8, by rw [ev8]; rfl, hp8, hV8, by have := hV8.good.l4; omega, fun v9 H9 hV9 hp9 f9 gr9 st9 => ?_⟩
            obtain ⟨y1, y2, T9, z3, z4⟩ := up8 v9 H9 hV9 f9 st9
            repeat (walk_at "rd")
            refine iteF ?_
            repeat (walk_at "rd")
            rw [← z3, ← z4] at hj
            obtain ⟨v10, ev10, hV10, _⟩ := T9.pick hj
            refine ⟨v10, by rw [ev10]; rfl, hV10, fun H10 k10 => ?_⟩
            repeat (walk_at "rd")
            refine iteF ?_
            repeat (walk_at "rd")
            exact ⟨_, _, _, _, y1, y2, rfl, T9.k0 (Fr.of k10), hp9.k0 k10, (z3.trans z1).trans q1, (z4.trans z2).trans q2⟩
          · rintro σ H6 ⟨deo, fo, ko, to, w1, w2, rfl, T6, hp6, q1, q2⟩
            repeat (walk_at "rd")
            exact ⟨_, _, _, _, _, w1, w2, rfl, T6, hp6, q1, q2⟩
        · rintro σ H5 ⟨deo, fo, ko, ho, to, u1, u2, rfl, T5, hp5, q1, q2⟩
          have hl5 := T5.at_
          repeat (walk_at "rd")
          refine ⟨u1, rfl, T5.h1, fun v6 H6 hV6 k6 gr6 st6 => ?_⟩
          have T6 := T5.one hV6 (Fr.of k6) st6
          have hl6 := T6.at_
          repeat (walk_at "rd")
          refine iteT ?_
          repeat (walk_at "rd")
          refine ⟨v6, rfl, T6.h1, fun H7 k7 => ?_⟩
          have T7 := T6.k0 (Fr.of k7)
          have hl7 := T7.at_
          repeat (walk_at "rd")
          refine iteT ?_
          repeat (walk_at "rd")
          refine ⟨u2, rfl, T7.h2, fun H8 k8 => ?_⟩
          exact k H8
end
end L2.K44
end P_K44t
section P_K44u
namespace L2.K44
open PySem PySem.Spec PyProof.Rows L2.KB
set_option maxHeartbeats 16000000 in
theorem all_mk {l : PySem.W.OpenLaw} {w : World} {K : PySem.W.Frag} {h : Heap} {mg : Str → Option Value} {fa C f1 f2 f3 f4 f5 f6 f7 f8 f9 f10 f11 f12 f13 f14 f15 f16 f17 f18 f19 f20 f21 f22 f23 f24 f25 f26 f27 : Addr} (X : K.In h) (G : h.Ns mainGlobals mg) (hfa : mg "law" = some (.ref fa))
    {od1 od2 od3 od4 od5 od6 od7 od8 od9 od10 od11 od12 od13 od14 od15 od16 od17 od18 od19 od20 od21 od22 od23 od24 od25 od26 od27 an1 an2 an3 an4 an5 an6 an7 an8 an9 an10 an11 an12 an13 an14 an15 an16 an17 an18 an19 an20 an21 an22 an23 an24 an25 an26 an27 : Option Addr} {sl1 sl2 sl3 sl4 sl5 sl6 sl7 sl8 sl9 sl10 sl11 sl12 sl13 sl14 sl15 sl16 sl17 sl18 sl19 sl20 sl21 sl22 sl23 sl24 sl25 sl26 sl27 : Array (Option Value)} {oc1 oc2 oc3 oc4 oc5 oc6 oc7 oc8 oc9 oc10 oc11 oc12 oc13 oc14 oc15 oc16 oc17 oc18 oc19 oc20 oc21 oc22 oc23 oc24 oc25 oc26 oc27 kV1 kV2 kV3 kV4 kV5 kV6 kV7 kV8 kV9 kV10 kV11 kV12 kV13 kV14 kV15 kV16 kV17 kV18 kV19 kV20 kV21 kV22 kV23 kV24 kV25 kV26 kV27 dc1 dc2 dc3 dc4 dc5 dc6 dc7 dc8 dc9 dc10 dc11 dc12 dc13 dc14 dc15 dc16 dc17 dc18 dc19 dc20 dc21 dc22 dc23 dc24 dc25 dc26 dc27 pm1 pm2 pm3 pm4 pm5 pm6 pm7 pm8 pm9 pm10 pm11 pm12 pm13 pm14 pm15 pm16 pm17 pm18 pm19 pm20 pm21 pm22 pm23 pm24 pm25 pm26 pm27 cd1 cd2 cd3 cd4 cd5 cd6 cd7 cd8 cd9 cd10 cd11 cd12 cd13 cd14 cd15 cd16 cd17 cd18 cd19 cd20 cd21 cd22 cd23 cd24 cd25 cd26 cd27 ct1 ct2 ct3 ct4 ct5 ct6 ct7 ct8 ct9 ct10 ct11 ct12 ct13 ct14 ct15 ct16 ct17 ct18 ct19 ct20 ct21 ct22 ct23 ct24 ct25 ct26 ct27 : Value}
    (aC : PySem.W.nsIn K mainGlobals "Ways" = some (some (.ref C)))
    (a1 : PySem.W.findIn K (.ref C) "__init__" = some (some (.ref f1))) (i1 : PySem.W.isFn K (.ref f1) = true) (l1 : K.lookup f1 = some ⟨oc1, od1, .func (PySem.W.fnOf "__init__" "Ways.__init__" (defArgs st_Ways___init__) (defBody st_Ways___init__) (defScope st_Ways___init__) .none kV1 dc1 pm1 an1 cd1 ct1), sl1⟩) (c1 : PySem.W.codeIn K cd1 "Ways.__init__" = true) (k1 : PySem.W.keepIn K (.ref f1) = true)
    (a2 : PySem.W.findIn K (.ref C) "limit" = some (some (.ref f2))) (i2 : PySem.W.isFn K (.ref f2) = true) (l2 : K.lookup f2 = some ⟨oc2, od2, .func (PySem.W.fnOf "limit" "Ways.limit" (defArgs st_Ways_limit) (defBody st_Ways_limit) (defScope st_Ways_limit) .none kV2 dc2 pm2 an2 cd2 ct2), sl2⟩) (c2 : PySem.W.codeIn K cd2 "Ways.limit" = true) (k2 : PySem.W.keepIn K (.ref f2) = true)
    (a3 : PySem.W.findIn K (.ref C) "limits" = some (some (.ref f3))) (i3 : PySem.W.isFn K (.ref f3) = true) (l3 : K.lookup f3 = some ⟨oc3, od3, .func (PySem.W.fnOf "limits" "Ways.limits" (defArgs st_Ways_limits) (defBody st_Ways_limits) (defScope st_Ways_limits) .none kV3 dc3 pm3 an3 cd3 ct3), sl3⟩) (c3 : PySem.W.codeIn K cd3 "Ways.limits" = true) (k3 : PySem.W.keepIn K (.ref f3) = true)
    (a4 : PySem.W.findIn K (.ref C) "back" = some (some (.ref f4))) (i4 : PySem.W.isFn K (.ref f4) = true) (l4 : K.lookup f4 = some ⟨oc4, od4, .func (PySem.W.fnOf "back" "Ways.back" (defArgs st_Ways_back) (defBody st_Ways_back) (defScope st_Ways_back) .none kV4 dc4 pm4 an4 cd4 ct4), sl4⟩) (c4 : PySem.W.codeIn K cd4 "Ways.back" = true) (k4 : PySem.W.keepIn K (.ref f4) = true)
    (a5 : PySem.W.findIn K (.ref C) "heights" = some (some (.ref f5))) (i5 : PySem.W.isFn K (.ref f5) = true) (l5 : K.lookup f5 = some ⟨oc5, od5, .func (PySem.W.fnOf "heights" "Ways.heights" (defArgs st_Ways_heights) (defBody st_Ways_heights) (defScope st_Ways_heights) .none kV5 dc5 pm5 an5 cd5 ct5), sl5⟩) (c5 : PySem.W.codeIn K cd5 "Ways.heights" = true) (k5 : PySem.W.keepIn K (.ref f5) = true)
    (a6 : PySem.W.findIn K (.ref C) "_leading" = some (some (.ref f6))) (i6 : PySem.W.isFn K (.ref f6) = true) (l6 : K.lookup f6 = some ⟨oc6, od6, .func (PySem.W.fnOf "_leading" "Ways._leading" (defArgs st_Ways__leading) (defBody st_Ways__leading) (defScope st_Ways__leading) .none kV6 dc6 pm6 an6 cd6 ct6), sl6⟩) (c6 : PySem.W.codeIn K cd6 "Ways._leading" = true) (k6 : PySem.W.keepIn K (.ref f6) = true)
    (a7 : PySem.W.findIn K (.ref C) "_falls" = some (some (.ref f7))) (i7 : PySem.W.isFn K (.ref f7) = true) (l7 : K.lookup f7 = some ⟨oc7, od7, .func (PySem.W.fnOf "_falls" "Ways._falls" (defArgs st_Ways__falls) (defBody st_Ways__falls) (defScope st_Ways__falls) .none kV7 dc7 pm7 an7 cd7 ct7), sl7⟩) (c7 : PySem.W.codeIn K cd7 "Ways._falls" = true) (k7 : PySem.W.keepIn K (.ref f7) = true)
    (a8 : PySem.W.findIn K (.ref C) "_ring" = some (some (.ref f8))) (i8 : PySem.W.isFn K (.ref f8) = true) (l8 : K.lookup f8 = some ⟨oc8, od8, .func (PySem.W.fnOf "_ring" "Ways._ring" (defArgs st_Ways__ring) (defBody st_Ways__ring) (defScope st_Ways__ring) .none kV8 dc8 pm8 an8 cd8 ct8), sl8⟩) (c8 : PySem.W.codeIn K cd8 "Ways._ring" = true) (k8 : PySem.W.keepIn K (.ref f8) = true)
    (a9 : PySem.W.findIn K (.ref C) "_settle_next" = some (some (.ref f9))) (i9 : PySem.W.isFn K (.ref f9) = true) (l9 : K.lookup f9 = some ⟨oc9, od9, .func (PySem.W.fnOf "_settle_next" "Ways._settle_next" (defArgs st_Ways__settle_next) (defBody st_Ways__settle_next) (defScope st_Ways__settle_next) .none kV9 dc9 pm9 an9 cd9 ct9), sl9⟩) (c9 : PySem.W.codeIn K cd9 "Ways._settle_next" = true) (k9 : PySem.W.keepIn K (.ref f9) = true)
    (a10 : PySem.W.findIn K (.ref C) "settle" = some (some (.ref f10))) (i10 : PySem.W.isFn K (.ref f10) = true) (l10 : K.lookup f10 = some ⟨oc10, od10, .func (PySem.W.fnOf "settle" "Ways.settle" (defArgs st_Ways_settle) (defBody st_Ways_settle) (defScope st_Ways_settle) .none kV10 dc10 pm10 an10 cd10 ct10), sl10⟩) (c10 : PySem.W.codeIn K cd10 "Ways.settle" = true) (k10 : PySem.W.keepIn K (.ref f10) = true)
    (a11 : PySem.W.nsIn K mainGlobals "_law_pool" = some (some (.ref f11))) (l11 : K.lookup f11 = some ⟨oc11, od11, .func (PySem.W.fnOf "_law_pool" "_law_pool" (defArgs st__law_pool) (defBody st__law_pool) (defScope st__law_pool) .none kV11 dc11 pm11 an11 cd11 ct11), sl11⟩) (c11 : PySem.W.codeIn K cd11 "_law_pool" = true) (k11 : PySem.W.keepIn K (.ref f11) = true)
    (a12 : PySem.W.nsIn K mainGlobals "_law_take" = some (some (.ref f12))) (l12 : K.lookup f12 = some ⟨oc12, od12, .func (PySem.W.fnOf "_law_take" "_law_take" (defArgs st__law_take) (defBody st__law_take) (defScope st__law_take) .none kV12 dc12 pm12 an12 cd12 ct12), sl12⟩) (c12 : PySem.W.codeIn K cd12 "_law_take" = true) (k12 : PySem.W.keepIn K (.ref f12) = true)
    (a13 : PySem.W.nsIn K mainGlobals "_law_whole" = some (some (.ref f13))) (l13 : K.lookup f13 = some ⟨oc13, od13, .func (PySem.W.fnOf "_law_whole" "_law_whole" (defArgs st__law_whole) (defBody st__law_whole) (defScope st__law_whole) .none kV13 dc13 pm13 an13 cd13 ct13), sl13⟩) (c13 : PySem.W.codeIn K cd13 "_law_whole" = true) (k13 : PySem.W.keepIn K (.ref f13) = true)
    (a14 : PySem.W.nsIn K mainGlobals "_law_mixed" = some (some (.ref f14))) (l14 : K.lookup f14 = some ⟨oc14, od14, .func (PySem.W.fnOf "_law_mixed" "_law_mixed" (defArgs st__law_mixed) (defBody st__law_mixed) (defScope st__law_mixed) .none kV14 dc14 pm14 an14 cd14 ct14), sl14⟩) (c14 : PySem.W.codeIn K cd14 "_law_mixed" = true) (k14 : PySem.W.keepIn K (.ref f14) = true)
    (a15 : PySem.W.nsIn K mainGlobals "_law_house" = some (some (.ref f15))) (l15 : K.lookup f15 = some ⟨oc15, od15, .func (PySem.W.fnOf "_law_house" "_law_house" (defArgs st__law_house) (defBody st__law_house) (defScope st__law_house) .none kV15 dc15 pm15 an15 cd15 ct15), sl15⟩) (c15 : PySem.W.codeIn K cd15 "_law_house" = true) (k15 : PySem.W.keepIn K (.ref f15) = true)
    (a16 : PySem.W.nsIn K mainGlobals "_law_put" = some (some (.ref f16))) (l16 : K.lookup f16 = some ⟨oc16, od16, .func (PySem.W.fnOf "_law_put" "_law_put" (defArgs st__law_put) (defBody st__law_put) (defScope st__law_put) .none kV16 dc16 pm16 an16 cd16 ct16), sl16⟩) (c16 : PySem.W.codeIn K cd16 "_law_put" = true) (k16 : PySem.W.keepIn K (.ref f16) = true)
    (a17 : PySem.W.nsIn K mainGlobals "_law_limited" = some (some (.ref f17))) (l17 : K.lookup f17 = some ⟨oc17, od17, .func (PySem.W.fnOf "_law_limited" "_law_limited" (defArgs st__law_limited) (defBody st__law_limited) (defScope st__law_limited) .none kV17 dc17 pm17 an17 cd17 ct17), sl17⟩) (c17 : PySem.W.codeIn K cd17 "_law_limited" = true) (k17 : PySem.W.keepIn K (.ref f17) = true)
    (a18 : PySem.W.nsIn K mainGlobals "_law_turned" = some (some (.ref f18))) (l18 : K.lookup f18 = some ⟨oc18, od18, .func (PySem.W.fnOf "_law_turned" "_law_turned" (defArgs st__law_turned) (defBody st__law_turned) (defScope st__law_turned) .none kV18 dc18 pm18 an18 cd18 ct18), sl18⟩) (c18 : PySem.W.codeIn K cd18 "_law_turned" = true) (k18 : PySem.W.keepIn K (.ref f18) = true)
    (a19 : PySem.W.nsIn K mainGlobals "_law_run" = some (some (.ref f19))) (l19 : K.lookup f19 = some ⟨oc19, od19, .func (PySem.W.fnOf "_law_run" "_law_run" (defArgs st__law_run) (defBody st__law_run) (defScope st__law_run) .none kV19 dc19 pm19 an19 cd19 ct19), sl19⟩) (c19 : PySem.W.codeIn K cd19 "_law_run" = true) (k19 : PySem.W.keepIn K (.ref f19) = true)
    (a20 : PySem.W.nsIn K mainGlobals "_law_back" = some (some (.ref f20))) (l20 : K.lookup f20 = some ⟨oc20, od20, .func (PySem.W.fnOf "_law_back" "_law_back" (defArgs st__law_back) (defBody st__law_back) (defScope st__law_back) .none kV20 dc20 pm20 an20 cd20 ct20), sl20⟩) (c20 : PySem.W.codeIn K cd20 "_law_back" = true) (k20 : PySem.W.keepIn K (.ref f20) = true)
    (a21 : PySem.W.nsIn K mainGlobals "_law_possible" = some (some (.ref f21))) (l21 : K.lookup f21 = some ⟨oc21, od21, .func (PySem.W.fnOf "_law_possible" "_law_possible" (defArgs st__law_possible) (defBody st__law_possible) (defScope st__law_possible) .none kV21 dc21 pm21 an21 cd21 ct21), sl21⟩) (c21 : PySem.W.codeIn K cd21 "_law_possible" = true) (k21 : PySem.W.keepIn K (.ref f21) = true)
    (a22 : PySem.W.nsIn K mainGlobals "_law_ring" = some (some (.ref f22))) (l22 : K.lookup f22 = some ⟨oc22, od22, .func (PySem.W.fnOf "_law_ring" "_law_ring" (defArgs st__law_ring) (defBody st__law_ring) (defScope st__law_ring) .none kV22 dc22 pm22 an22 cd22 ct22), sl22⟩) (c22 : PySem.W.codeIn K cd22 "_law_ring" = true) (k22 : PySem.W.keepIn K (.ref f22) = true)
    (a23 : PySem.W.nsIn K mainGlobals "_law_kept" = some (some (.ref f23))) (l23 : K.lookup f23 = some ⟨oc23, od23, .func (PySem.W.fnOf "_law_kept" "_law_kept" (defArgs st__law_kept) (defBody st__law_kept) (defScope st__law_kept) .none kV23 dc23 pm23 an23 cd23 ct23), sl23⟩) (c23 : PySem.W.codeIn K cd23 "_law_kept" = true) (k23 : PySem.W.keepIn K (.ref f23) = true)
    (a24 : PySem.W.nsIn K mainGlobals "_law_settled" = some (some (.ref f24))) (l24 : K.lookup f24 = some ⟨oc24, od24, .func (PySem.W.fnOf "_law_settled" "_law_settled" (defArgs st__law_settled) (defBody st__law_settled) (defScope st__law_settled) .none kV24 dc24 pm24 an24 cd24 ct24), sl24⟩) (c24 : PySem.W.codeIn K cd24 "_law_settled" = true) (k24 : PySem.W.keepIn K (.ref f24) = true)
    (a25 : PySem.W.nsIn K mainGlobals "_law_looked" = some (some (.ref f25))) (l25 : K.lookup f25 = some ⟨oc25, od25, .func (PySem.W.fnOf "_law_looked" "_law_looked" (defArgs st__law_looked) (defBody st__law_looked) (defScope st__law_looked) .none kV25 dc25 pm25 an25 cd25 ct25), sl25⟩) (c25 : PySem.W.codeIn K cd25 "_law_looked" = true) (k25 : PySem.W.keepIn K (.ref f25) = true)
    (a26 : PySem.W.nsIn K mainGlobals "_law_deed" = some (some (.ref f26))) (l26 : K.lookup f26 = some ⟨oc26, od26, .func (PySem.W.fnOf "_law_deed" "_law_deed" (defArgs st__law_deed) (defBody st__law_deed) (defScope st__law_deed) .none kV26 dc26 pm26 an26 cd26 ct26), sl26⟩) (c26 : PySem.W.codeIn K cd26 "_law_deed" = true) (k26 : PySem.W.keepIn K (.ref f26) = true)
    (a27 : PySem.W.nsIn K mainGlobals "law" = some (some (.ref f27))) (l27 : K.lookup f27 = some ⟨oc27, od27, .func (PySem.W.fnOf "law" "law" (defArgs st_law) (defBody st_law) (defScope st_law) .none kV27 dc27 pm27 an27 cd27 ct27), sl27⟩) (c27 : PySem.W.codeIn K cd27 "law" = true) (k27 : PySem.W.keepIn K (.ref f27) = true)
    (pg : PySem.W.plainGet K C Str.empty = true) (hd : PySem.W.hasDictIn K C = true) (po : PySem.W.plainOver K C = true) (sa : PySem.W.findIn K (.ref C) "__setattr__" = some (some (.builtin "object.__setattr__"))) (mk : PySem.W.makesIn K C = true) (kc : PySem.W.keepIn K (.ref C) = true)
    (n_heights : PySem.W.findIn K (.ref C) "_heights" = some none)
    (n_limits : PySem.W.findIn K (.ref C) "_limits" = some none)
    (n_settled : PySem.W.findIn K (.ref C) "_settled" = some none)
    (z_len : PySem.W.nsIn K mainGlobals "len" = some none)
    (z_min : PySem.W.nsIn K mainGlobals "min" = some none)
    (z_max : PySem.W.nsIn K mainGlobals "max" = some none)
    (z_list : PySem.W.nsIn K mainGlobals "list" = some none)
    (z_int : PySem.W.nsIn K mainGlobals "int" = some none)
    (z_bool : PySem.W.nsIn K mainGlobals "bool" = some none)
    (z_dict : PySem.W.nsIn K mainGlobals "dict" = some none)
    (z_range : PySem.W.nsIn K mainGlobals "range" = some none)
    (z_sorted : PySem.W.nsIn K mainGlobals "sorted" = some none)
    (z_isinstance : PySem.W.nsIn K mainGlobals "isinstance" = some none)
    (z_heappop : PySem.W.nsIn K mainGlobals "heappop" = some (some (.builtin "_heapq.heappop")))
    (z_heappush : PySem.W.nsIn K mainGlobals "heappush" = some (some (.builtin "_heapq.heappush")))
    : ∃ fd : FuncData, (∀ (s : Shared) (v : Value), BindsTo s fd ⟨[v], []⟩ [("script", v)]) ∧ ∀ base : Heap, K.In base → base.Ns mainGlobals mg → FnOk l.prog w K mg base CX0 6 fa fd ["script"] (spLaw K) := by
  have e := hfa.symm.trans (PySem.W.mg_of X G a27)
  cases e
  have T : Txt K mg C := ⟨⟨pg, hd, po, sa⟩, n_heights, n_limits, n_settled, PySem.W.mg_of X G aC, PySem.W.mg_none_of X G z_len, PySem.W.mg_none_of X G z_min, PySem.W.mg_none_of X G z_max, PySem.W.mg_none_of X G z_list, PySem.W.mg_none_of X G z_int, PySem.W.mg_none_of X G z_bool, PySem.W.mg_none_of X G z_dict, PySem.W.mg_none_of X G z_range, PySem.W.mg_none_of X G z_sorted, PySem.W.mg_none_of X G z_isinstance, PySem.W.mg_of X G z_heappop, PySem.W.mg_of X G z_heappush⟩
  have F1 := fun_mk (st := st_Ways___init__) l1 c1 k1
  have b1 := F1.binds (ps := ["self"]) fun _ _ _ _ _ _ us hl => match us, hl with | [_], _ => rfl
  have F2 := fun_mk (st := st_Ways_limit) l2 c2 k2
  have b2 := F2.binds (ps := ["self", "x", "y", "k", "label"]) fun _ _ _ _ _ _ us hl => match us, hl with | [_, _, _, _, _], _ => rfl
  have F3 := fun_mk (st := st_Ways_limits) l3 c3 k3
  have b3 := F3.binds (ps := ["self"]) fun _ _ _ _ _ _ us hl => match us, hl with | [_], _ => rfl
  have F4 := fun_mk (st := st_Ways_back) l4 c4 k4
  have b4 := F4.binds (ps := ["self", "count"]) fun _ _ _ _ _ _ us hl => match us, hl with | [_, _], _ => rfl
  have F5 := fun_mk (st := st_Ways_heights) l5 c5 k5
  have b5 := F5.binds (ps := ["self"]) fun _ _ _ _ _ _ us hl => match us, hl with | [_], _ => rfl
  have F6 := fun_mk (st := st_Ways__leading) l6 c6 k6
  have b6 := F6.binds (ps := ["self"]) fun _ _ _ _ _ _ us hl => match us, hl with | [_], _ => rfl
  have F7 := fun_mk (st := st_Ways__falls) l7 c7 k7
  have b7 := F7.binds (ps := ["self", "numbers", "lowered"]) fun _ _ _ _ _ _ us hl => match us, hl with | [_, _, _], _ => rfl
  have F8 := fun_mk (st := st_Ways__ring) l8 c8 k8
  have b8 := F8.binds (ps := ["self", "place", "causes"]) fun _ _ _ _ _ _ us hl => match us, hl with | [_, _, _], _ => rfl
  have F9 := fun_mk (st := st_Ways__settle_next) l9 c9 k9
  have b9 := F9.binds (ps := ["self"]) fun _ _ _ _ _ _ us hl => match us, hl with | [_], _ => rfl
  have F10 := fun_mk (st := st_Ways_settle) l10 c10 k10
  have b10 := F10.binds (ps := ["self"]) fun _ _ _ _ _ _ us hl => match us, hl with | [_], _ => rfl
  have F11 := fun_mk (st := st__law_pool) l11 c11 k11
  have b11 := F11.binds (ps := ["script", "k"]) fun _ _ _ _ _ _ us hl => match us, hl with | [_, _], _ => rfl
  have F12 := fun_mk (st := st__law_take) l12 c12 k12
  have b12 := F12.binds (ps := ["pool", "size"]) fun _ _ _ _ _ _ us hl => match us, hl with | [_, _], _ => rfl
  have F13 := fun_mk (st := st__law_whole) l13 c13 k13
  have b13 := F13.binds (ps := ["value"]) fun _ _ _ _ _ _ us hl => match us, hl with | [_], _ => rfl
  have F14 := fun_mk (st := st__law_mixed) l14 c14 k14
  have b14 := F14.binds (ps := ["pool", "row"]) fun _ _ _ _ _ _ us hl => match us, hl with | [_, _], _ => rfl
  have F15 := fun_mk (st := st__law_house) l15 c15 k15
  have b15 := F15.binds (ps := ["pool"]) fun _ _ _ _ _ _ us hl => match us, hl with | [_], _ => rfl
  have F16 := fun_mk (st := st__law_put) l16 c16 k16
  have b16 := F16.binds (ps := ["pool", "house", "x", "y", "k"]) fun _ _ _ _ _ _ us hl => match us, hl with | [_, _, _, _, _], _ => rfl
  have F17 := fun_mk (st := st__law_limited) l17 c17 k17
  have b17 := F17.binds (ps := ["pool", "house"]) fun _ _ _ _ _ _ us hl => match us, hl with | [_, _], _ => rfl
  have F18 := fun_mk (st := st__law_turned) l18 c18 k18
  have b18 := F18.binds (ps := ["pool", "house"]) fun _ _ _ _ _ _ us hl => match us, hl with | [_, _], _ => rfl
  have F19 := fun_mk (st := st__law_run) l19 c19 k19
  have b19 := F19.binds (ps := ["pool", "house"]) fun _ _ _ _ _ _ us hl => match us, hl with | [_, _], _ => rfl
  have F20 := fun_mk (st := st__law_back) l20 c20 k20
  have b20 := F20.binds (ps := ["pool", "house"]) fun _ _ _ _ _ _ us hl => match us, hl with | [_, _], _ => rfl
  have F21 := fun_mk (st := st__law_possible) l21 c21 k21
  have b21 := F21.binds (ps := ["places", "stand"]) fun _ _ _ _ _ _ us hl => match us, hl with | [_, _], _ => rfl
  have F22 := fun_mk (st := st__law_ring) l22 c22 k22
  have b22 := F22.binds (ps := ["told", "stand"]) fun _ _ _ _ _ _ us hl => match us, hl with | [_, _], _ => rfl
  have F23 := fun_mk (st := st__law_kept) l23 c23 k23
  have b23 := F23.binds (ps := ["house"]) fun _ _ _ _ _ _ us hl => match us, hl with | [_], _ => rfl
  have F24 := fun_mk (st := st__law_settled) l24 c24 k24
  have b24 := F24.binds (ps := ["house"]) fun _ _ _ _ _ _ us hl => match us, hl with | [_], _ => rfl
  have F25 := fun_mk (st := st__law_looked) l25 c25 k25
  have b25 := F25.binds (ps := ["house"]) fun _ _ _ _ _ _ us hl => match us, hl with | [_], _ => rfl
  have F26 := fun_mk (st := st__law_deed) l26 c26 k26
  have b26 := F26.binds (ps := ["pool", "house"]) fun _ _ _ _ _ _ us hl => match us, hl with | [_, _], _ => rfl
  have F27 := fun_mk (st := st_law) l27 c27 k27
  have b27 := F27.binds (ps := ["script"]) fun _ _ _ _ _ _ us hl => match us, hl with | [_], _ => rfl
  refine ⟨PySem.W.fnOf "law" "law" (defArgs st_law) (defBody st_law) (defScope st_law) .none kV27 dc27 pm27 an27 cd27 ct27, fun s v => .of_eq rfl, fun base _ _ => ?_⟩
  have CWays_limit : CalM l.prog w K mg base 1 C "limit" f2 _ ["self", "x", "y", "k", "label"] ((spLimit C)) := ⟨ok_limit F2 T, ⟨a2, i2, k2⟩, b2⟩
  have CWays_limits : CalM l.prog w K mg base 1 C "limits" f3 _ ["self"] ((spLimits C)) := ⟨ok_limits F3 T, ⟨a3, i3, k3⟩, b3⟩
  have CWays_back : CalM l.prog w K mg base 1 C "back" f4 _ ["self", "count"] ((spBack C)) := ⟨ok_back F4 T, ⟨a4, i4, k4⟩, b4⟩
  have CWays_heights : CalM l.prog w K mg base 1 C "heights" f5 _ ["self"] ((spHeights C)) := ⟨ok_heights F5 T, ⟨a5, i5, k5⟩, b5⟩
  have CWays__leading : CalM l.prog w K mg base 1 C "_leading" f6 _ ["self"] ((spLeading C)) := ⟨ok_leading F6 T, ⟨a6, i6, k6⟩, b6⟩
  have CWays__falls : CalM l.prog w K mg base 1 C "_falls" f7 _ ["self", "numbers", "lowered"] ((spFalls C)) := ⟨ok_falls F7 T, ⟨a7, i7, k7⟩, b7⟩
  have CWays__ring : CalM l.prog w K mg base 1 C "_ring" f8 _ ["self", "place", "causes"] ((spRing C)) := ⟨ok_ring F8 T, ⟨a8, i8, k8⟩, b8⟩
  have CWays__settle_next : CalM l.prog w K mg base 2 C "_settle_next" f9 _ ["self"] ((spNext C)) := ⟨ok_next F9 T CWays__leading CWays__falls CWays__ring, ⟨a9, i9, k9⟩, b9⟩
  have CWays_settle : CalM l.prog w K mg base 3 C "settle" f10 _ ["self"] ((spSettle C)) := ⟨ok_settle F10 T CWays__settle_next, ⟨a10, i10, k10⟩, b10⟩
  have C_law_pool : Cal l.prog w K mg base 1 "_law_pool" f11 _ ["script", "k"] ((spPool K)) := ⟨ok_pool F11 T, PySem.W.mg_of X G a11, k11, b11⟩
  have C_law_take : Cal l.prog w K mg base 1 "_law_take" f12 _ ["pool", "size"] (spTake) := ⟨ok_take F12 T, PySem.W.mg_of X G a12, k12, b12⟩
  have C_law_whole : Cal l.prog w K mg base 1 "_law_whole" f13 _ ["value"] (spWhole) := ⟨ok_whole F13 T, PySem.W.mg_of X G a13, k13, b13⟩
  have C_law_mixed : Cal l.prog w K mg base 2 "_law_mixed" f14 _ ["pool", "row"] (spMixed) := ⟨ok_mixed F14 T C_law_take, PySem.W.mg_of X G a14, k14, b14⟩
  have C_law_house : Cal l.prog w K mg base 3 "_law_house" f15 _ ["pool"] ((spHouse C)) := ⟨ok_house F15 T C_law_take ⟨mk, a1, i1, kc⟩ (ok_init F1 T) b1, PySem.W.mg_of X G a15, k15, b15⟩
  have C_law_put : Cal l.prog w K mg base 2 "_law_put" f16 _ ["pool", "house", "x", "y", "k"] ((spPut C)) := ⟨ok_put F16 T C_law_take CWays_limit, PySem.W.mg_of X G a16, k16, b16⟩
  have C_law_limited : Cal l.prog w K mg base 3 "_law_limited" f17 _ ["pool", "house"] ((spDo C 400)) := ⟨ok_limited F17 T C_law_take C_law_put, PySem.W.mg_of X G a17, k17, b17⟩
  have C_law_turned : Cal l.prog w K mg base 4 "_law_turned" f18 _ ["pool", "house"] ((spDo C 400)) := ⟨ok_turned F18 T C_law_take C_law_put C_law_limited, PySem.W.mg_of X G a18, k18, b18⟩
  have C_law_run : Cal l.prog w K mg base 3 "_law_run" f19 _ ["pool", "house"] ((spDo C 393)) := ⟨ok_run F19 T C_law_take C_law_mixed C_law_put, PySem.W.mg_of X G a19, k19, b19⟩
  have C_law_back : Cal l.prog w K mg base 2 "_law_back" f20 _ ["pool", "house"] ((spDo C 401)) := ⟨ok_lback F20 T C_law_take CWays_back, PySem.W.mg_of X G a20, k20, b20⟩
  have C_law_possible : Cal l.prog w K mg base 1 "_law_possible" f21 _ ["places", "stand"] (spPossible) := ⟨ok_possible F21 T, PySem.W.mg_of X G a21, k21, b21⟩
  have C_law_ring : Cal l.prog w K mg base 2 "_law_ring" f22 _ ["told", "stand"] (spRingL) := ⟨ok_lring F22 T C_law_whole, PySem.W.mg_of X G a22, k22, b22⟩
  have C_law_kept : Cal l.prog w K mg base 2 "_law_kept" f23 _ ["house"] ((spKept C)) := ⟨ok_kept F23 T C_law_whole CWays_heights, PySem.W.mg_of X G a23, k23, b23⟩
  have C_law_settled : Cal l.prog w K mg base 4 "_law_settled" f24 _ ["house"] ((spSettled C)) := ⟨ok_settled F24 T C_law_possible C_law_ring CWays_settle, PySem.W.mg_of X G a24, k24, b24⟩
  have C_law_looked : Cal l.prog w K mg base 3 "_law_looked" f25 _ ["house"] ((spLooked C)) := ⟨ok_looked F25 T C_law_whole C_law_kept CWays_limits, PySem.W.mg_of X G a25, k25, b25⟩
  have C_law_deed : Cal l.prog w K mg base 5 "_law_deed" f26 _ ["pool", "house"] ((spDo C 401)) := ⟨ok_deed F26 T C_law_take C_law_limited C_law_turned C_law_run C_law_back C_law_settled, PySem.W.mg_of X G a26, k26, b26⟩
  exact ok_law F27 T C_law_pool C_law_take C_law_house C_law_deed C_law_looked C_law_settled C_law_back
theorem walk {l : PySem.W.OpenLaw} {q : Program} {loose : List Str} {XP : (Str → Option Value) → Heap → Prop} {YP : World → Heap → Prop} {d : DefRec} {K : Params → PySem.W.Frag} (hn : l.most = some 63) (hdf : d.params.defaults = [])
    (hY : ∀ (w : World) (h : Heap), YP w h → (K w.params).In h)
    (F : ∀ (w : World) (mg : Str → Option Value) (fa : Addr) (h : Heap), (K w.params).In h → h.Ns mainGlobals mg → mg d.name = some (.ref fa) →
      ∃ fd : FuncData, (∀ (s : Shared) (u : Value), BindsTo s fd ⟨[u], []⟩ [("script", u)]) ∧ ∀ base : Heap, (K w.params).In base → base.Ns mainGlobals mg → FnOk l.prog w (K w.params) mg base CX0 6 fa fd ["script"] (spLaw (K w.params))) :
    PySem.W.WalkO q loose XP YP l.row.toRowW d [] (fun f vs => PySem.call f vs) :=
  L2.walk_of (n := 63) (k := 6) (x := "script") (CX := fun _ => CX0) (sp := fun w => spLaw (K w.params)) hn (by decide) hdf ⟨rfl, by decide, by decide⟩ hY F (fun _ _ a ns hl _ hS => ⟨a, ns, rfl, hS, hl, fun _ => rfl⟩) fun _ _ _ _ _ z => z
end L2.K44
end P_K44u
open PySem PySem.W PyProof.Rows
set_option maxRecDepth 100000 in
set_option maxHeartbeats 0 in
theorem PySem.Challenge.cw_solvedpapers_k44_ways_by_turns_holds : PySem.Challenge.rw_solvedpapers_k44_ways_by_turns.Holds := by
  w_on; o_law; k_head; (case hw => w_witness2)
  k_fill
  refine L2.K44.walk (l := PySem.Challenge.rw_solvedpapers_k44_ways_by_turns) rfl rfl (fun w h Y => PySem.W.kIn_of Y) ?F
  case F =>
    intro w mg fa h KX G hmg
    refine' L2.K44.all_mk KX G hmg ?aC ?a1 ?i1 ?l1 ?c1 ?k1 ?a2 ?i2 ?l2 ?c2 ?k2 ?a3 ?i3 ?l3 ?c3 ?k3 ?a4 ?i4 ?l4 ?c4 ?k4 ?a5 ?i5 ?l5 ?c5 ?k5 ?a6 ?i6 ?l6 ?c6 ?k6 ?a7 ?i7 ?l7 ?c7 ?k7 ?a8 ?i8 ?l8 ?c8 ?k8 ?a9 ?i9 ?l9 ?c9 ?k9 ?a10 ?i10 ?l10 ?c10 ?k10 ?a11 ?l11 ?c11 ?k11 ?a12 ?l12 ?c12 ?k12 ?a13 ?l13 ?c13 ?k13 ?a14 ?l14 ?c14 ?k14 ?a15 ?l15 ?c15 ?k15 ?a16 ?l16 ?c16 ?k16 ?a17 ?l17 ?c17 ?k17 ?a18 ?l18 ?c18 ?k18 ?a19 ?l19 ?c19 ?k19 ?a20 ?l20 ?c20 ?k20 ?a21 ?l21 ?c21 ?k21 ?a22 ?l22 ?c22 ?k22 ?a23 ?l23 ?c23 ?k23 ?a24 ?l24 ?c24 ?k24 ?a25 ?l25 ?c25 ?k25 ?a26 ?l26 ?c26 ?k26 ?a27 ?l27 ?c27 ?k27 ?pg ?hd ?po ?sa ?mk ?kc ?n_heights ?n_limits ?n_settled ?z_len ?z_min ?z_max ?z_list ?z_int ?z_bool ?z_dict ?z_range ?z_sorted ?z_isinstance ?z_heappop ?z_heappush
    (case aC => k_is)
    (case a1 => k_is)
    (case i1 => k_is)
    (case l1 => k_is)
    (case c1 => k_is)
    (case k1 => k_is)
    (case a2 => k_is)
    (case i2 => k_is)
    (case l2 => k_is)
    (case c2 => k_is)
    (case k2 => k_is)
    (case a3 => k_is)
    (case i3 => k_is)
    (case l3 => k_is)
    (case c3 => k_is)
    (case k3 => k_is)
    (case a4 => k_is)
    (case i4 => k_is)
    (case l4 => k_is)
    (case c4 => k_is)
    (case k4 => k_is)
    (case a5 => k_is)
    (case i5 => k_is)
    (case l5 => k_is)
    (case c5 => k_is)
    (case k5 => k_is)
    (case a6 => k_is)
    (case i6 => k_is)
    (case l6 => k_is)
    (case c6 => k_is)
    (case k6 => k_is)
    (case a7 => k_is)
    (case i7 => k_is)
    (case l7 => k_is)
    (case c7 => k_is)
    (case k7 => k_is)
    (case a8 => k_is)
    (case i8 => k_is)
    (case l8 => k_is)
    (case c8 => k_is)
    (case k8 => k_is)
    (case a9 => k_is)
    (case i9 => k_is)
    (case l9 => k_is)
    (case c9 => k_is)
    (case k9 => k_is)
    (case a10 => k_is)
    (case i10 => k_is)
    (case l10 => k_is)
    (case c10 => k_is)
    (case k10 => k_is)
    (case a11 => k_is)
    (case l11 => k_is)
    (case c11 => k_is)
    (case k11 => k_is)
    (case a12 => k_is)
    (case l12 => k_is)
    (case c12 => k_is)
    (case k12 => k_is)
    (case a13 => k_is)
    (case l13 => k_is)
    (case c13 => k_is)
    (case k13 => k_is)
    (case a14 => k_is)
    (case l14 => k_is)
    (case c14 => k_is)
    (case k14 => k_is)
    (case a15 => k_is)
    (case l15 => k_is)
    (case c15 => k_is)
    (case k15 => k_is)
    (case a16 => k_is)
    (case l16 => k_is)
    (case c16 => k_is)
    (case k16 => k_is)
    (case a17 => k_is)
    (case l17 => k_is)
    (case c17 => k_is)
    (case k17 => k_is)
    (case a18 => k_is)
    (case l18 => k_is)
    (case c18 => k_is)
    (case k18 => k_is)
    (case a19 => k_is)
    (case l19 => k_is)
    (case c19 => k_is)
    (case k19 => k_is)
    (case a20 => k_is)
    (case l20 => k_is)
    (case c20 => k_is)
    (case k20 => k_is)
    (case a21 => k_is)
    (case l21 => k_is)
    (case c21 => k_is)
    (case k21 => k_is)
    (case a22 => k_is)
    (case l22 => k_is)
    (case c22 => k_is)
    (case k22 => k_is)
    (case a23 => k_is)
    (case l23 => k_is)
    (case c23 => k_is)
    (case k23 => k_is)
    (case a24 => k_is)
    (case l24 => k_is)
    (case c24 => k_is)
    (case k24 => k_is)
    (case a25 => k_is)
    (case l25 => k_is)
    (case c25 => k_is)
    (case k25 => k_is)
    (case a26 => k_is)
    (case l26 => k_is)
    (case c26 => k_is)
    (case k26 => k_is)
    (case a27 => k_is)
    (case l27 => k_is)
    (case c27 => k_is)
    (case k27 => k_is)
    (case pg => k_is)
    (case hd => k_is)
    (case po => k_is)
    (case sa => k_is)
    (case mk => k_is)
    (case kc => k_is)
    (case n_heights => k_is)
    (case n_limits => k_is)
    (case n_settled => k_is)
    (case z_len => k_is)
    (case z_min => k_is)
    (case z_max => k_is)
    (case z_list => k_is)
    (case z_int => k_is)
    (case z_bool => k_is)
    (case z_dict => k_is)
    (case z_range => k_is)
    (case z_sorted => k_is)
    (case z_isinstance => k_is)
    (case z_heappop => k_is)
    (case z_heappush => k_is)
