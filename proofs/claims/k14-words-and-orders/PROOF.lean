import PyProof.Rows.All
import Wide.All
import OpenK.AllK
import Wide.FinOn
import KE.KStateDown
import HandS.ForMost
import HandS.Defaults
import HandS.IsInst
import HandS.Conv
import HandS.Style
import HandS.Deep
import HandS.Wide
import HandS.FStrTup
import KE.SortData
import PyProof.ReprRoads
import PyProof.ReprLen
import HandS.WideBits
import HandS.SortInts
import HandS.SortOrd
import HandS.TupLe
import HandS.Strs
import HandS.Flow
import HandS.Head0
import HandS.Head1
import HandS.Head2
import HandS.HeadEnd
import HandS.HeadHook1
import HandS.HeadHook2
import PySem.Challenge.RW_lowerboards_k14_whole_words_and_their_or
set_option Elab.async false
set_option linter.all false
set_option maxRecDepth 100000
section
set_option maxHeartbeats 0
namespace K14
open PySem PySem.Spec PyProof.Rows L2
/-! ### the text: the defs of the row's top (printed by gen_head.py) -/
def topS (i : Nat) : Stmt := PySem.Challenge.pw_lowerboards_k14_whole_words_and_their_or.main.body.getD i (.Pass ⟨0, 0, 0, 0⟩)
abbrev s_is_integer : Stmt := topS 9
abbrev s_is_count : Stmt := topS 10
abbrev s_is_list : Stmt := topS 11
abbrev s_is_order : Stmt := topS 12
abbrev s_want_many : Stmt := topS 13
abbrev s_want_order : Stmt := topS 14
abbrev s_want_alike : Stmt := topS 15
abbrev s_sorted_order : Stmt := topS 16
abbrev s_pairs_of_places : Stmt := topS 18
abbrev s_level_of : Stmt := topS 19
abbrev s_undone_of : Stmt := topS 20
abbrev s_behind_of : Stmt := topS 21
abbrev s_exchanged_in : Stmt := topS 22
abbrev s_falls_in : Stmt := topS 23
abbrev s_wrong_pairs : Stmt := topS 24
abbrev s_level : Stmt := topS 25
abbrev s_undone : Stmt := topS 26
abbrev s_one_behind : Stmt := topS 27
abbrev s_is_letter : Stmt := topS 30
abbrev s_is_word : Stmt := topS 31
abbrev s_want_word : Stmt := topS 32
abbrev s_order_by : Stmt := topS 33
abbrev s_is_least_in : Stmt := topS 34
abbrev s_word_of : Stmt := topS 35
abbrev s_word_order : Stmt := topS 36
abbrev s_is_least : Stmt := topS 37
abbrev s_a_word : Stmt := topS 38
abbrev s_L_pot : Stmt := topS 40
abbrev s_L_draw : Stmt := topS 41
abbrev s_L_pick : Stmt := topS 42
abbrev s_L_order : Stmt := topS 43
abbrev s_L_passed : Stmt := topS 44
abbrev s_L_wrong : Stmt := topS 45
abbrev s_L_exchanged : Stmt := topS 46
abbrev s_L_word_order : Stmt := topS 47
abbrev s_L_word : Stmt := topS 48
abbrev s_L_least_word : Stmt := topS 49
abbrev s_L_word_right : Stmt := topS 50
abbrev s_L_least_right : Stmt := topS 51
abbrev s_L_behind_right : Stmt := topS 52
abbrev s_L_right : Stmt := topS 53
abbrev s_law : Stmt := topS 54
abbrev FnP (K : PySem.W.Frag) (x : Str) (st : Stmt) (f : Addr) (fd : FuncData) : Prop := FunD K x x (defArgs st) (defBody st) (defScope st) [] [] f fd
end K14
end

section
set_option maxHeartbeats 4000000
/-! K14: words and their orders, plain lists of naturals counted from 0. No program in sight. -/
namespace K14

/-- the places k and k + 1 exchanged -/
def swp : List Nat → Nat → List Nat
  | x :: y :: r, 0 => y :: x :: r
  | x :: r, k + 1 => x :: swp r k
  | l, _ => l

def ordF (o : List Nat) (w : List Nat) : List Nat := w.foldl swp o
/-- the order of a word of m things -/
def ordW (m : Nat) (w : List Nat) : List Nat := ordF (List.range m) w
def at0 (o : List Nat) (i : Nat) : Nat := o.getD i 0
def srt2 (a b : Nat) : Nat × Nat := if b < a then (b, a) else (a, b)
def prsF (o : List Nat) : List Nat → List (Nat × Nat)
  | [] => []
  | k :: w => srt2 (at0 o k) (at0 o (k + 1)) :: prsF (swp o k) w
def inv : List Nat → List (Nat × Nat)
  | [] => []
  | x :: r => (r.filter fun y => decide (y < x)).map (fun y => (y, x)) ++ inv r
def Lets (m : Nat) (w : List Nat) : Prop := ∀ k ∈ w, k + 1 < m

theorem swp_length : ∀ (o : List Nat) (k : Nat), (swp o k).length = o.length
  | [], k => by cases k <;> rfl
  | [x], 0 => rfl
  | [x], k + 1 => by show (swp [] k).length + 1 = 1; rw [swp_length [] k]; rfl
  | x :: y :: r, 0 => rfl
  | x :: y :: r, k + 1 => by show (swp (y :: r) k).length + 1 = _; rw [swp_length (y :: r) k]; rfl
theorem swp_perm : ∀ (o : List Nat) (k : Nat), (swp o k).Perm o
  | [], k => by cases k <;> exact .refl _
  | [x], 0 => .refl _
  | [x], k + 1 => (swp_perm [] k).cons x
  | x :: y :: r, 0 => .swap x y r
  | x :: y :: r, k + 1 => (swp_perm (y :: r) k).cons x
theorem swp_cons (x : Nat) (l : List Nat) (k : Nat) : swp (x :: l) (k + 1) = x :: swp l k := by cases l <;> rfl
theorem swp_swp : ∀ (o : List Nat) (k : Nat), swp (swp o k) k = o
  | [], k => by cases k <;> rfl
  | [x], 0 => rfl
  | [x], k + 1 => by rw [swp_cons, swp_cons, swp_swp [] k]
  | x :: y :: r, 0 => rfl
  | x :: y :: r, k + 1 => by rw [swp_cons, swp_cons, swp_swp (y :: r) k]
theorem swp_map (f : Nat → Nat) : ∀ (o : List Nat) (k : Nat), swp (o.map f) k = (swp o k).map f
  | [], k => by cases k <;> rfl
  | [x], 0 => rfl
  | [x], k + 1 => by show f x :: swp (List.map f []) k = f x :: (swp [] k).map f; rw [swp_map f [] k]
  | x :: y :: r, 0 => rfl
  | x :: y :: r, k + 1 => by show f x :: swp (List.map f (y :: r)) k = f x :: (swp (y :: r) k).map f; rw [swp_map f (y :: r) k]
/-- as the program stores it -/
theorem swp_set : ∀ (o : List Nat) (k : Nat), k + 1 < o.length → swp o k = (o.set k (at0 o (k + 1))).set (k + 1) (at0 o k)
  | [], k, h => absurd h (by simp)
  | [x], k, h => absurd h (by simp)
  | x :: y :: r, 0, _ => rfl
  | x :: y :: r, k + 1, h => by
    have h' : k + 1 < (y :: r).length := by simpa using h
    show x :: swp (y :: r) k = x :: ((y :: r).set k (at0 (y :: r) (k + 1))).set (k + 1) (at0 (y :: r) k)
    rw [swp_set (y :: r) k h']

theorem ordF_nil (o : List Nat) : ordF o [] = o := rfl
theorem ordF_cons (o : List Nat) (k : Nat) (w : List Nat) : ordF o (k :: w) = ordF (swp o k) w := rfl
theorem ordF_app (o u v : List Nat) : ordF o (u ++ v) = ordF (ordF o u) v := List.foldl_append
theorem ordF_one (o w : List Nat) (k : Nat) : ordF o (w ++ [k]) = swp (ordF o w) k := by rw [ordF_app]; rfl
theorem ordF_perm : ∀ (w o : List Nat), (ordF o w).Perm o
  | [], _ => .refl _
  | k :: w, o => (ordF_perm w (swp o k)).trans (swp_perm o k)
theorem ordF_length (w o : List Nat) : (ordF o w).length = o.length := (ordF_perm w o).length_eq
theorem ordF_map (f : Nat → Nat) : ∀ (w o : List Nat), ordF (o.map f) w = (ordF o w).map f
  | [], _ => rfl
  | k :: w, o => by rw [ordF_cons, ordF_cons, swp_map, ordF_map f w]
theorem ordF_rev : ∀ (w o : List Nat), ordF o (w.reverse ++ w) = o
  | [], _ => rfl
  | k :: w, o => by
    rw [List.reverse_cons, List.append_assoc, ordF_app]
    show ordF (swp (swp (ordF o w.reverse) k) k) w = o
    rw [swp_swp, ← ordF_app]
    exact ordF_rev w o
theorem ordW_perm (m : Nat) (w : List Nat) : (ordW m w).Perm (List.range m) := ordF_perm w _
theorem ordW_length (m : Nat) (w : List Nat) : (ordW m w).length = m := by
  rw [(ordW_perm m w).length_eq, List.length_range]
/-- one order behind another one -/
def behind (a b : List Nat) : List Nat := b.map (at0 a)
theorem behind_range (a : List Nat) : behind a (List.range a.length) = a := by
  unfold behind
  apply List.ext_getElem
  · simp
  · intro i h1 h2
    rw [List.getElem_map, List.getElem_range]
    unfold at0
    rw [List.getD_eq_getElem?_getD, List.getElem?_eq_getElem h2]
    rfl
theorem ordF_behind (o w : List Nat) : ordF o w = behind o (ordW o.length w) := by
  unfold ordW
  show _ = (ordF (List.range o.length) w).map (at0 o)
  rw [← ordF_map]
  show _ = ordF (behind o (List.range o.length)) w
  rw [behind_range]
theorem ordW_app (m : Nat) (u v : List Nat) : ordW m (u ++ v) = behind (ordW m u) (ordW m v) := by
  have e := ordF_behind (ordW m u) v
  rw [ordW_length] at e
  rw [← e]
  exact ordF_app _ _ _
/-- an order undone -/
def undo (o : List Nat) : List Nat := (List.range o.length).map fun t => o.idxOf t
theorem ordW_rev (m : Nat) (w : List Nat) : ordW m w.reverse = undo (ordW m w) := by
  have e : behind (ordW m w.reverse) (ordW m w) = List.range m := by
    rw [← ordW_app]
    exact ordF_rev w _
  have hp := ordW_perm m w
  have hl := ordW_length m w
  apply List.ext_getElem
  · unfold undo
    rw [ordW_length, List.length_map, List.length_range, hl]
  · intro t h1 h2
    have hu : (undo (ordW m w))[t] = (ordW m w).idxOf t := by
      have : ∀ (l : List Nat) (_ : l = (List.range (ordW m w).length).map fun t => (ordW m w).idxOf t) (h : t < l.length), l[t] = (ordW m w).idxOf t := fun l el h => by
        subst el
        rw [List.getElem_map, List.getElem_range]
      exact this _ rfl h2
    rw [hu]
    have htm : t < m := by rw [ordW_length] at h1; exact h1
    have hm : t ∈ ordW m w := hp.mem_iff.mpr (List.mem_range.mpr htm)
    have hi := List.idxOf_lt_length_of_mem hm
    have hg : (ordW m w)[(ordW m w).idxOf t] = t := List.getElem_idxOf hi
    have hi' : (ordW m w).idxOf t < (behind (ordW m w.reverse) (ordW m w)).length := by
      unfold behind
      rw [List.length_map]
      exact hi
    have e2 : (behind (ordW m w.reverse) (ordW m w))[(ordW m w).idxOf t] = (ordW m w).idxOf t := by
      have : ∀ (l : List Nat) (_ : l = List.range m) (i : Nat) (h : i < l.length), l[i] = i := fun l el i h => by
        subst el
        exact List.getElem_range _
      exact this _ e _ hi'
    have e3 : (behind (ordW m w.reverse) (ordW m w))[(ordW m w).idxOf t] = at0 (ordW m w.reverse) t := by
      have : ∀ (l : List Nat) (_ : l = (ordW m w).map (at0 (ordW m w.reverse))) (i : Nat) (h : i < l.length) (h' : i < (ordW m w).length), l[i] = at0 (ordW m w.reverse) ((ordW m w)[i]) := fun l el i h h' => by
        subst el
        exact List.getElem_map _
      exact (this (behind (ordW m w.reverse) (ordW m w)) rfl _ hi' hi).trans (congrArg _ hg)
    rw [e3] at e2
    unfold at0 at e2
    rw [List.getD_eq_getElem?_getD, List.getElem?_eq_getElem h1] at e2
    exact e2

/-! ### wrong pairs by their things -/
theorem mem_inv : ∀ {o : List Nat} {p : Nat × Nat}, p ∈ inv o → p.1 ∈ o ∧ p.2 ∈ o ∧ p.1 < p.2
  | [], p, h => absurd h (by simp [inv])
  | x :: r, p, h => by
    rcases List.mem_append.mp h with h | h
    · obtain ⟨y, hy, rfl⟩ := List.mem_map.mp h
      obtain ⟨h1, h2⟩ := List.mem_filter.mp hy
      exact ⟨List.mem_cons_of_mem _ h1, List.mem_cons_self, of_decide_eq_true h2⟩
    · obtain ⟨a, b, c⟩ := mem_inv h
      exact ⟨List.mem_cons_of_mem _ a, List.mem_cons_of_mem _ b, c⟩
theorem inv_nodup : ∀ {o : List Nat}, o.Nodup → (inv o).Nodup
  | [], _ => by simp [inv]
  | x :: r, h => by
    obtain ⟨hx, hr⟩ := List.nodup_cons.mp h
    unfold inv
    rw [List.nodup_append]
    refine ⟨?_, inv_nodup hr, fun a ha b hb e => ?_⟩
    · refine List.Pairwise.map _ (fun a b hab e => hab (Prod.mk.inj e).1) (hr.filter _)
    · obtain ⟨y, hy, rfl⟩ := List.mem_map.mp ha
      subst e
      exact hx (mem_inv hb).2.1
theorem inv_range_from (n : Nat) : ∀ k, inv (List.range' k n) = [] := by
  induction n with
  | zero => intro k; rfl
  | succ n ih =>
    intro k
    rw [List.range'_succ]
    unfold inv
    rw [ih (k + 1), List.append_nil]
    have : (List.range' (k + 1) n).filter (fun y => decide (y < k)) = [] := by
      rw [List.filter_eq_nil_iff]
      intro a ha
      have := (List.mem_range'_1.mp ha).1
      simp
      omega
    rw [this]
    rfl
theorem inv_range (m : Nat) : inv (List.range m) = [] := by
  rw [List.range_eq_range']
  exact inv_range_from m 0
theorem at0_lt {o : List Nat} {k : Nat} (h : k < o.length) : at0 o k = o[k] := by
  unfold at0
  rw [List.getD_eq_getElem?_getD, List.getElem?_eq_getElem h]
  rfl
/-- an exchange of a pair that rises puts just this pair wrong -/
theorem inv_up : ∀ (o : List Nat) (k : Nat), k + 1 < o.length → at0 o k < at0 o (k + 1) → (inv (swp o k)).Perm ((at0 o k, at0 o (k + 1)) :: inv o)
  | [], k, h, _ => absurd h (by simp)
  | [x], k, h, _ => absurd h (by simp)
  | x :: y :: r, 0, _, h => by
    have hxy : x < y := h
    show ((((x :: r).filter fun z => decide (z < y)).map fun z => (z, y)) ++ (((r.filter fun z => decide (z < x)).map fun z => (z, x)) ++ inv r)).Perm
      ((x, y) :: ((((y :: r).filter fun z => decide (z < x)).map fun z => (z, x)) ++ (((r.filter fun z => decide (z < y)).map fun z => (z, y)) ++ inv r)))
    rw [List.filter_cons_of_pos (by simpa using hxy), List.filter_cons_of_neg (by simp; omega), List.map_cons, List.cons_append]
    refine List.Perm.cons _ ?_
    rw [← List.append_assoc, ← List.append_assoc]
    exact List.Perm.append_right _ List.perm_append_comm
  | x :: y :: r, k + 1, h, h2 => by
    have h' : k + 1 < (y :: r).length := by simpa using h
    have ih := inv_up (y :: r) k h' h2
    show ((((swp (y :: r) k).filter fun z => decide (z < x)).map fun z => (z, x)) ++ inv (swp (y :: r) k)).Perm ((at0 (y :: r) k, at0 (y :: r) (k + 1)) :: ((((y :: r).filter fun z => decide (z < x)).map fun z => (z, x)) ++ inv (y :: r)))
    refine (List.Perm.append (((swp_perm (y :: r) k).filter _).map _) ih).trans ?_
    exact List.perm_middle
theorem at0_swp : ∀ (o : List Nat) (k : Nat), k + 1 < o.length → at0 (swp o k) k = at0 o (k + 1) ∧ at0 (swp o k) (k + 1) = at0 o k
  | [], k, h => absurd h (by simp)
  | [x], k, h => absurd h (by simp)
  | x :: y :: r, 0, _ => ⟨rfl, rfl⟩
  | x :: y :: r, k + 1, h => at0_swp (y :: r) k (by simpa using h)
theorem inv_down (o : List Nat) (k : Nat) (h : k + 1 < o.length) (h2 : at0 o (k + 1) < at0 o k) : (inv o).Perm ((at0 o (k + 1), at0 o k) :: inv (swp o k)) := by
  obtain ⟨e1, e2⟩ := at0_swp o k h
  have := inv_up (swp o k) k (by rw [swp_length]; exact h) (by rw [e1, e2]; exact h2)
  rw [e1, e2, swp_swp] at this
  exact this
theorem at0_ne {o : List Nat} (hn : o.Nodup) {i j : Nat} (hi : i < o.length) (hj : j < o.length) (hij : i ≠ j) : at0 o i ≠ at0 o j := by
  rw [at0_lt hi, at0_lt hj]
  intro e
  exact hij ((List.getElem_inj hn).mp e)
theorem srt2_lt {a b : Nat} (h : a < b) : srt2 a b = (a, b) := if_neg (by omega)
theorem srt2_gt {a b : Nat} (h : b < a) : srt2 a b = (b, a) := if_pos h
/-- how often a pair is put wrong and right again -/
theorem inv_count (p : Nat × Nat) : ∀ (w o : List Nat), o.Nodup → Lets o.length w → ((inv (ordF o w)).count p + (inv o).count p + (prsF o w).count p) % 2 = 0
  | [], o, _, _ => by
    show ((inv o).count p + (inv o).count p + 0) % 2 = 0
    omega
  | k :: w, o, hn, hl => by
    have hk : k + 1 < o.length := hl k List.mem_cons_self
    have hl' : Lets (swp o k).length w := by
      rw [swp_length]
      exact fun j hj => hl j (List.mem_cons_of_mem _ hj)
    have ih := inv_count p w (swp o k) ((swp_perm o k).nodup_iff.mpr hn) hl'
    show ((inv (ordF (swp o k) w)).count p + (inv o).count p + (srt2 (at0 o k) (at0 o (k + 1)) :: prsF (swp o k) w).count p) % 2 = 0
    have hne := at0_ne hn (Nat.lt_of_succ_lt hk) hk (by omega : k ≠ k + 1)
    rw [List.count_cons]
    rcases Nat.lt_or_gt_of_ne hne with h | h
    · have e := (inv_up o k hk h).count_eq p
      rw [List.count_cons] at e
      rw [srt2_lt h]
      generalize (if ((at0 o k, at0 o (k + 1)) == p) = true then 1 else 0) = z at e ⊢
      omega
    · have e := (inv_down o k hk h).count_eq p
      rw [List.count_cons] at e
      rw [srt2_gt h]
      generalize (if ((at0 o (k + 1), at0 o k) == p) = true then 1 else 0) = z at e ⊢
      omega

def prs (m : Nat) (w : List Nat) : List (Nat × Nat) := prsF (List.range m) w
theorem prsF_length : ∀ (w o : List Nat), (prsF o w).length = w.length
  | [], _ => rfl
  | k :: w, o => by show (prsF (swp o k) w).length + 1 = _; rw [prsF_length w]; rfl
theorem prs_length (m : Nat) (w : List Nat) : (prs m w).length = w.length := prsF_length w _
theorem ordW_nodup (m : Nat) (w : List Nat) : (ordW m w).Nodup := (ordW_perm m w).nodup_iff.mpr List.nodup_range
theorem lets_range {m : Nat} {w : List Nat} (h : Lets m w) : Lets (List.range m).length w := by
  rw [List.length_range]
  exact h
theorem prs_count {m : Nat} {w : List Nat} (h : Lets m w) (p : Nat × Nat) : ((inv (ordW m w)).count p + (prs m w).count p) % 2 = 0 := by
  have := inv_count p w (List.range m) List.nodup_range (lets_range h)
  rw [inv_range] at this
  exact this
theorem perm_of_nodup_prs {m : Nat} {w : List Nat} (h : Lets m w) (hn : (prs m w).Nodup) : (inv (ordW m w)).Perm (prs m w) := by
  rw [List.perm_iff_count]
  intro p
  have h1 := List.nodup_iff_count.mp hn p
  have h2 := List.nodup_iff_count.mp (inv_nodup (ordW_nodup m w)) p
  have h3 := prs_count h p
  omega
theorem sub_perm {α : Type} [DecidableEq α] : ∀ (l₁ l₂ : List α), l₁.Nodup → (∀ x ∈ l₁, x ∈ l₂) → l₁.length ≤ l₂.length ∧ (l₂.length ≤ l₁.length → l₁.Perm l₂)
  | [], l₂, _, _ => ⟨Nat.zero_le _, fun h => by
    have : l₂ = [] := List.length_eq_zero_iff.mp (Nat.le_zero.mp h)
    rw [this]⟩
  | a :: t, l₂, hn, hs => by
    obtain ⟨ha, ht⟩ := List.nodup_cons.mp hn
    have hm : a ∈ l₂ := hs a List.mem_cons_self
    have hp : l₂.Perm (a :: l₂.erase a) := List.perm_cons_erase hm
    have hl : l₂.length = (l₂.erase a).length + 1 := hp.length_eq
    obtain ⟨h1, h2⟩ := sub_perm t (l₂.erase a) ht fun x hx => by
      have hxa : x ≠ a := fun e => ha (e ▸ hx)
      exact (List.mem_erase_of_ne hxa).mpr (hs x (List.mem_cons_of_mem _ hx))
    refine ⟨by rw [List.length_cons]; omega, fun h => ?_⟩
    rw [List.length_cons] at h
    exact ((h2 (by omega)).cons a).trans hp.symm
theorem inv_sub {m : Nat} {w : List Nat} (h : Lets m w) : ∀ p ∈ inv (ordW m w), p ∈ prs m w := fun p hp => by
  have h1 := List.one_le_count_iff.mpr hp
  have h2 := List.nodup_iff_count.mp (inv_nodup (ordW_nodup m w)) p
  have h3 := prs_count h p
  exact List.one_le_count_iff.mp (by omega)
theorem inv_le {m : Nat} {w : List Nat} (h : Lets m w) : (inv (ordW m w)).length ≤ w.length := by
  have := (sub_perm _ _ (inv_nodup (ordW_nodup m w)) (inv_sub h)).1
  rw [prs_length] at this
  exact this
theorem least_perm {m : Nat} {w : List Nat} (h : Lets m w) (e : w.length = (inv (ordW m w)).length) : (inv (ordW m w)).Perm (prs m w) :=
  (sub_perm _ _ (inv_nodup (ordW_nodup m w)) (inv_sub h)).2 (by rw [prs_length, e]; exact Nat.le_refl _)
theorem least_iff {m : Nat} {w : List Nat} (h : Lets m w) : w.length = (inv (ordW m w)).length ↔ (prs m w).Nodup := by
  constructor
  · intro e
    exact (least_perm h e).nodup_iff.mp (inv_nodup (ordW_nodup m w))
  · intro hn
    rw [(perm_of_nodup_prs h hn).length_eq, prs_length]

/-- a letter more -/
theorem level_up {o : List Nat} {k : Nat} (h : k + 1 < o.length) (h2 : at0 o k < at0 o (k + 1)) : (inv (swp o k)).length = (inv o).length + 1 := (inv_up o k h h2).length_eq
theorem level_down {o : List Nat} {k : Nat} (h : k + 1 < o.length) (h2 : at0 o (k + 1) < at0 o k) : (inv o).length = (inv (swp o k)).length + 1 := (inv_down o k h h2).length_eq

/-! ### falls -/
def fallAt (o : List Nat) (k : Nat) : Bool := decide (at0 o (k + 1) < at0 o k)
def fls (o : List Nat) : List Nat := (List.range (o.length - 1)).filter (fallAt o)
theorem mem_fls {o : List Nat} {k : Nat} : k ∈ fls o ↔ k + 1 < o.length ∧ at0 o (k + 1) < at0 o k := by
  unfold fls fallAt
  rw [List.mem_filter, List.mem_range, decide_eq_true_iff]
  constructor
  · rintro ⟨a, b⟩
    exact ⟨by omega, b⟩
  · rintro ⟨a, b⟩
    exact ⟨by omega, b⟩
theorem inv_of_fall {o : List Nat} {k : Nat} (h : k ∈ fls o) : inv o ≠ [] := fun e => by
  obtain ⟨h1, h2⟩ := mem_fls.mp h
  have := level_down h1 h2
  rw [e] at this
  simp at this
theorem rises_of_no_fall : ∀ (o : List Nat), fls o = [] → inv o = []
  | [], _ => rfl
  | [x], _ => rfl
  | x :: y :: r, h => by
    have h1 : ∀ k, k + 1 < (x :: y :: r).length → ¬ at0 (x :: y :: r) (k + 1) < at0 (x :: y :: r) k := fun k hk hf => by
      have : k ∈ fls (x :: y :: r) := mem_fls.mpr ⟨hk, hf⟩
      rw [h] at this
      exact absurd this (by simp)
    have h2 : fls (y :: r) = [] := by
      rw [List.eq_nil_iff_forall_not_mem]
      intro k hk
      obtain ⟨a, b⟩ := mem_fls.mp hk
      exact h1 (k + 1) (by simpa using a) b
    have ih := rises_of_no_fall (y :: r) h2
    have hxy : ¬ y < x := h1 0 (by simp)
    -- nothing of y :: r is below y, so nothing is below x
    have hall : ∀ z ∈ y :: r, ¬ z < x := by
      intro z hz hzx
      rcases List.mem_cons.mp hz with e | hz
      · subst e
        exact hxy hzx
      · have hzy : z < y := by omega
        have : (z, y) ∈ inv (y :: r) := List.mem_append_left _ (List.mem_map.mpr ⟨z, List.mem_filter.mpr ⟨hz, decide_eq_true hzy⟩, rfl⟩)
        rw [ih] at this
        exact absurd this (by simp)
    show (((y :: r).filter fun z => decide (z < x)).map fun z => (z, x)) ++ inv (y :: r) = []
    rw [ih, List.append_nil, List.map_eq_nil_iff, List.filter_eq_nil_iff]
    intro z hz
    have := hall z hz
    simpa using this
theorem fls_nil_iff (o : List Nat) : fls o = [] ↔ inv o = [] := by
  constructor
  · exact rises_of_no_fall o
  · intro h
    rw [List.eq_nil_iff_forall_not_mem]
    intro k hk
    exact inv_of_fall hk h
/-- an order without wrong pairs is sorted -/
theorem pairwise_of_inv : ∀ (o : List Nat), inv o = [] → o.Pairwise (· ≤ ·)
  | [], _ => .nil
  | x :: r, h => by
    have h' : ((r.filter fun z => decide (z < x)).map fun z => (z, x)) ++ inv r = [] := h
    obtain ⟨h1, h2⟩ := List.append_eq_nil_iff.mp h'
    refine List.Pairwise.cons (fun z hz => ?_) (pairwise_of_inv r h2)
    rw [List.map_eq_nil_iff, List.filter_eq_nil_iff] at h1
    have := h1 z hz
    simp at this
    exact this
theorem eq_of_sorted_perm {α : Type} {le : α → α → Prop} (anti : ∀ a b, le a b → le b a → a = b) : ∀ {l₁ l₂ : List α}, l₁.Perm l₂ → l₁.Pairwise le → l₂.Pairwise le → l₁ = l₂
  | [], l₂, hp, _, _ => (List.Perm.nil_eq hp)
  | a :: t, [], hp, _, _ => absurd hp.length_eq (by simp)
  | a :: t, b :: u, hp, h1, h2 => by
    have hab : a = b := by
      have ha : a ∈ b :: u := hp.mem_iff.mp List.mem_cons_self
      have hb : b ∈ a :: t := hp.mem_iff.mpr List.mem_cons_self
      rcases List.mem_cons.mp ha with e | ha
      · exact e
      · rcases List.mem_cons.mp hb with e | hb
        · exact e.symm
        · exact anti a b ((List.pairwise_cons.mp h1).1 b hb) ((List.pairwise_cons.mp h2).1 a ha)
    subst hab
    rw [eq_of_sorted_perm anti (List.Perm.cons_inv hp) (List.pairwise_cons.mp h1).2 (List.pairwise_cons.mp h2).2]
theorem range_pairwise (m : Nat) : (List.range m).Pairwise (· ≤ ·) := List.pairwise_lt_range.imp fun h => Nat.le_of_lt h
theorem sorted_of_inv {o : List Nat} {m : Nat} (hp : o.Perm (List.range m)) (h : inv o = []) : o = List.range m :=
  eq_of_sorted_perm (fun _ _ a b => Nat.le_antisymm a b) hp (pairwise_of_inv o h) (range_pairwise m)

/-! ### a least word, made from the order's end: o is what is left, f what was found (the last letter first) -/
structure Left (m : Nat) (o₀ o f : List Nat) : Prop where
  perm : o.Perm (List.range m)
  back : ordF o f = o₀
  lets : Lets m f
  lev : f.length + (inv o).length = (inv o₀).length
theorem Left.start {m : Nat} {o : List Nat} (h : o.Perm (List.range m)) : Left m o o [] := ⟨h, rfl, fun _ h => absurd h (by simp), by simp⟩
theorem Left.len {m : Nat} {o₀ o f : List Nat} (h : Left m o₀ o f) : o.length = m := by rw [h.perm.length_eq, List.length_range]
theorem Left.turn {m : Nat} {o₀ o f : List Nat} (h : Left m o₀ o f) {k : Nat} (hk : k ∈ fls o) : Left m o₀ (swp o k) (k :: f) := by
  obtain ⟨h1, h2⟩ := mem_fls.mp hk
  refine ⟨(swp_perm o k).trans h.perm, ?_, fun j hj => ?_, ?_⟩
  · rw [ordF_cons, swp_swp]
    exact h.back
  · rcases List.mem_cons.mp hj with e | hj
    · rw [e, ← h.len]
      exact h1
    · exact h.lets j hj
  · have := level_down h1 h2
    have := h.lev
    rw [List.length_cons]
    omega
theorem Left.fin {m : Nat} {o₀ o f : List Nat} (h : Left m o₀ o f) (hf : inv o = []) : ordW m f = o₀ ∧ Lets m f ∧ f.length = (inv o₀).length := by
  have e := sorted_of_inv h.perm hf
  have hb := h.back
  have hl := h.lev
  rw [e] at hb
  rw [hf] at hl
  exact ⟨hb, h.lets, by simpa using hl⟩

/-! ### the levels are small -/
theorem inv_bound : ∀ (o : List Nat), 2 * (inv o).length ≤ o.length * (o.length - 1)
  | [] => Nat.zero_le _
  | x :: r => by
    have ih := inv_bound r
    unfold inv
    rw [List.length_append, List.length_map, List.length_cons]
    have h1 : (r.filter fun y => decide (y < x)).length ≤ r.length := List.length_filter_le _ _
    have h2 : r.length * (r.length - 1) + 2 * r.length = (r.length + 1) * (r.length + 1 - 1) := by
      cases r.length with
      | zero => rfl
      | succ n =>
        rw [Nat.add_sub_cancel, Nat.add_sub_cancel, Nat.mul_comm (n + 1) n, ← Nat.add_mul]
    omega
theorem inv_bound9 {o : List Nat} (h : o.length ≤ 9) : (inv o).length ≤ 36 := by
  have := inv_bound o
  have h2 : o.length * (o.length - 1) ≤ 9 * 8 := Nat.mul_le_mul h (by omega)
  omega

/-! ### wrong pairs by their places -/
def rowW (o : List Nat) (i : Nat) : List (Nat × Nat) := ((List.range' (i + 1) (o.length - (i + 1))).filter fun j => decide (at0 o j < at0 o i)).map fun j => (i, j)
def wps (o : List Nat) : List (Nat × Nat) := (List.range o.length).flatMap (rowW o)
def thing (o : List Nat) (p : Nat × Nat) : Nat × Nat := (at0 o p.2, at0 o p.1)
theorem rowW_thing (o : List Nat) (i : Nat) (hi : i < o.length) : (rowW o i).map (thing o) = ((o.drop (i + 1)).filter fun y => decide (y < at0 o i)).map fun y => (y, at0 o i) := by
  have e : o.drop (i + 1) = (List.range' (i + 1) (o.length - (i + 1))).map (at0 o) := by
    apply List.ext_getElem
    · simp
    · intro j h1 h2
      rw [List.getElem_map, List.getElem_range', List.getElem_drop]
      have : i + 1 + 1 * j < o.length := by
        rw [List.length_drop] at h1
        omega
      rw [at0_lt this]
      simp [Nat.one_mul]
  unfold rowW
  rw [e, List.map_map, List.filter_map, List.map_map]
  rfl
theorem flat_range_succ {β : Type} (f : Nat → List β) (n : Nat) : (List.range (n + 1)).flatMap f = f 0 ++ (List.range n).flatMap fun i => f (i + 1) := by
  rw [List.range_succ_eq_map, List.flatMap_cons, List.flatMap_map]
theorem inv_flat : ∀ (o : List Nat), inv o = (List.range o.length).flatMap fun i => ((o.drop (i + 1)).filter fun y => decide (y < at0 o i)).map fun y => (y, at0 o i)
  | [] => rfl
  | x :: r => by
    rw [List.length_cons, flat_range_succ]
    show _ ++ inv r = _
    rw [inv_flat r]
    rfl
theorem wps_thing (o : List Nat) : (wps o).map (thing o) = inv o := by
  unfold wps
  rw [List.map_flatMap, inv_flat]
  rw [List.flatMap_def, List.flatMap_def]
  congr 1
  apply List.map_congr_left
  intro i hi
  exact rowW_thing o i (List.mem_range.mp hi)
theorem wps_length (o : List Nat) : (wps o).length = (inv o).length := by rw [← wps_thing, List.length_map]
theorem mem_wps {o : List Nat} {p : Nat × Nat} (h : p ∈ wps o) : p.1 < p.2 ∧ p.2 < o.length ∧ at0 o p.2 < at0 o p.1 := by
  obtain ⟨i, hi, hp⟩ := List.mem_flatMap.mp h
  obtain ⟨j, hj, rfl⟩ := List.mem_map.mp hp
  obtain ⟨h1, h2⟩ := List.mem_filter.mp hj
  have := List.mem_range'_1.mp h1
  have := List.mem_range.mp hi
  exact ⟨by show i < j; omega, by show j < _; omega, of_decide_eq_true h2⟩

/-! ### pairs met before -/
def dupAt {α : Type} [DecidableEq α] (l : List α) (i : Nat) : Bool := match l[i]? with
  | some x => decide (x ∈ l.take i)
  | none => false
theorem dupAt_some {α : Type} [DecidableEq α] {l : List α} {i : Nat} {x : α} (h : l[i]? = some x) : dupAt l i = decide (x ∈ l.take i) := by
  unfold dupAt
  rw [h]
theorem dupAt_iff {α : Type} [DecidableEq α] {l : List α} {i : Nat} {x : α} (h : l[i]? = some x) : dupAt l i = true ↔ x ∈ l.take i := by
  rw [dupAt_some h, decide_eq_true_iff]
def dups {α : Type} [DecidableEq α] (l : List α) : List Nat := (List.range l.length).filter (dupAt l)
theorem dups_nil {α : Type} [DecidableEq α] (l : List α) : dups l = [] ↔ l.Nodup := by
  unfold dups
  rw [List.filter_eq_nil_iff]
  constructor
  · intro h
    rw [List.nodup_iff_pairwise_ne, List.pairwise_iff_getElem]
    intro i j hi hj hij e
    have := h j (List.mem_range.mpr hj)
    rw [dupAt_some (List.getElem?_eq_getElem hj), decide_eq_true_iff] at this
    refine this ?_
    rw [← e]
    exact List.mem_take_iff_getElem.mpr ⟨i, by omega, rfl⟩
  · intro hn i hi
    have hil := List.mem_range.mp hi
    rw [dupAt_some (List.getElem?_eq_getElem hil), decide_eq_true_iff]
    intro hm
    obtain ⟨j, hj, e⟩ := List.mem_take_iff_getElem.mp hm
    have := (List.getElem_inj hn).mp e
    omega
end K14
end

section
set_option maxHeartbeats 4000000
namespace K14
open PySem PySem.Spec PyProof.Rows L2

/-! ### rules that the hand layer lacks -/
theorem same_new {H : Hp} {p : Addr} {o : HO} (h : H p = none) : Same H (upd H p o) := fun b x e => by
  rw [upd_ne (ne_of_none e h)]
  exact e

/-! #### ints from 0, shown from 1 -/
def z1 (l : List Nat) : List Int := l.map fun k : Nat => (k : Int) + 1
def v1 (k : Nat) : V := .int ((k : Int) + 1)
theorem v1_eq (l : List Nat) : (z1 l).map V.int = l.map v1 := by
  unfold z1
  rw [List.map_map]
  rfl
def v0 (k : Nat) : V := .int (k : Int)
theorem v0_eq (l : List Nat) : (l.map fun k : Nat => (k : Int)).map V.int = l.map v0 := by
  rw [List.map_map]
  rfl

section
variable {X : Cx}

/-! #### sorted of a tuple of ints -/
def rSortTup (K : PySem.W.Frag) : List V → Hp → VK → Prop := fun vs H Q => ∃ (a : Addr) (ns : List Int), vs = [V.ref a] ∧ SqT K H a (ns.map V.int) ∧
  ∀ (ns' : List Int) (p : Addr), ns'.Perm ns → ns'.Pairwise (· ≤ ·) → H p = none → Q (.ref p) (upd H p (.lst (ns'.map V.int)))
theorem cr_sortedTup : CallR X (.builtin "sorted") (rSortTup X.K) := by
  intro pins s σ H vs us Q I r h
  obtain ⟨a, ns, rfl, ha, q⟩ := h
  obtain ⟨its, rv, ⟨o, ho, hc, n, hd⟩, hz⟩ := I.tuple ha
  rw [Vals.ref1 r]
  have hi := rv.ints
  have hz' : its.length ≤ sizeLine := by
    rw [← rv.length]
    exact hz
  refine Calls.call_function_entry kind_sorted plain_sorted entry_sorted (args_sorted1 _) ?_
  unfold Builtin.«sorted»
  refine wpAny_bind (m := checkCount "sorted" 1 1 _) (wpAny_pure ?_)
  refine wpAny_bind (wpAny_collect_seq a (.inr rfl) ho hc hd (fun h' hk => ?_) (by rw [List.size_toArray]; exact hz'))
  have I2 : Inv X pins σ H { s with heap := h' } := I.kept (t' := s.toks) hk
  refine wpAny_bind (wpAny_newList ?_ hz')
  have hoL : (h'.push (seqObj "list" its.toArray 0)).get? h'.objs.size = some (seqObj "list" its.toArray 0) := Heap.get?_push_size _ rfl
  refine wpAny_bind (wpAny_holding (wpAny_call_entry slot_list_sort ⟨_, hoL, rfl⟩ entry_list_sort
    (SrtO.list_sort_ord SrtO.swo_int hoL hz' (fun h2 => SrtO.ints_sortable hi h2) fun out hs hb => ⟨_, rfl, ?_⟩) (args_list_sort _)))
  refine wpAny_pure ⟨_, rfl, ?_⟩
  obtain ⟨k1, k2, k3⟩ := SrtO.ints_out hi hs hb
  obtain ⟨ep, he'⟩ := PyProof.Rows.sortedHeap_at (vs := its) (out := out.toArray) hoL
  have hlen : ((out.map SrtO.iv).map V.int).length ≤ sizeLine := by
    rw [List.length_map, k2.length_eq]
    rw [List.length_map] at hz
    exact hz
  refine ⟨.ref h'.objs.size, upd H h'.objs.size (.lst ((out.map SrtO.iv).map V.int)), I2.laid (t' := s.toks) (fun b u e => ?_) (Nat.le_refl _) ⟨hlen, out, ep, vals_of_ints k1, he'⟩, rfl, q _ _ k2 k3 (I2.hok.fresh (Nat.le_refl _))⟩
  have hb : b < h'.objs.size := Heap.lt_size e
  rw [PyProof.Rows.sortedHeap_old (Nat.ne_of_lt hb) (by rw [size_push']; exact Nat.lt_succ_of_lt hb)]
  exact Heap.get?_push_of_some _ e

/-! #### sorted of a list of pairs, each a list of two ints -/
abbrev NP := Nat × Nat
def pI (p : NP) : List Int := [(p.1 : Int) + 1, (p.2 : Int) + 1]
def PLs (H : Hp) (xs : List V) (ps : List NP) : Prop := Paired (fun x p => ∃ t, x = V.ref t ∧ H t = some (.lst ((pI p).map V.int))) xs ps
def leP (p q : NP) : Bool := decide (pI p ≤ pI q)
theorem PLs.mono {H H' : Hp} (h : Same H H') : ∀ {xs : List V} {ps : List NP}, PLs H xs ps → PLs H' xs ps
  | _, _, .nil => .nil
  | _, _, .cons ⟨t, e, ht⟩ r => .cons ⟨t, e, h _ _ ht⟩ (PLs.mono h r)
theorem dp_ints {K : PySem.W.Frag} {H : Hp} : ∀ ns : List Int, DpAll K H (ns.map V.int) (ns.map PyData.int)
  | [] => .nil
  | n :: ns => .cons (.int n) (dp_ints ns)
theorem PLs.dp {K : PySem.W.Frag} {H : Hp} : ∀ {xs : List V} {ps : List NP}, PLs H xs ps → DpAll K H xs (ps.map fun p => .list ((pI p).map .int))
  | _, _, .nil => .nil
  | _, _, .cons ⟨t, e, ht⟩ r => by
    subst e
    exact .cons (.lst (.inl (.inl ht)) (dp_ints _)) (PLs.dp r)
theorem PLs.each {H : Hp} : ∀ {xs : List V} {ps : List NP} {its : List Value}, PLs H xs ps → Vals xs its → PySem.W.EachIs (fun v p => ∃ t, v = Value.ref t ∧ H t = some (.lst ((pI p).map V.int))) its ps
  | _, _, _, .nil, .nil => .nil
  | _, _, _, .cons ⟨t, e, ht⟩ r, .cons rv rr => by
    subst e
    cases rv
    exact .cons ⟨t, rfl, ht⟩ (PLs.each r rr)
theorem PLs.back {H : Hp} : ∀ {its : List Value} {ps : List NP}, PySem.W.EachIs (fun v p => ∃ t, v = Value.ref t ∧ H t = some (.lst ((pI p).map V.int))) its ps → PLs H (its.map backV) ps ∧ Vals (its.map backV) its
  | _, _, .nil => ⟨.nil, .nil⟩
  | _, _, .cons ⟨t, e, ht⟩ r => by
    subst e
    obtain ⟨h1, h2⟩ := PLs.back r
    exact ⟨.cons ⟨t, rfl, ht⟩ h1, .cons rfl h2⟩
def rSortPL : List V → Hp → VK → Prop := fun vs H Q => ∃ (a : Addr) (xs : List V) (ps : List NP), vs = [V.ref a] ∧ H a = some (.lst xs) ∧ PLs H xs ps ∧
  ∀ (ys : List V) (p : Addr), PLs H ys (ps.mergeSort leP) → H p = none → Q (.ref p) (upd H p (.lst ys))
theorem cr_sortedPL (hu : X.A.units + 64 < cLine) : CallR X (.builtin "sorted") rSortPL := by
  intro pins s σ H vs us Q I r h
  obtain ⟨a, xs, ps, rfl, ha, hp, q⟩ := h
  obtain ⟨its, rv, hl, hz⟩ := I.list (.inl (.inl ha))
  rw [Vals.ref1 r]
  have e := hp.each rv
  have hlen : ps.length ≤ sizeLine := by
    rw [← e.length, ← rv.length]
    exact hz
  have er : PySem.W.EachIs (fun v p => ∃ as, Reads s.heap v (PyData.list ((pI p).map .int)) as) its ps := e.mono fun v p ⟨t, e1, ht⟩ => by
    subst e1
    exact Dp.reads I _ (V.ref t) _ (.lst (.inl (.inl ht)) (dp_ints _)) rfl
  have hal : PySem.W.AllAlike (ps.map fun p : NP => PyData.list ((pI p).map .int)) := PySem.W.AllAlike.of fun b b' => by
    simp only [PySem.W.alike]
    exact PySem.W.alike_ints _ _
  have hd : ∀ b : NP, b ∈ ps → X.A.units + 2 + (PyData.list ((pI b).map .int)).depth < cLine := fun b _ => by
    simp only [PyData.depth, PySem.W.depth_ints]
    omega
  refine PySem.W.sorted_data (R := fun v p => ∃ t, v = Value.ref t ∧ H t = some (.lst ((pI p).map V.int))) (enc := fun p : NP => .list ((pI p).map .int)) hl.isList e
    er hal (PySem.W.Sortable.others fun b => ⟨nofun, nofun⟩) hlen hd fun out ho hE => ?_
  · obtain ⟨h1, h2⟩ := PLs.back hE
    rw [PySem.W.dataLe_rows] at h1
    obtain ⟨ep, he'⟩ := PyProof.Rows.sortedAll_at s.heap its out.toArray
    exact ⟨.ref _, upd H (s.heap.objs.size + 1) (.lst (out.map backV)), I.laid (t' := s.toks) (fun _ _ => PyProof.Rows.sortedAll_old) (Nat.le_succ _) ⟨by rw [List.length_map, ho]; exact hlen, out, ep, h2, he'⟩, rfl, q _ _ h1 (I.hok.fresh (Nat.le_succ _))⟩

/-! #### tuple.index of an int -/
theorem flat_ints (ys : List Int) : (ys.map V.int).all flatV = true := by
  rw [List.all_eq_true]
  intro x hx
  obtain ⟨y, _, rfl⟩ := List.mem_map.mp hx
  rfl
def rTupIx (K : PySem.W.Frag) : V → List V → Hp → VK → Prop := fun x xs H Q => ∃ p, ∃ ys : List Int, ∃ z j, x = .ref p ∧ xs = [.int z] ∧ SqT K H p (ys.map V.int) ∧ ys[j]? = some z ∧ (∀ m, m < j → ys[m]? ≠ some z) ∧ Q (.int (j : Nat)) H
theorem mt_tupIx : MtR X "tuple.index" (rTupIx X.K) := by
  intro pins s σ H x xs v us Q I rx rs h
  obtain ⟨p, ys, z, j, rfl, rfl, hq, hy, hno, q⟩ := h
  cases rx
  obtain ⟨u, rfl, t, rfl⟩ := vals1 rs
  obtain ⟨its, r, pl, hz⟩ := I.tuple hq
  obtain ⟨⟨cls, dd, dt, sl⟩, ho, hc, n, hd⟩ := pl
  simp only at hc hd
  subst hc hd
  have hl : its.toArray.size = ys.length := by
    rw [List.size_toArray, ← r.length, List.length_map]
  have hj : j < its.toArray.size := by
    rw [hl]
    exact (List.getElem?_eq_some_iff.mp hy).1
  have look : ∀ (m : Nat) (hm : m < its.toArray.size), ∃ y t', ys[m]? = some y ∧ its.toArray[m] = Value.int y t' := by
    intro m hm
    have hm' : m < ys.length := hl ▸ hm
    obtain ⟨c, hc, t', hc'⟩ := r.get (i := m) (x := .int ys[m]) (by simp [hm'])
    refine ⟨ys[m], t', List.getElem?_eq_getElem hm', ?_⟩
    have e := (List.getElem?_eq_some_iff.mp hc).2
    rw [← hc', ← e]
    simp
  refine call_meets PySem.F.slot_tuple_index ⟨_, ho, rfl⟩ PySem.F.entry_tuple_index (PySem.F.args_tuple_index_2 _ _) (TI.tuple_indexAt p its.toArray n dd sl (.int z t) (eqU (.int z)) j hj ?_ ?_)
    ⟨ho, fun c hc => mem_eqAt (x := .int z) ⟨t, rfl⟩ rfl r (flat_ints ys) c (by simpa using hc), ⟨.int (j : Nat), H, I.tok _, ⟨_, rfl⟩, q⟩⟩
  · obtain ⟨y, t', h1, h2⟩ := look j hj
    rw [hy] at h1
    cases h1
    rw [h2]
    show (z == z) = true
    exact beq_self_eq_true z
  · intro m hm hmj
    obtain ⟨y, t', h1, h2⟩ := look m hm
    rw [h2]
    show (y == z) = false
    exact beq_eq_false_iff_ne.mpr fun e => hno m hmj (e ▸ h1)

/-! #### tuples whose very object is known (it has no dict): made from a list, from a range; their methods -/
def Known (H : Hp) (p : Addr) (xs : List V) : Prop := ∃ ob : Obj, ob.dict = none ∧ H p = some (.frz ob (.tup xs))
theorem Known.sq {K : PySem.W.Frag} {H : Hp} {p : Addr} {xs : List V} (h : Known H p xs) : SqT K H p xs := let ⟨ob, _, e⟩ := h; .inl (.inr ⟨ob, e⟩)
theorem Known.mono {H H' : Hp} {p : Addr} {xs : List V} (s : Same H H') (h : Known H p xs) : Known H' p xs := let ⟨ob, d, e⟩ := h; ⟨ob, d, s _ _ e⟩
theorem Known.new {H : Hp} {p : Addr} {ob : Obj} {xs : List V} (d : ob.dict = none) : Known (upd H p (.frz ob (.tup xs))) p xs := ⟨ob, d, upd_same⟩
def rTupK (K : PySem.W.Frag) : List V → Hp → VK → Prop := fun xs H Q => ∃ p ys, xs = [.ref p] ∧ ((SqL K H p ys ∧ ∀ l ob, H l = none → ob.dict = none → Q (.ref l) (upd H l (.frz ob (.tup ys)))) ∨ (SqT K H p ys ∧ Q (.ref p) H))
theorem call_tupK : CallR X (.type "tuple") (rTupK X.K) := by
  intro pins s σ H xs us Q I r h
  obtain ⟨p, ys, rfl, h⟩ := h
  rw [Vals.ref1 r]
  rcases h with ⟨hq, q⟩ | ⟨hq, q⟩
  · obtain ⟨its, r', pl, hz⟩ := I.list hq
    have hlen := r'.length
    refine call_tuple_list pl.isList (fun h' kp => ?_) (by simp only [List.size_toArray] <;> omega)
    have I1 : Inv X pins σ H { s with heap := h' } := I.kept (t' := s.toks) kp
    refine ⟨.ref h'.objs.size, _, I1.laid (t' := s.toks) (a := h'.objs.size) (o := .frz { cls := .type "tuple", data := .seq its.toArray } (.tup ys)) (fun b o e => Heap.get?_push_of_some _ e) (Nat.le_refl _) ?_, rfl, q _ _ (I1.hok.fresh (Nat.le_refl _)) rfl⟩
    exact ⟨Heap.get?_push_size _ rfl, hz, its, r', IsTup.new _ _⟩
  · obtain ⟨its, r', pl, hz⟩ := I.tuple hq
    exact call_tuple_same pl ⟨.ref p, H, I, rfl, q⟩
def tTupRgK (te : L2.St → Hp → (Int → Int → Hp → Prop) → Prop) : TE := fun σ H Q => te σ H fun a b H1 => RgOk a b ∧ ∀ q ob, H1 q = none → ob.dict = none → Q (.ref q) (upd H1 q (.frz ob (.tup (rgV a b))))
theorem pe_tupRgK {e : Expr} {te : L2.St → Hp → (Int → Int → Hp → Prop) → Prop} {p pos : Pos} (hc : X.calm = true) (hg : Gl X "tuple") (hm : X.mg "tuple" = none) (he : PRg X e te) (na : starEach [e] X.env = (false, eval e X.env) :: starEach [] X.env := by rfl) : PE X (.Call (.Name "tuple" p) [e] [] pos) (tTupRgK te) := by
  refine ⟨fun pins s σ H Q I h => ?_⟩
  refine Call_ (ld_blt I hg hm boot_tuple (PyProof.Rows.callWith_type1 (args_cons (thn (he pins s σ H _ I h) fun x s1 ⟨r, a, b, t, u, v, H1, ex, hr, I1, ok, q⟩ => args_nil ?_) na) na))
  subst ex
  obtain ⟨b1, b2, b3, b4, b5⟩ := ok
  refine call_tuple_range (n := (b - a).toNat) (I1.ok.hd hc) hr (small_one b1 b2 b3 b4) (rangeSize_nat a b) b5 fun h' tk acc hk hi => ?_
  have I2 : Inv X pins σ H1 { s1 with heap := h', toks := tk } := I1.kept hk
  refine ⟨.ref h'.objs.size, _, I2.laid (t' := tk) (a := h'.objs.size) (o := .frz { cls := .type "tuple", data := .seq acc } (.tup (rgV a b))) (fun c o e => Heap.get?_push_of_some _ e) (Nat.le_refl _) ?_, rfl, q _ _ (I2.hok.fresh (Nat.le_refl _)) rfl⟩
  refine ⟨Heap.get?_push_size _ rfl, ?_, acc.toList, vals_rg hi, ?_⟩
  · rw [rgV_length, sizeLine_eq]
    omega
  · rw [Array.toArray_toList]
    exact IsTup.new _ _
def tBMT (r : V → List V → Hp → VK → Prop) (to : TE) (t : TA) : TE := fun σ H Q => to σ H fun x H1 => (∃ a xs, x = .ref a ∧ Known H1 a xs) ∧ t σ H1 fun xs H2 => r x xs H2 Q
theorem pe_bmT {o e : Expr} {es : List Expr} {to : TE} {t : TA} {name : Str} {apos cpos : Pos} {id : String} {r : V → List V → Hp → VK → Prop} (slot : Slot "tuple" name id) (hty : typeOf (.builtin id) = pure (.type "method_descriptor")) (hm : MtR X id r) (ho : PE X o to) (ha : PA X (e :: es) t)
    (hbase : attributeBase o name X.env (eval o X.env) = eval o X.env := by rfl)
    (hfew : ((backTo cpos (starEach (e :: es) X.env)).all (fun x => !x.1) && (backToKw cpos (keywordEach [] X.env)).all (fun x => x.1.isSome)
      && decide ((e :: es).length + ([] : List Keyword).length + (if ([] : List Keyword).isEmpty then 0 else 1) < 30)) = true := by rfl)
    (hline : (apos.endLine == cpos.line) = true := by rfl) (hs : starEach (e :: es) X.env = (false, eval e X.env) :: starEach es X.env := by rfl) (hplain : (backTo cpos (starEach es X.env)).any (·.1) = false := by rfl) :
    PE X (.Call (.Attribute o name apos) (e :: es) [] cpos) (tBMT r to t) := by
  refine ⟨fun pins s σ H Q I h => ?_⟩
  refine wpAny_Call_method_late hbase hfew hline rfl (thn (ho.run pins s σ H _ I h) fun v s1 ⟨x, H1, I1, r1, ⟨a, xs, ex, ob, hd, hx⟩, q1⟩ => ?_)
  subst ex
  cases (show v = Value.ref a from r1)
  obtain ⟨g1, hz, its, rv, o', g2, hc, _⟩ := (show ObjOk X.prog X.w H1 s1.heap a (.frz ob (.tup xs)) from I1.hok a _ hx)
  rw [g1] at g2
  cases g2
  refine ⟨"tuple", id, PySem.F.plainAttrs_tuple, slot, hty, ⟨ob, g1, hc⟩, fun b e => ?_, ?_⟩
  · cases e
    exact ⟨ob, g1, hd⟩
  have hA := ha.run cpos pins s1 σ H1 _ I1 q1
  rw [hs] at hA ⊢
  refine Calls.callWith_builtin ?_ (Calls.evalArgs_plain (thn hA fun us s2 ⟨vs, H2, I2, r2, q2⟩ => hm pins s2 σ H2 (.ref a) vs (.ref a) us Q I2 rfl r2 q2))
  show (false || (backTo cpos (starEach es X.env)).any (·.1)) = false
  rw [hplain]
  rfl

/-! #### f(k = v, ..): keywords alone -/
theorem pe_callN0 {CX : CXT} {k : Nat} {f : Addr} {fd : FuncData} {ps ks : List Str} {sp : Sp} {E : XK} {x : Str} {p pos : Pos} {kws : List Keyword} {tk : TA} {g : List Value → List Value → List Value} {gV : List V → List V → List V}
    (F : FnOk X.prog X.w X.K X.mg X.base CX k f fd ps sp) (hr : Room k X.A) (hg : Gl X x) (hm : X.mg x = some (.ref f)) (hk : PySem.W.keepIn X.K (.ref f) = true) (hb : KBn X.K fd ps 0 ks g gV) (hx : Passes CX X E)
    (hkw : PK X kws tk) (hall : (backToKw pos (keywordEach kws X.env)).all (·.1.isSome) = true := by rfl) (hks : (backToKw pos (keywordEach kws X.env)).filterMap (·.1) = ks := by rfl)
    (hdb : (x == ("__debug__" : Str)) = false := by decide)
    (hpl : ((backTo pos (starEach [] X.env)).any (·.1) || (backToKw pos (keywordEach kws X.env)).any (·.1.isNone)) = false := by rfl) :
    PE X (.Call (.Name x p) [] kws pos) (tCallN 0 ks.length sp gV E tNil tk) := by
  refine ⟨fun pins s σ H Q I h => ?_⟩
  refine wpAny_Call_Name_kw (ld_glob I hg hm ?_ hdb)
  refine PySem.W.callWith_KW0 (h₀ := X.base) I.ok.mod.kin hk hall ?_ hpl
  refine thn (hkw.run pos pins s σ H _ I h) fun ws s2 ⟨zs, H2, I2, rz, l1, l2, q2⟩ => ⟨I2.kIn, ?_⟩
  rw [hks]
  exact run_fnN (us := []) (vs := []) F hr hb hx I2 .nil rz rfl l2 q2
/-- how keywords alone bind, no defaults -/
theorem kbn0 {K : PySem.W.Frag} {x qual : Str} {params : Arguments} {body : List Stmt} {scope : Scope} {kws : List (Str × V)} {f : Addr} {fd : FuncData} {ps ks : List Str} (g : {α : Type} → List α → List α) (F : FunD K x qual params body scope [] kws f fd)
    (hrel : ∀ {zs : List V} {ws : List Value}, Vals zs ws → Vals (g zs) (g ws))
    (h : ∀ (kV doc pm : Value) (an : Option Addr) (cdv ct : Value) (ws : List Value), ws.length = ks.length → bindArgs (PySem.W.fnOf x qual params body scope .none kV doc pm an cdv ct) ⟨[], ks.zip ws⟩ = pure (ps.zip (g ws))) :
    KBn K fd ps 0 ks (fun _ ws => g ws) (fun _ zs => g zs) := by
  obtain ⟨oc, od, dV, kV, doc, pm, an, cdv, ct, osl, rfl, lk, hcd, hD, hK⟩ := F.ex
  rcases hD with ⟨_, rfl⟩ | ⟨e, _⟩
  · refine ⟨fun s us ws _ hu hw => ?_, fun _ r => hrel r⟩
    have e : us = [] := List.length_eq_zero_iff.mp hu
    subst e
    exact .of_eq (h kV doc pm an cdv ct ws hw)
  · exact absurd rfl e

/-! #### repr of a truth value, of data -/
def txB (b : Bool) : Str := if b then "True" else "False"
theorem call_reprB : CallR X (.builtin "repr") (fun xs H Q => ∃ b, xs = [.bl b] ∧ Q (.str (txB b)) H) := by
  intro pins s σ H xs us Q I r h
  obtain ⟨b, rfl, q⟩ := h
  obtain ⟨u, rfl, ru⟩ := vals1 r
  cases (show u = Value.bool b from ru)
  exact PySem.P.repr_of_bool ⟨.str _, H, I.tok _, ⟨_, rfl⟩, q⟩
theorem call_reprD (hg : X.A.guards = some []) (hu : X.A.units + 64 < cLine) : CallR X (.builtin "repr") (fun xs H Q => ∃ a d, xs = [.ref a] ∧ Dp X.K H (.ref a) d ∧ d.showable = true ∧ d.hasDict = false ∧ d.depth ≤ 8 ∧ d.shown.length ≤ sizeLine ∧ Q (.str d.shown) H) := by
  intro pins s σ H xs us Q I r h
  obtain ⟨a, d, rfl, hd, hs, hn, hdp, hz, q⟩ := h
  rw [Vals.ref1 r]
  obtain ⟨as, rd⟩ := Dp.reads I d (.ref a) (.ref a) hd rfl
  refine repr_of_reads' rd hs (fun z => ?_) hg (by omega) (fun _ _ e => e) (fun h' u tk hk => ?_) hz
  · rw [hn] at z
    cases z
  · exact ⟨.str d.shown, H, I.kept hk, ⟨_, rfl⟩, q⟩
end
end K14
end

section
set_option maxHeartbeats 4000000
namespace K14
open PySem PySem.Spec PyProof.Rows L2

/-! ### defs that lean on it that no repr is under way: a promise with the guards told -/
structure FnG (P : Program) (w : World) (K : PySem.W.Frag) (mg : Str → Option Value) (base : Heap) (k : Nat) (f : Addr) (fd : FuncData) (ps : List Str) (sp : Sp) : Prop where
  count : ∀ vs H Q E, sp vs H Q E → vs.length = ps.length
  runs : ∀ (A : Around) (outer : List Env) (s : Shared) (H : Hp) (args : Args) (us : List Value) (vs : List V) (Q : VK), A.guards = some [] → Room k A → Env0 P w K mg base A outer s H →
    BindsTo s fd args (ps.zip us) → Vals vs us → sp vs H Q E0 → codeAny (model P w) A (.call (.ref f) args) (CR CX0 outer P w H s Q E0) s
theorem FunD.okG {P : Program} {w : World} {K : PySem.W.Frag} {mg : Str → Option Value} {base : Heap} {x qual : Str} {params : Arguments} {body : List Stmt} {scope : Scope} {dvs : List V} {kws : List (Str × V)} {f : Addr} {fd : FuncData} {N ps : List Str} {k : Nat} {sp : Sp}
    (F : FunD K x qual params body scope dvs kws f fd) (S : FnScope N ps scope) (len : ∀ vs H Q E, sp vs H Q E → vs.length = ps.length)
    (hb : ∀ (cdv : Value) (A : Around) (outer : List Env) (s : Shared) (H : Hp) (vs : List V) (Q : VK), A.guards = some [] → Room k (A.deeper (envOfC qual scope s.heap.objs.size f cdv)) → sp vs H Q E0 →
      ∃ t, PSs (cxOf CX0 P w K mg base N qual scope f cdv A outer s H E0) body t ∧ t { nx := fun _ H' => Q .non H', rt := Q } (start N vs) H) : FnG P w K mg base (k + 1) f fd ps sp := by
  obtain ⟨oc, od, dV, kV, doc, pm, an, cdv, ct, osl, rfl, lk, hcd, _, _⟩ := F.ex
  refine ⟨len, fun A outer s H args us vs Q hgd hr e0 bnd r h => ?_⟩
  have up : ∀ b o, base.get? b = some o → s.heap.get? b = some o := fun b o e => (e0.bs b o e).1
  have KX : K.In s.heap := e0.mod.kin.keeps up
  have lim : s.heap.NoLimit := e0.mod.nolimit.keeps up
  have kinds : ∀ y ∈ ps.zip us, scope.names.lookup y.1 = some .local ∨ (scope.names.lookup y.1 = some .cell ∧ ((cellsFrom (s.heap.objs.size + 1) scope.names []).lookup y.1).isSome = true) := by
    rintro ⟨n, v⟩ hy
    rcases S.par n (List.of_mem_zip hy).1 with z | z
    · exact .inl z
    · exact .inr ⟨z, PySem.W.cellsFrom_some _ _ _ (.inl z)⟩
  refine codeAny_call_function hr.depth (KX _ _ lk) rfl S.co S.gen rfl (PySem.W.codeRec_of KX hcd) (bnd _ _ _ _ ?_)
  refine wpAny_newFunctionEnv_cells S.kind kinds fun env he s1 hin => ?_
  subst he
  refine ⟨lim.keeps hin.toInCall.keep, codeAny_func ?_⟩
  obtain ⟨t, ht, hq⟩ := hb cdv A outer s H vs Q hgd (hr.deeper _) h
  have I := inv_start (CX := CX0) (E := E0) S hr.hd e0 (len _ _ _ _ h) r hin
  refine wpAny_mono (ht.run [] s1 (start N vs) H _ I hq) (fun fl s' hs => ?_) fun e s' hs => hs
  cases fl with
  | next =>
    obtain ⟨σ', H', J, q⟩ := hs
    exact ⟨.non, H', J.os, J.bare, J.base, J.hok, rfl, q⟩
  | ret u =>
    obtain ⟨v, σ', H', J, rv, q⟩ := hs
    exact ⟨v, H', J.os, J.bare, J.base, J.hok, rv, q⟩
  | brk =>
    obtain ⟨_, _, _, q⟩ := hs
    exact q.elim
  | cont =>
    obtain ⟨_, _, _, q⟩ := hs
    exact q.elim
section
variable {X : Cx} {k : Nat} {f : Addr} {fd : FuncData} {ps : List Str} {sp : Sp} {x : Str} {p pos : Pos} {e : Expr} {es : List Expr} {t : TA}
theorem pe_callG (F : FnG X.prog X.w X.K X.mg X.base k f fd ps sp) (hgd : X.A.guards = some []) (hr : Room k X.A) (hg : Gl X x) (hm : X.mg x = some (.ref f)) (hk : PySem.W.keepIn X.K (.ref f) = true) (hb : Binds X.K fd ps [])
    (ha : PA X (e :: es) t) (hdb : (x == ("__debug__" : Str)) = false := by decide) (he : starEach (e :: es) X.env = (false, eval e X.env) :: starEach es X.env := by rfl) (hpl : (backTo pos (starEach es X.env)).any (·.1) = false := by rfl) :
    PE X (.Call (.Name x p) (e :: es) [] pos) (tCall sp [] E0 t) := by
  refine ⟨fun pins s σ H Q I h => ?_⟩
  refine wpAny_Call_Name_kw (ld_glob I hg hm ?_ hdb)
  refine PySem.W.callWith_K (h₀ := X.base) I.ok.mod.kin hk (thn (ha.run pos pins s σ H _ I h) fun us s1 ⟨vs, H1, I1, r, q⟩ => ⟨I1.kIn, ?_⟩) he hpl
  have q : sp (vs ++ []) H1 Q E0 := q
  rw [List.append_nil] at q
  have hl : us.length = ps.length := r.length.symm.trans (F.count _ _ _ _ q)
  have hb' := hb s1 us I1.kIn (by rw [List.append_nil]; exact hl)
  rw [List.append_nil] at hb'
  refine wpAny_call (codeAny_mono (F.runs X.A X.stack s1 H1 ⟨us, []⟩ us vs Q hgd hr I1.env0 hb' r q) fun z s' hq => ?_)
  cases z with
  | error e => exact False.elim hq
  | ok fl =>
    cases fl with
    | ret u => exact I1.after hq
    | _ => exact False.elim hq
end

/-- the law's call at the heap behind the top -/
theorem law_callG {P : Program} {w : World} {K : PySem.W.Frag} {mg mb : Str → Option Value} {k : Nat} {fa a : Addr} {fd : FuncData} {x : Str} {sp : Sp} {s₁ : Shared} {vs : List Value} {ns : List Int}
    (KX : K.In s₁.heap) (hns : s₁.heap.Ns mainGlobals mg) (hb : s₁.heap.Ns builtinsNs mb) (hbb : ∀ x : Str, x ≠ "__name__" → mb x = bootBuiltins x) (hlim : s₁.heap.NoLimit) (hg : s₁.gens = #[])
    (ha : s₁.heap.get? a = some { cls := .type "list", data := .seq vs.toArray }) (hi : IntsAre vs ns) (hl : ns.length ≤ sizeLine) (hr : Room k callerA)
    (F : ∀ base : Heap, K.In base → base.Ns mainGlobals mg → FnG P w K mg base k fa fd [x] sp) (hbind : ∀ (s : Shared) (u : Value), BindsTo s fd ⟨[u], []⟩ [(x, u)])
    (hsp : ∀ H : Hp, SqL K H a (ns.map V.int) → sp [.ref a] H (fun v _ => v = .bl true) E0) :
    codeAny (model P w) callerA (.call (.ref fa) ⟨[.ref a], []⟩) (fun r s' => r = .ok (.ret (.bool true)) ∧ OldK s₁.heap s'.heap ∧ s'.os = s₁.os ∧ AllBare s'.gens) s₁ := by
  have rv := vals_ints hi
  -- over any abstract heap that tracks nothing, or the script alone, known to its object
  have road : ∀ H : Hp, (∀ b u, H b = some u → b = a ∧ K.lookup a = none ∧ u = .frz { cls := .type "list", data := .seq vs.toArray } (.lst (ns.map V.int))) → SqL K H a (ns.map V.int) → HOk P w H s₁.heap →
      codeAny (model P w) callerA (.call (.ref fa) ⟨[.ref a], []⟩) (fun r s' => r = .ok (.ret (.bool true)) ∧ OldK s₁.heap s'.heap ∧ s'.os = s₁.os ∧ AllBare s'.gens) s₁ := by
    intro H hone hS hok
    have free : ∀ b o, s₁.heap.get? b = some o → o ≠ { cls := .type "list", data := .seq vs.toArray } → H b = none := by
      intro b o e ne
      cases z : H b with
      | none => rfl
      | some u =>
        obtain ⟨rfl, _, _⟩ := hone b u z
        rw [ha] at e
        exact absurd (Option.some.inj e).symm ne
    have ns_ : ∀ {b : Addr} {m : Str → Option Value}, s₁.heap.Ns b m → (hidT s₁.heap H).Ns b m := by
      rintro b m ⟨o, es, ep, e, d, r⟩
      refine ⟨o, es, ep, hidT_get e (free b o e fun z => ?_), d, r⟩
      rw [z] at d
      cases d
    have kin : K.In (hidT s₁.heap H) := by
      intro b o e
      refine hidT_get (KX b o e) ?_
      cases z : H b with
      | none => rfl
      | some u =>
        obtain ⟨rfl, hn, _⟩ := hone b u z
        rw [hn] at e
        cases e
    have lim' : (hidT s₁.heap H).NoLimit := by
      obtain ⟨mc, h1, h2⟩ := hlim
      exact ⟨mc, ns_ h1, h2⟩
    have md : Mod K mg (hidT s₁.heap H) := ⟨kin, ns_ hns, ⟨mb, ns_ hb, hbb⟩, lim'⟩
    have nofr : ∀ {b : Addr}, b ∈ frs [] → False := fun {b} z => absurd (show b ∈ ([] : List Addr) from z) (by simp)
    have e0 : Env0 P w K mg (hidT s₁.heap H) callerA [] s₁ H := ⟨rfl, md, fun b o e => of_hidT e, Nat.le_of_eq (hidT_size _ _), trivial, fun b z => (nofr z).elim, hok, .of_eq hg⟩
    refine codeAny_mono ((F _ kin (ns_ hns)).runs callerA [] s₁ H ⟨[.ref a], []⟩ [.ref a] [.ref a] _ rfl hr e0 (hbind s₁ (.ref a)) (.cons rfl .nil) (hsp H hS)) fun r s' h => ?_
    cases r with
    | error e => exact False.elim h
    | ok fl =>
      cases fl with
      | ret u =>
        obtain ⟨v, H', os, bare, un, hok', r', q⟩ := h
        have q' : v = .bl true := q
        subst q'
        obtain rfl : u = Value.bool true := r'
        refine ⟨rfl, OldK.of_keep fun b o e => ?_, os, bare⟩
        cases z : H b with
        | none => exact un.keep b o e z (fun m => nofr m) (by simp)
        | some u =>
          obtain ⟨_, _, rfl⟩ := hone b u z
          obtain ⟨e1, _⟩ := hok b _ z
          obtain ⟨e2, _⟩ := hok' b _ (un.frzs b _ _ z)
          exact e2.trans (e1.symm.trans e)
      | _ => exact False.elim h
  cases hk : K.lookup a with
  | some o =>
    have e := KX a o hk
    rw [ha] at e
    cases e
    refine road (fun _ => none) (fun b u z => nomatch (show (none : Option HO) = some u from z)) (.inr ⟨_, vs.toArray, _, hk, rfl, rfl, rfl, ?_, by simpa using rv⟩) fun b u z => nomatch (show (none : Option HO) = some u from z)
    rw [List.size_toArray, hi.length]
    exact hl
  | none =>
    have at_ : ∀ b u, (if b = a then some (HO.frz { cls := .type "list", data := .seq vs.toArray } (.lst (ns.map V.int))) else none) = some u → b = a ∧ u = .frz { cls := .type "list", data := .seq vs.toArray } (.lst (ns.map V.int)) := by
      intro b u z
      by_cases h : b = a
      · rw [if_pos h] at z
        exact ⟨h, (Option.some.inj z).symm⟩
      · rw [if_neg h] at z
        cases z
    refine road (fun b => if b = a then some (.frz { cls := .type "list", data := .seq vs.toArray } (.lst (ns.map V.int))) else none) (fun b u z => ⟨(at_ b u z).1, hk, (at_ b u z).2⟩) (.inl (.inr ⟨_, if_pos rfl⟩)) fun b u z => ?_
    obtain ⟨rfl, rfl⟩ := at_ b u z
    exact ⟨ha, by rw [List.length_map]; exact hl, vs, _, rv, ha⟩
/-- the end: what the head leaves to be shown -/
theorem walk_ofG {l : PySem.W.OpenLaw} {n k : Nat} {q : Program} {loose : List Str} {XP : (Str → Option Value) → Heap → Prop} {YP : World → Heap → Prop} {d : DefRec} {x : Str}
    (hn : l.most = some n) (hn2 : n ≤ sizeLine) (hdf : d.params.defaults = []) (hr : Room k callerA)
    (F : ∀ (w : World) (mg : Str → Option Value) (fa : Addr) (h : Heap), YP w h → h.Ns mainGlobals mg → mg d.name = some (.ref fa) →
      ∃ (K : PySem.W.Frag) (fd : FuncData) (sp : Sp), K.In h ∧ (∀ (s : Shared) (u : Value), BindsTo s fd ⟨[u], []⟩ [(x, u)]) ∧
        (∀ (H : Hp) (a : Addr) (ns : List Int), ns.length ≤ n → SqL K H a (ns.map V.int) → sp [.ref a] H (fun v _ => v = .bl true) E0) ∧
        ∀ base : Heap, K.In base → base.Ns mainGlobals mg → FnG l.prog w K mg base k fa fd [x] sp) :
    PySem.W.WalkO q loose XP YP l.row.toRowW d [] (fun f vs => PySem.call f vs) := by
  refine Att.attach_call hn hdf fun w s₀ s₁ mg mb fa o pm cd doc a vs ns G Y ho hd hcd hmg hobj hints hlen hg => ?_
  obtain ⟨K, fd, sp, KX, hb, hsp, hF⟩ := F w mg fa _ Y G.T.g hmg
  exact law_callG KX G.T.g G.T.b G.T.builtins G.T.nolimit hg hobj hints (Nat.le_trans hlen hn2) hr hF hb fun H hS => hsp H a ns hlen hS
end K14
end

section
set_option maxHeartbeats 4000000
namespace K14
open PySem PySem.Spec PyProof.Rows L2

/-! ### a def of the text: where it stands; that it keeps its promise -/
def Df (K : PySem.W.Frag) (mg : Str → Option Value) (x : Str) (st : Stmt) : Prop := ∃ f fd, FnP K x st f fd ∧ mg x = some (.ref f)
structure Tx (K : PySem.W.Frag) (mg : Str → Option Value) : Prop where
  d_is_integer : Df K mg "is_integer" s_is_integer
  d_is_count : Df K mg "is_count" s_is_count
  d_is_list : Df K mg "is_list" s_is_list
  d_is_order : Df K mg "is_order" s_is_order
  d_want_many : Df K mg "want_many" s_want_many
  d_want_order : Df K mg "want_order" s_want_order
  d_want_alike : Df K mg "want_alike" s_want_alike
  d_sorted_order : Df K mg "sorted_order" s_sorted_order
  d_pairs_of_places : Df K mg "pairs_of_places" s_pairs_of_places
  d_level_of : Df K mg "level_of" s_level_of
  d_undone_of : Df K mg "undone_of" s_undone_of
  d_behind_of : Df K mg "behind_of" s_behind_of
  d_exchanged_in : Df K mg "exchanged_in" s_exchanged_in
  d_falls_in : Df K mg "falls_in" s_falls_in
  d_wrong_pairs : Df K mg "wrong_pairs" s_wrong_pairs
  d_level : Df K mg "level" s_level
  d_undone : Df K mg "undone" s_undone
  d_one_behind : Df K mg "one_behind" s_one_behind
  d_is_letter : Df K mg "is_letter" s_is_letter
  d_is_word : Df K mg "is_word" s_is_word
  d_want_word : Df K mg "want_word" s_want_word
  d_order_by : Df K mg "order_by" s_order_by
  d_is_least_in : Df K mg "is_least_in" s_is_least_in
  d_word_of : Df K mg "word_of" s_word_of
  d_word_order : Df K mg "word_order" s_word_order
  d_is_least : Df K mg "is_least" s_is_least
  d_a_word : Df K mg "a_word" s_a_word
  d_L_pot : Df K mg "_law_pot" s_L_pot
  d_L_draw : Df K mg "_law_draw" s_L_draw
  d_L_pick : Df K mg "_law_pick" s_L_pick
  d_L_order : Df K mg "_law_order" s_L_order
  d_L_passed : Df K mg "_law_passed" s_L_passed
  d_L_wrong : Df K mg "_law_wrong" s_L_wrong
  d_L_exchanged : Df K mg "_law_exchanged" s_L_exchanged
  d_L_word_order : Df K mg "_law_word_order" s_L_word_order
  d_L_word : Df K mg "_law_word" s_L_word
  d_L_least_word : Df K mg "_law_least_word" s_L_least_word
  d_L_word_right : Df K mg "_law_word_right" s_L_word_right
  d_L_least_right : Df K mg "_law_least_right" s_L_least_right
  d_L_behind_right : Df K mg "_law_behind_right" s_L_behind_right
  d_L_right : Df K mg "_law_right" s_L_right
  i_things : ∃ t, mg "MOST_THINGS" = some (.int 9 t)
  i_letters : ∃ t, mg "MOST_LETTERS" = some (.int 40 t)
  b_isinstance : mg "isinstance" = none
  b_int : mg "int" = none
  b_bool : mg "bool" = none
  b_list : mg "list" = none
  b_tuple : mg "tuple" = none
  b_len : mg "len" = none
  b_all : mg "all" = none
  b_sorted : mg "sorted" = none
  b_range : mg "range" = none
  b_abs : mg "abs" = none
  b_max : mg "max" = none
  b_min : mg "min" = none
  b_divmod : mg "divmod" = none
  b_repr : mg "repr" = none
structure Go (P : Program) (w : World) (K : PySem.W.Frag) (mg : Str → Option Value) (base : Heap) (k : Nat) (x : Str) (ps : List Str) (sp : Sp) : Prop where
  ex : ∃ f fd, mg x = some (.ref f) ∧ PySem.W.keepIn K (.ref f) = true ∧ Binds K fd ps [] ∧ (∃ o, K.lookup f = some o ∧ o.data = .func fd) ∧ FnOk P w K mg base CX0 k f fd ps sp
structure GoG (P : Program) (w : World) (K : PySem.W.Frag) (mg : Str → Option Value) (base : Heap) (k : Nat) (x : Str) (ps : List Str) (sp : Sp) : Prop where
  ex : ∃ f fd, mg x = some (.ref f) ∧ PySem.W.keepIn K (.ref f) = true ∧ Binds K fd ps [] ∧ FnG P w K mg base k f fd ps sp
/-- the same called by keywords alone, named ks: gV puts their values in the parameters' order -/
structure GoK (P : Program) (w : World) (K : PySem.W.Frag) (mg : Str → Option Value) (base : Heap) (k : Nat) (x : Str) (ps ks : List Str) (gV : List V → List V) (sp : Sp) : Prop where
  ex : ∃ f fd g, mg x = some (.ref f) ∧ PySem.W.keepIn K (.ref f) = true ∧ KBn K fd ps 0 ks g (fun _ zs => gV zs) ∧ FnOk P w K mg base CX0 k f fd ps sp
section
variable {P : Program} {w : World} {K : PySem.W.Frag} {mg : Str → Option Value} {base : Heap}
theorem go_mk {x : Str} {st : Stmt} {N ps : List Str} {sp : Sp} (k : Nat) (D : Df K mg x st) (S : FnScope N ps (defScope st))
    (hb : ∀ (kV doc pm : Value) (an : Option Addr) (cdv ct : Value) (us : List Value), us.length = ps.length → bindArgs (PySem.W.fnOf x x (defArgs st) (defBody st) (defScope st) .none kV doc pm an cdv ct) ⟨us, []⟩ = pure (ps.zip us))
    (len : ∀ vs H Q E, sp vs H Q E → vs.length = ps.length)
    (body : ∀ (f : Addr) (cdv : Value) (A : Around) (outer : List Env) (s : Shared) (H : Hp) (vs : List V) (Q : VK) (E : XK), Room k (A.deeper (envOfC x (defScope st) s.heap.objs.size f cdv)) → sp vs H Q E →
      ∃ t, PSs (cxOf CX0 P w K mg base N x (defScope st) f cdv A outer s H E).nox (defBody st) t ∧ t { nx := fun _ H' => Q .non H', rt := Q } (start N vs) H) : Go P w K mg base (k + 1) x ps sp := by
  obtain ⟨f, fd, F, g⟩ := D
  have lk : ∃ o, K.lookup f = some o ∧ o.data = .func fd := by
    obtain ⟨oc, od', dV, kV, doc, pm, an, cdv, ct, osl, _, lk', _⟩ := F.ex
    exact ⟨_, lk', rfl⟩
  exact ⟨f, fd, g, F.kp, F.bindsN hb, lk, F.ok S len fun cdv A outer s H vs Q E hr h => let ⟨t, a, b⟩ := body f cdv A outer s H vs Q E hr h; ⟨t, a.nox, b⟩⟩
theorem goG_mk {x : Str} {st : Stmt} {N ps : List Str} {sp : Sp} (k : Nat) (D : Df K mg x st) (S : FnScope N ps (defScope st))
    (hb : ∀ (kV doc pm : Value) (an : Option Addr) (cdv ct : Value) (us : List Value), us.length = ps.length → bindArgs (PySem.W.fnOf x x (defArgs st) (defBody st) (defScope st) .none kV doc pm an cdv ct) ⟨us, []⟩ = pure (ps.zip us))
    (len : ∀ vs H Q E, sp vs H Q E → vs.length = ps.length)
    (body : ∀ (f : Addr) (cdv : Value) (A : Around) (outer : List Env) (s : Shared) (H : Hp) (vs : List V) (Q : VK), A.guards = some [] → Room k (A.deeper (envOfC x (defScope st) s.heap.objs.size f cdv)) → sp vs H Q E0 →
      ∃ t, PSs (cxOf CX0 P w K mg base N x (defScope st) f cdv A outer s H E0).nox (defBody st) t ∧ t { nx := fun _ H' => Q .non H', rt := Q } (start N vs) H) : GoG P w K mg base (k + 1) x ps sp := by
  obtain ⟨f, fd, F, g⟩ := D
  exact ⟨f, fd, g, F.kp, F.bindsN hb, FunD.okG F S len fun cdv A outer s H vs Q hgd hr h => let ⟨t, a, b⟩ := body f cdv A outer s H vs Q hgd hr h; ⟨t, a.nox, b⟩⟩
/-- the promise is kept, and the def may be called by keywords alone -/
theorem gok_mk {x : Str} {st : Stmt} {ps ks : List Str} {sp : Sp} {k : Nat} (g : {α : Type} → List α → List α) (D : Df K mg x st) (G : Go P w K mg base k x ps sp)
    (hrel : ∀ {zs : List V} {ws : List Value}, Vals zs ws → Vals (g zs) (g ws))
    (h : ∀ (kV doc pm : Value) (an : Option Addr) (cdv ct : Value) (ws : List Value), ws.length = ks.length → bindArgs (PySem.W.fnOf x x (defArgs st) (defBody st) (defScope st) .none kV doc pm an cdv ct) ⟨[], ks.zip ws⟩ = pure (ps.zip (g ws))) :
    GoK P w K mg base k x ps ks (fun zs => g zs) sp := by
  obtain ⟨f, fd, F, gl⟩ := D
  obtain ⟨f', fd', gl', kp, _, ⟨o, lk, od⟩, F'⟩ := G.ex
  have e : f' = f := Value.ref.inj (Option.some.inj (gl'.symm.trans gl))
  subst e
  have e2 : fd' = fd := by
    obtain ⟨oc, od', dV, kV, doc, pm, an, cdv, ct, osl, rfl, lk', _⟩ := F.ex
    rw [lk] at lk'
    cases lk'
    cases od
    rfl
  subst e2
  exact ⟨f', fd', _, gl, kp, kbn0 g F hrel h, F'⟩
end
section
variable {X : Cx} {k : Nat} {ps ks : List Str} {sp : Sp} {x : Str} {p pos : Pos} {e : Expr} {es : List Expr} {t : TA}
theorem pe_go (G : Go X.prog X.w X.K X.mg X.base k x ps sp) (hr : Room k X.A) (hg : Gl X x) (ha : PA X (e :: es) t) (hdb : (x == ("__debug__" : Str)) = false := by decide)
    (he : starEach (e :: es) X.env = (false, eval e X.env) :: starEach es X.env := by rfl) (hpl : (backTo pos (starEach es X.env)).any (·.1) = false := by rfl) : PE X (.Call (.Name x p) (e :: es) [] pos) (tCall sp [] E0 t) := by
  obtain ⟨f, fd, gl, kp, hb, _, F⟩ := G.ex
  exact pe_call F hr hg gl kp hb .nil pass0 ha hdb he hpl
theorem pe_goG (G : GoG X.prog X.w X.K X.mg X.base k x ps sp) (hgd : X.A.guards = some []) (hr : Room k X.A) (hg : Gl X x) (ha : PA X (e :: es) t) (hdb : (x == ("__debug__" : Str)) = false := by decide)
    (he : starEach (e :: es) X.env = (false, eval e X.env) :: starEach es X.env := by rfl) (hpl : (backTo pos (starEach es X.env)).any (·.1) = false := by rfl) : PE X (.Call (.Name x p) (e :: es) [] pos) (tCall sp [] E0 t) := by
  obtain ⟨f, fd, gl, kp, hb, F⟩ := G.ex
  exact pe_callG F hgd hr hg gl kp hb ha hdb he hpl
theorem pe_goK {gV : List V → List V} {kws : List Keyword} {tk : TA} (G : GoK X.prog X.w X.K X.mg X.base k x ps ks gV sp) (hr : Room k X.A) (hg : Gl X x) (hkw : PK X kws tk)
    (hall : (backToKw pos (keywordEach kws X.env)).all (·.1.isSome) = true := by rfl) (hks : (backToKw pos (keywordEach kws X.env)).filterMap (·.1) = ks := by rfl) (hdb : (x == ("__debug__" : Str)) = false := by decide)
    (hpl : ((backTo pos (starEach [] X.env)).any (·.1) || (backToKw pos (keywordEach kws X.env)).any (·.1.isNone)) = false := by rfl) : PE X (.Call (.Name x p) [] kws pos) (tCallN 0 ks.length sp (fun _ zs => gV zs) E0 tNil tk) := by
  obtain ⟨f, fd, g, gl, kp, hb, F⟩ := G.ex
  exact pe_callN0 F hr hg gl kp hb pass0 hkw hall hks hdb hpl
end
/-! ### rules that stand within a comprehension: the written part by its name -/
section
variable {X : Cx} (K : PySem.W.Frag)
theorem ix_tupK (h : X.K = K := by rfl) : IxR X (rIxT K) := h ▸ ix_tup
theorem ix_listK (h : X.K = K := by rfl) : IxR X (rIxL K) := h ▸ ix_list
theorem sl_listK (h : X.K = K := by rfl) : SlR X (rSlL K) := h ▸ sl_list
theorem op_inDK (hu : X.A.units + 65 < cLine) (h : X.K = K := by rfl) : OpR X (compareOp .In) (rInD K) := h ▸ op_inD hu
theorem cr_sortedK (h : X.K = K := by rfl) : CallR X (.builtin "sorted") (rSortedI K) := h ▸ cr_sortedI
theorem call_tupKK (h : X.K = K := by rfl) : CallR X (.type "tuple") (rTupK K) := h ▸ call_tupK
theorem mt_tupIxK (h : X.K = K := by rfl) : MtR X "tuple.index" (rTupIx K) := h ▸ mt_tupIx
theorem pe_bmK {e : Expr} {T : String} {r : V → List V → Hp → VK → Prop} {to : TE} {t : TA} (he : PE X e (tBM X.K T r to t)) (h : X.K = K := by rfl) : PE X e (tBM K T r to t) := h ▸ he
end
end K14
end

section
set_option maxHeartbeats 4000000
namespace K14
open PySem PySem.Spec PyProof.Rows L2
/-! ### what stands at an address: an order or a word, counted from 0, shown from 1 -/
def Tp (H : Hp) (p : Addr) (o : List Nat) : Prop := Known H p (o.map v1)
def Ls (H : Hp) (p : Addr) (o : List Nat) : Prop := H p = some (.lst (o.map v1))
def Sq (H : Hp) (p : Addr) (o : List Nat) : Prop := Ls H p o ∨ Tp H p o
theorem Sq.mono {H H' : Hp} {p : Addr} {o : List Nat} (s : Same H H') (h : Sq H p o) : Sq H' p o := h.elim (fun z => .inl (s _ _ z)) fun z => .inr (z.mono s)
theorem Ls.sq {K : PySem.W.Frag} {H : Hp} {p : Addr} {o : List Nat} (h : Ls H p o) : SqL K H p (o.map v1) := .inl (.inl h)
theorem Tp.sq {K : PySem.W.Frag} {H : Hp} {p : Addr} {o : List Nat} (h : Tp H p o) : SqT K H p (o.map v1) := Known.sq h
theorem Tp.mono {H H' : Hp} {p : Addr} {o : List Nat} (s : Same H H') (h : Tp H p o) : Tp H' p o := Known.mono s h
theorem Sq.len {K : PySem.W.Frag} {H : Hp} {p : Addr} {o : List Nat} (h : Sq H p o) : SqL K H p (o.map v1) ∨ SqT K H p (o.map v1) := h.elim (fun z => .inl (Ls.sq z)) fun z => .inr (Tp.sq z)
theorem small {n m : Nat} (h : n ≤ m) (hm : m ≤ 1000 := by decide) : n ≤ sizeLine := Nat.le_trans h (Nat.le_trans hm (by decide))
theorem small' {n m : Nat} (h : n ≤ m) (hm : m ≤ 1000 := by decide) : n < sizeLine := Nat.lt_of_le_of_lt (Nat.le_trans h hm) (by decide)
theorem len_v1 (o : List Nat) : (o.map v1).length = o.length := List.length_map v1
theorem at_v1 {o : List Nat} {i : Nat} (h : i < o.length) : (o.map v1)[i]? = some (v1 (at0 o i)) := by
  rw [List.getElem?_map, List.getElem?_eq_getElem h, at0_lt h]
  rfl
theorem at_v1' {o : List Nat} {i : Nat} {x : V} (h : (o.map v1)[i]? = some x) : i < o.length ∧ x = v1 (at0 o i) := by
  have hi : i < o.length := by
    have := (List.getElem?_eq_some_iff.mp h).1
    rwa [List.length_map] at this
  rw [at_v1 hi] at h
  exact ⟨hi, (Option.some.inj h).symm⟩
theorem rg_v1 (m : Nat) : rgV 1 ((m : Int) + 1) = (List.range m).map v1 := by
  unfold rgV
  rw [show ((m : Int) + 1 - 1).toNat = m by omega]
  refine List.map_congr_left fun i _ => ?_
  show V.int (1 + (i : Int)) = V.int ((i : Int) + 1)
  rw [Int.add_comm]
/-! ### a list or a tuple walked by a comprehension -/
def iSeq (K : PySem.W.Frag) (tl : TE) : TI := fun σ H R => iList K tl σ H R ∨ iTup K tl σ H R
theorem pi_seq {X : Cx} {tg l : Expr} {tl : TE} (hl : PE X l tl) : PI X tg l (iSeq X.K tl) :=
  ⟨fun pins s σ H R I h => h.elim (fun z => (pi_list hl).run pins s σ H R I z) fun z => (pi_tup hl).run pins s σ H R I z⟩
theorem lc_seq {K : PySem.W.Frag} {a : Addr} {o : List Nat} {i : Nat} {g : TG} {tt : TT} {te : TE} {vs : List Nat} {σ : L2.St} {H : Hp} {Q : VK} (hσ : σ[i]? = some (some (.ref a))) (hs : Sq H a o) (Pv : Addr → Nat → Hp → Prop)
    (h0 : ∀ D, H D = none → Pv D 0 (upd H D (.lst []))) (hl : ∀ D j H', Pv D j H' → Same H H')
    (step : ∀ D j H', H D = none → j < o.length → Pv D j H' → g (v1 (at0 o j)) (wipe σ vs) H' fun σ2 H2 => wipe σ2 vs = wipe σ vs ∧ tt σ2 H2 fun b H3 =>
      if b = true then te σ2 H3 fun y H4 => ∃ acc, H4 D = some (.lst acc) ∧ acc.length < sizeLine ∧ Pv D (j + 1) (upd H4 D (.lst (acc ++ [y]))) else Pv D (j + 1) H3)
    (hd : ∀ D H', H D = none → Pv D o.length H' → Q (.ref D) H') : tLc (iSeq K (tVar i)) g tt te vs σ H Q := by
  rcases hs with hs | hs
  · refine .inl ⟨_, hσ, a, rfl, ⟨_, Ls.sq hs⟩, fun D hD => lc_list (xs := o.map v1) (Pv D) (h0 D hD) (fun j H' _ p => Ls.sq (hl D j H' p _ _ hs)) (fun j x H' hx p => ?_) fun H' p => hd D H' hD ?_⟩
    · obtain ⟨hj, rfl⟩ := at_v1' hx
      exact step D j H' hD hj p
    · rw [len_v1] at p
      exact p
  · refine .inr ⟨_, hσ, a, rfl, ⟨_, Tp.sq hs⟩, fun D hD => lc_tup (xs := o.map v1) (Pv D) (h0 D hD) (fun j H' _ p => Tp.sq (Tp.mono (hl D j H' p) hs)) (fun j x H' hx p => ?_) fun H' p => hd D H' hD ?_⟩
    · obtain ⟨hj, rfl⟩ := at_v1' hx
      exact step D j H' hD hj p
    · rw [len_v1] at p
      exact p
theorem cr_sortedA {X : Cx} : CallR X (.builtin "sorted") (fun vs H Q => rSortedI X.K vs H Q ∨ rSortTup X.K vs H Q) := fun pins s σ H vs us Q I r h => h.elim (fun z => cr_sortedI pins s σ H vs us Q I r z) fun z => cr_sortedTup pins s σ H vs us Q I r z
theorem same_lst {H0 H : Hp} {D : Addr} {o : HO} (s : Same H0 H) (hD : H0 D = none) : Same H0 (upd H D o) := fun b x e => by
  rw [upd_ne (ne_of_none e hD)]
  exact s b x e
theorem yesT {σ : L2.St} {H : Hp} {A B : Hp → Prop} (h : A H) : tYes σ H (fun b H3 => if b = true then A H3 else B H3) := by
  show if true = true then A H else B H
  rw [if_pos rfl]
  exact h
theorem iteD {c A B : Prop} [Decidable c] (hc : c) (h : A) : if decide c = true then A else B := by
  rw [decide_eq_true hc]
  exact iteT h
theorem iteND {c A B : Prop} [Decidable c] (hc : ¬ c) (h : B) : if decide c = true then A else B := by
  rw [decide_eq_false hc]
  exact iteF h
/-! ### data -/
def dL (o : List Nat) : PyData := .list ((z1 o).map .int)
def dT (o : List Nat) : PyData := .tuple ((z1 o).map .int)
theorem dp_v1 {K : PySem.W.Frag} {H : Hp} (o : List Nat) : DpAll K H (o.map v1) ((z1 o).map .int) := by
  rw [← v1_eq]
  exact dp_ints _
theorem Ls.dp {K : PySem.W.Frag} {H : Hp} {p : Addr} {o : List Nat} (h : Ls H p o) : Dp K H (.ref p) (dL o) := .lst (Ls.sq h) (dp_v1 o)
theorem Tp.dp {K : PySem.W.Frag} {H : Hp} {p : Addr} {o : List Nat} (h : Tp H p o) : Dp K H (.ref p) (dT o) := .tup (Tp.sq h) (dp_v1 o)
theorem lay_ints : ∀ ns : List Int, PyData.canLayAll0 (ns.map .int) = true
  | [] => by simp [PyData.canLayAll0]
  | n :: ns => by simp [PyData.canLayAll0, PyData.canLay0, lay_ints ns]
theorem shaped_list (ns : List Int) : SeqAt.shaped (.list (ns.map .int)) = true := by
  show (PyData.canLay0 (.list (ns.map .int)) && decide (PyData.depth (.list (ns.map .int)) ≤ 64)) = true
  rw [Bool.and_eq_true]
  refine ⟨by simp only [PyData.canLay0]; exact lay_ints ns, decide_eq_true ?_⟩
  simp only [PyData.depth, PySem.W.depth_ints]
  omega
theorem shaped_tuple (ns : List Int) : SeqAt.shaped (.tuple (ns.map .int)) = true := by
  show (PyData.canLay0 (.tuple (ns.map .int)) && decide (PyData.depth (.tuple (ns.map .int)) ≤ 64)) = true
  rw [Bool.and_eq_true]
  refine ⟨by simp only [PyData.canLay0]; exact lay_ints ns, decide_eq_true ?_⟩
  simp only [PyData.depth, PySem.W.depth_ints]
  omega
theorem shL (o : List Nat) : SeqAt.shaped (dL o) = true := shaped_list _
theorem shT (o : List Nat) : SeqAt.shaped (dT o) = true := shaped_tuple _
theorem eqvL (o : List Nat) : PyData.eqv (dL o) (dL o) = true := PySem.SeqAt.eqv_refl _ (by show PyData.canLay0 (.list ((z1 o).map .int)) = true; simp only [PyData.canLay0]; exact lay_ints _)
theorem eqvT (o : List Nat) : PyData.eqv (dT o) (dT o) = true := PySem.SeqAt.eqv_refl _ (by show PyData.canLay0 (.tuple ((z1 o).map .int)) = true; simp only [PyData.canLay0]; exact lay_ints _)
theorem rep_all (n : Nat) : (List.replicate n true).all id = true := by simp
theorem rep_succ (n : Nat) : (List.replicate n true).map V.bl ++ [V.bl true] = (List.replicate (n + 1) true).map V.bl := by
  rw [List.replicate_succ', List.map_append]
  rfl
theorem rep_len (n : Nat) : ((List.replicate n true).map V.bl).length = n := by rw [List.length_map, List.length_replicate]
theorem kit_int_int {K : PySem.W.Frag} : PySem.W.kitOne K (.type "int") (.type "int") = some true := kit_ty (by decide +kernel)
theorem kit_int_bool {K : PySem.W.Frag} : PySem.W.kitOne K (.type "int") (.type "bool") = some false := kit_ty (by decide +kernel)
theorem kit_list_list {K : PySem.W.Frag} : PySem.W.kitOne K (.type "list") (.type "list") = some true := kit_ty (by decide +kernel)
theorem kit_tuple_list {K : PySem.W.Frag} : PySem.W.kitOne K (.type "tuple") (.type "list") = some false := kit_ty (by decide +kernel)
theorem kit_tuple_tuple {K : PySem.W.Frag} : PySem.W.kitOne K (.type "tuple") (.type "tuple") = some true := kit_ty (by decide +kernel)
theorem kit_lt_list {K : PySem.W.Frag} : PySem.W.kitAny K (.type "list") [.type "list", .type "tuple"] = some true := by
  unfold PySem.W.kitAny
  rw [kit_list_list]
theorem kit_lt_tuple {K : PySem.W.Frag} : PySem.W.kitAny K (.type "tuple") [.type "list", .type "tuple"] = some true := by
  unfold PySem.W.kitAny
  rw [kit_tuple_list]
  show PySem.W.kitAny K (.type "tuple") [.type "tuple"] = some true
  unfold PySem.W.kitAny
  rw [kit_tuple_tuple]
section
variable {P : Program} {w : World} {K : PySem.W.Frag} {mg : Str → Option Value} {base : Heap}
/- is_integer: 0 value -/
abbrev N_is_integer : List Str := ["value"]
theorem sc_is_integer : FnScope N_is_integer ["value"] (defScope s_is_integer) := ⟨rfl, rfl, rfl, by decide +kernel, rfl, by decide +kernel, by decide +kernel⟩
/- is_count: 0 value -/
abbrev N_is_count : List Str := ["value"]
theorem sc_is_count : FnScope N_is_count ["value"] (defScope s_is_count) := ⟨rfl, rfl, rfl, by decide +kernel, rfl, by decide +kernel, by decide +kernel⟩
/- is_list: 0 value -/
abbrev N_is_list : List Str := ["value"]
theorem sc_is_list : FnScope N_is_list ["value"] (defScope s_is_list) := ⟨rfl, rfl, rfl, by decide +kernel, rfl, by decide +kernel, by decide +kernel⟩
/- is_order: 0 value, 1 thing -/
abbrev N_is_order : List Str := ["value", "thing"]
theorem sc_is_order : FnScope N_is_order ["value"] (defScope s_is_order) := ⟨rfl, rfl, rfl, by decide +kernel, rfl, by decide +kernel, by decide +kernel⟩
/- want_many: 0 value, 1 low, 2 high -/
abbrev N_want_many : List Str := ["value", "low", "high"]
theorem sc_want_many : FnScope N_want_many ["value", "low", "high"] (defScope s_want_many) := ⟨rfl, rfl, rfl, by decide +kernel, rfl, by decide +kernel, by decide +kernel⟩
/- want_order: 0 value -/
abbrev N_want_order : List Str := ["value"]
theorem sc_want_order : FnScope N_want_order ["value"] (defScope s_want_order) := ⟨rfl, rfl, rfl, by decide +kernel, rfl, by decide +kernel, by decide +kernel⟩
/- want_alike: 0 order, 1 other -/
abbrev N_want_alike : List Str := ["order", "other"]
theorem sc_want_alike : FnScope N_want_alike ["order", "other"] (defScope s_want_alike) := ⟨rfl, rfl, rfl, by decide +kernel, rfl, by decide +kernel, by decide +kernel⟩
/- sorted_order: 0 many -/
abbrev N_sorted_order : List Str := ["many"]
theorem sc_sorted_order : FnScope N_sorted_order ["many"] (defScope s_sorted_order) := ⟨rfl, rfl, rfl, by decide +kernel, rfl, by decide +kernel, by decide +kernel⟩

/-! ### whole numbers, lists -/
def sp_is_integer : Sp := fun vs H Q _ => ∃ i, vs = [.int i] ∧ Q (.bl true) H
theorem go_is_integer (T : Tx K mg) : Go P w K mg base 1 "is_integer" ["value"] sp_is_integer := by
  refine go_mk 0 T.d_is_integer sc_is_integer (fun _ _ _ _ _ _ us hl => match us, hl with | [_], _ => rfl) (fun vs H Q E ⟨i, e, _⟩ => by rw [e]; rfl) fun f cdv A outer s H vs Q E hr h => ?_
  obtain ⟨i, rfl, q⟩ := h
  refine ⟨_, (pss_one (ps_ret (pe_and (pe_callB call_isi (by rfl) T.b_isinstance (by decide +kernel) (pa_cons (pv 0) (pa_cons (pe_bltn (v := .ty "int") (by rfl) T.b_int (by decide +kernel) rfl) pa_nil))) (pe_one (pe_not (pe_callB call_isi (by rfl) T.b_isinstance (by decide +kernel) (pa_cons (pv 0) (pa_cons (pe_bltn (v := .ty "bool") (by rfl) T.b_bool (by decide +kernel) rfl) pa_nil)))))))), ?_⟩
  refine ⟨_, rfl, _, _, _, _, _, rfl, .ty _, .base (.int i), kit_int_int, _, rfl, iteT ?_⟩
  exact ⟨_, rfl, _, _, _, _, _, rfl, .ty _, .base (.int i), kit_int_bool, _, rfl, q⟩
def sp_is_count : Sp := fun vs H Q _ => ∃ i, vs = [.int i] ∧ Q (.bl (decide (i ≥ 0))) H
theorem go_is_count (T : Tx K mg) : Go P w K mg base 2 "is_count" ["value"] sp_is_count := by
  refine go_mk 1 T.d_is_count sc_is_count (fun _ _ _ _ _ _ us hl => match us, hl with | [_], _ => rfl) (fun vs H Q E ⟨i, e, _⟩ => by rw [e]; rfl) fun f cdv A outer s H vs Q E hr h => ?_
  obtain ⟨i, rfl, q⟩ := h
  refine ⟨_, (pss_one (ps_ret (pe_and (pe_go (go_is_integer T) (hr.mono (by decide)) (by rfl) (pa_cons (pv 0) pa_nil)) (pe_one (pe_cmpR op_ge (pv 0) pe_int (nomark _)))))), ?_⟩
  exact ⟨_, rfl, i, rfl, _, rfl, iteT ⟨_, rfl, _, _, rfl, rfl, q⟩⟩
def sp_is_list : Sp := fun vs H Q _ => ∃ a o, vs = [.ref a] ∧ Sq H a o ∧ ∀ H', Same H H' → Q (.bl true) H'
theorem go_is_list (T : Tx K mg) : Go P w K mg base 1 "is_list" ["value"] sp_is_list := by
  refine go_mk 0 T.d_is_list sc_is_list (fun _ _ _ _ _ _ us hl => match us, hl with | [_], _ => rfl) (fun vs H Q E ⟨a, xs, e, _⟩ => by rw [e]; rfl) fun f cdv A outer s H vs Q E hr h => ?_
  obtain ⟨a, xs, rfl, ha, q⟩ := h
  refine ⟨_, (pss_one (ps_ret (pe_callB call_isiT (by rfl) T.b_isinstance (by decide +kernel) (pa_cons (pv 0) (pa_cons (pe_tup (pa_cons (pe_bltn (v := .ty "list") (by rfl) T.b_list (by decide +kernel) rfl) (pa_cons (pe_bltn (v := .ty "tuple") (by rfl) T.b_tuple (by decide +kernel) rfl) pa_nil))) pa_nil))))), ?_⟩
  refine ⟨_, rfl, by show 2 ≤ sizeLine; decide, fun p hp => ?_⟩
  rcases ha with ha | ha
  · exact ⟨_, p, _, _, _, _, rfl, upd_same, .cons (.ty _) (.cons (.ty _) .nil), .base (.lst (same_new hp _ _ ha)), kit_lt_list, q _ (same_new hp)⟩
  · exact ⟨_, p, _, _, _, _, rfl, upd_same, .cons (.ty _) (.cons (.ty _) .nil), .fTuple (same_new hp _ _ ha.choose_spec.2), kit_lt_tuple, q _ (same_new hp)⟩
/-! ### orders -/
def IsOrd (o : List Nat) : Prop := o.Perm (List.range o.length) ∧ 1 ≤ o.length ∧ o.length ≤ 9
theorem ord_sorted {o : List Nat} (h : IsOrd o) {ns : List Int} (hp : ns.Perm (z1 o)) (hs : ns.Pairwise (· ≤ ·)) : ns = z1 (List.range o.length) := by
  refine eq_of_sorted_perm (fun a b h1 h2 => Int.le_antisymm h1 h2) (hp.trans (h.1.map _)) hs ?_
  unfold z1
  refine List.pairwise_map.mpr ((range_pairwise _).imp fun {a b} h => ?_)
  omega
def sp_is_order : Sp := fun vs H Q _ => ∃ a o, vs = [.ref a] ∧ Sq H a o ∧ IsOrd o ∧ ∀ H', Same H H' → Q (.bl true) H'
theorem go_is_order (T : Tx K mg) : Go P w K mg base 3 "is_order" ["value"] sp_is_order := by
  refine go_mk 2 T.d_is_order sc_is_order (fun _ _ _ _ _ _ us hl => match us, hl with | [_], _ => rfl) (fun vs H Q E ⟨a, xs, e, _⟩ => by rw [e]; rfl) fun f cdv A outer s H vs Q E hr h => ?_
  obtain ⟨a, o, rfl, ha, ho, q⟩ := h
  obtain ⟨hop, ho1, ho9⟩ := id ho
  obtain ⟨t9, h9⟩ := T.i_things
  have hu := hr.units
  refine ⟨_, (pss_cons (ps_if (PW.pt (pw_or (pt_not (pt_val (pe_go (go_is_list T) (hr.mono (by decide)) (by rfl) (pa_cons (pv 0) pa_nil)))) (pw_or (pt_not (pt_chain op_le op_le pe_int (pe_callB call_len_seq (by rfl) T.b_len PySem.boot_len (pa_cons (pv 0) pa_nil)) (pe_glob (v := .int 9) (by rfl) h9 ⟨_, rfl⟩))) (pw_or1 (pt_not (pt_val (pe_callB (cr_all rfl) (by rfl) T.b_all (by decide +kernel) (pa_cons (pe_lc (own := [("thing", 1)]) (g := gName 1) (by rfl) sc_is_order.nd (pi_seq (pv 0)) (blkOk_by (own := [("thing", 1)]) (N := N_is_order) (sc := (defScope s_is_order)) (by decide +kernel)) (fun _ _ _ _ _ => pg_name (i := 1) sc_is_order.nd rfl (.inl rfl)) (fun _ _ _ _ _ => pts_nil) (fun _ _ _ _ _ => (pe_go (go_is_integer T) (hr.mono (by decide)) (by rfl) (pa_cons (pv 1) pa_nil)))) pa_nil))))))))
 (pss_one (ps_ret pe_bl)) pss_nil)
 (pss_one (ps_ret (pe_cmpR (op_eqD hu) (pe_callB cr_sortedA (by rfl) T.b_sorted (by decide +kernel) (pa_cons (pv 0) pa_nil)) (pe_listRg rfl (by rfl) T.b_list (prg_2 (by rfl) T.b_range pe_int (pe_op op_add (pe_callB call_len_seq (by rfl) T.b_len PySem.boot_len (pa_cons (pv 0) pa_nil)) pe_int))) (nomark _))))), ?_⟩
  -- is_list(value), its length
  refine ⟨_, rfl, a, _, rfl, ha, fun H1 s1 => ⟨true, rfl, iteF ?_⟩⟩
  refine ⟨_, rfl, a, _, rfl, (ha.mono s1).len, 1, _, rfl, rfl, _, rfl, iteD (by rw [len_v1]; omega) ⟨_, _, rfl, rfl, _, rfl, iteNS (by rw [len_v1]; omega) ?_⟩⟩
  -- all([is_integer(thing) for thing in value])
  dsimp only [tNot, tB, tCB, tCons, tNil]
  refine lc_seq rfl (ha.mono s1) (fun D j H' => Same H1 H' ∧ H' D = some (.lst ((List.replicate j true).map V.bl))) (fun D hD => ⟨same_new hD, upd_same⟩) (fun D j H' p => p.1) (fun D j H' hD hj p => ?_) (fun D H' hD p => ?_)
  · refine ⟨rfl, yesT ⟨_, rfl, _, rfl, _, p.2, ?_, same_lst p.1 hD, ?_⟩⟩
    · rw [rep_len]
      exact small' (m := 9) (by omega)
    · rw [upd_same, rep_succ]
  refine ⟨D, List.replicate o.length true, rfl, .inl (.inl p.2), _, rfl, ?_⟩
  rw [rep_all]
  refine iteF ?_
  -- sorted(value) == list(range(1, len(value) + 1))
  have ha2 : Sq H' a o := (ha.mono s1).mono p.1
  have s2 : Same H H' := s1.trans p.1
  have fin : ∀ (H2 : Hp) (p : Addr) (ns : List Int), Same H' H2 → ns.Perm (z1 o) → ns.Pairwise (· ≤ ·) → H2 p = some (.lst (ns.map V.int)) → ∀ q, H2 q = none → rEqD K (.ref p) (.ref q) (upd H2 q (.lst (rgV 1 ((o.length : Int) + 1)))) Q := by
    intro H2 p ns s3 hp hs h2 q' hq
    rw [ord_sorted ho hp hs] at h2
    refine ⟨dL (List.range o.length), dL (List.range o.length), .lst (.inl (.inl (same_new hq _ _ h2))) (dp_ints _), ?_, shL _, shL _, ?_⟩
    · refine Ls.dp ?_
      unfold Ls
      rw [upd_same, rg_v1]
    · rw [eqvL]
      exact q _ ((s2.trans s3).trans (same_new hq))
  refine ⟨_, rfl, ?_⟩
  rcases ha2 with h | h
  · refine .inl ⟨a, z1 o, rfl, ?_, fun ns' p hp hs hn => ?_⟩
    · rw [v1_eq]
      exact Ls.sq h
    · refine ⟨_, rfl, a, _, rfl, (Sq.mono (same_new hn) (.inl h)).len, _, _, rfl, rfl, _, _, rfl, rfl, ?_, fun q' hq => ?_⟩
      · rw [len_v1]
        exact RgOk.of_le (by omega) (by omega) (by omega) (by omega)
      · rw [len_v1]
        exact fin _ p ns' (same_new hn) hp hs upd_same q' hq
  · refine .inr ⟨a, z1 o, rfl, ?_, fun ns' p hp hs hn => ?_⟩
    · rw [v1_eq]
      exact Tp.sq h
    · refine ⟨_, rfl, a, _, rfl, (Sq.mono (same_new hn) (.inr h)).len, _, _, rfl, rfl, _, _, rfl, rfl, ?_, fun q' hq => ?_⟩
      · rw [len_v1]
        exact RgOk.of_le (by omega) (by omega) (by omega) (by omega)
      · rw [len_v1]
        exact fin _ p ns' (same_new hn) hp hs upd_same q' hq
def sp_want_many : Sp := fun vs H Q _ => ∃ i lo hi, vs = [.int i, .int lo, .int hi] ∧ i ≥ 0 ∧ lo ≤ i ∧ i ≤ hi ∧ Q .non H
theorem go_want_many (T : Tx K mg) : Go P w K mg base 3 "want_many" ["value", "low", "high"] sp_want_many := by
  refine go_mk 2 T.d_want_many sc_want_many (fun _ _ _ _ _ _ us hl => match us, hl with | [_, _, _], _ => rfl) (fun vs H Q E ⟨i, lo, hi, e, _⟩ => by rw [e]; rfl) fun f cdv A outer s H vs Q E hr h => ?_
  obtain ⟨i, lo, hi, rfl, h0, h1, h2, q⟩ := h
  refine ⟨_, (pss_one (ps_if (PW.pt (pw_or (pt_not (pt_val (pe_go (go_is_count T) (hr.mono (by decide)) (by rfl) (pa_cons (pv 0) pa_nil)))) (pw_or1 (pt_not (pt_chain op_le op_le (pv 1) (pv 0) (pv 2))))))
 (pss_one ps_never) pss_nil)), ?_⟩
  refine ⟨_, rfl, i, rfl, _, rfl, iteNS h0 ?_⟩
  exact ⟨_, rfl, _, rfl, _, _, rfl, rfl, _, rfl, iteD h1 ⟨_, rfl, _, _, rfl, rfl, _, rfl, iteNS h2 q⟩⟩
def sp_want_order : Sp := fun vs H Q _ => ∃ a o, vs = [.ref a] ∧ Sq H a o ∧ IsOrd o ∧ ∀ H' p, Same H H' → Tp H' p o → Q (.ref p) H'
theorem go_want_order (T : Tx K mg) : Go P w K mg base 4 "want_order" ["value"] sp_want_order := by
  refine go_mk 3 T.d_want_order sc_want_order (fun _ _ _ _ _ _ us hl => match us, hl with | [_], _ => rfl) (fun vs H Q E ⟨a, o, e, _⟩ => by rw [e]; rfl) fun f cdv A outer s H vs Q E hr h => ?_
  obtain ⟨a, o, rfl, ha, ho, q⟩ := h
  refine ⟨_, (pss_cons (ps_if (pt_not (pt_val (pe_go (go_is_order T) (hr.mono (by decide)) (by rfl) (pa_cons (pv 0) pa_nil))))
 (pss_one ps_never) pss_nil)
 (pss_one (ps_ret (pe_callTy call_tupK (by rfl) T.b_tuple (by decide +kernel) (pa_cons (pv 0) pa_nil))))), ?_⟩
  refine ⟨_, rfl, a, o, rfl, ha, ho, fun H1 s1 => ⟨true, rfl, iteF ?_⟩⟩
  refine ⟨_, rfl, a, o.map v1, rfl, ?_⟩
  rcases ha.mono s1 with h | h
  · exact .inl ⟨Ls.sq h, fun l ob hl hd => q _ l (s1.trans (same_new hl)) (Known.new hd)⟩
  · exact .inr ⟨Tp.sq h, q _ a s1 h⟩
def sp_want_alike : Sp := fun vs H Q _ => ∃ a b o u, vs = [.ref a, .ref b] ∧ Tp H a o ∧ Tp H b u ∧ o.length = u.length ∧ Q .non H
theorem go_want_alike (T : Tx K mg) : Go P w K mg base 1 "want_alike" ["order", "other"] sp_want_alike := by
  refine go_mk 0 T.d_want_alike sc_want_alike (fun _ _ _ _ _ _ us hl => match us, hl with | [_, _], _ => rfl) (fun vs H Q E ⟨a, b, o, u, e, _⟩ => by rw [e]; rfl) fun f cdv A outer s H vs Q E hr h => ?_
  obtain ⟨a, b, o, u, rfl, ha, hb, hl, q⟩ := h
  refine ⟨_, (pss_one (ps_if (pt_cmpR op_ne (pe_callB call_len_seq (by rfl) T.b_len PySem.boot_len (pa_cons (pv 0) pa_nil)) (pe_callB call_len_seq (by rfl) T.b_len PySem.boot_len (pa_cons (pv 1) pa_nil)) (nomark _))
 (pss_one ps_never) pss_nil)), ?_⟩
  refine ⟨_, rfl, a, _, rfl, .inr (Tp.sq ha), _, rfl, b, _, rfl, .inr (Tp.sq hb), rfl, _, rfl, ?_⟩
  exact iteNS (by rw [len_v1, len_v1, hl]) q
def sp_sorted_order : Sp := fun vs H Q _ => ∃ m : Nat, vs = [.int m] ∧ m ≤ 9 ∧ ∀ H' p, Same H H' → H p = none → Tp H' p (List.range m) → Q (.ref p) H'
theorem go_sorted_order (T : Tx K mg) : Go P w K mg base 1 "sorted_order" ["many"] sp_sorted_order := by
  refine go_mk 0 T.d_sorted_order sc_sorted_order (fun _ _ _ _ _ _ us hl => match us, hl with | [_], _ => rfl) (fun vs H Q E ⟨m, e, _⟩ => by rw [e]; rfl) fun f cdv A outer s H vs Q E hr h => ?_
  obtain ⟨m, rfl, hm, q⟩ := h
  refine ⟨_, (pss_one (ps_ret (pe_tupRgK rfl (by rfl) T.b_tuple (prg_2 (by rfl) T.b_range pe_int (pe_op op_add (pv 0) pe_int))))), ?_⟩
  refine ⟨_, rfl, _, _, rfl, rfl, _, _, rfl, rfl, RgOk.of_le (by omega) (by omega) (by omega) (by omega), fun p ob hp hd => q _ p (same_new hp) hp ?_⟩
  unfold Tp
  rw [rg_v1]
  exact Known.new hd
end
end K14
end

section
set_option maxHeartbeats 4000000
namespace K14
open PySem PySem.Spec PyProof.Rows L2
/-! ### what is walked, turn by turn -/
theorem it_range {lo : Int} {n : Nat} {H0 : Hp} {B : V → Hp → (Hp → Prop) → Prop} {Qd : Hp → Prop} (Pv : Nat → Hp → Prop) (h0 : Pv 0 H0) (hs : ∀ i H, i < n → Pv i H → B (.int (lo + i)) H (Pv (i + 1))) (hd : ∀ H, Pv n H → Qd H) :
    ∃ W : Nat → Nat → Hp → Prop, (∃ m, W 0 m H0) ∧ ∀ i m H, W i m H → ((Itr lo n).stop i H ∧ Qd H) ∨ ((Itr lo n).go i H ∧ ∃ Nx : Hp → Prop, (∀ H', Nx H' → ∃ m', m' < m ∧ W (i + 1) m' H') ∧ ∀ x H', (Itr lo n).yld i H x H' → B x H' Nx) := by
  refine ⟨fun i m H => i + m = n ∧ Pv i H, ⟨n, by omega, h0⟩, fun i m H ⟨e, p⟩ => ?_⟩
  by_cases hi : i < n
  · refine .inr ⟨hi, Pv (i + 1), fun H' p' => ⟨m - 1, by omega, by omega, p'⟩, fun x H' hy => ?_⟩
    obtain ⟨rfl, rfl⟩ := hy
    exact hs i _ hi p
  · have e2 : i = n := by omega
    subst e2
    exact .inl ⟨Nat.le_refl _, hd H p⟩
theorem it_tup {K : PySem.W.Frag} {a : Addr} {xs : List V} {H0 : Hp} {B : V → Hp → (Hp → Prop) → Prop} {Qd : Hp → Prop} (Pv : Nat → Hp → Prop) (h0 : Pv 0 H0) (hl : ∀ i H, Pv i H → SqT K H a xs) (hs : ∀ i x H, xs[i]? = some x → Pv i H → B x H (Pv (i + 1))) (hd : ∀ H, Pv xs.length H → Qd H) :
    ∃ W : Nat → Nat → Hp → Prop, (∃ m, W 0 m H0) ∧ ∀ i m H, W i m H → ((Itt K a).stop i H ∧ Qd H) ∨ ((Itt K a).go i H ∧ ∃ Nx : Hp → Prop, (∀ H', Nx H' → ∃ m', m' < m ∧ W (i + 1) m' H') ∧ ∀ x H', (Itt K a).yld i H x H' → B x H' Nx) := by
  refine ⟨fun i m H => i + m = xs.length ∧ Pv i H, ⟨xs.length, by omega, h0⟩, fun i m H ⟨e, p⟩ => ?_⟩
  by_cases hi : i < xs.length
  · refine .inr ⟨⟨xs, xs[i], hl i H p, List.getElem?_eq_getElem hi⟩, Pv (i + 1), fun H' p' => ⟨m - 1, by omega, by omega, p'⟩, fun x H' hy => ?_⟩
    obtain ⟨rfl, hx⟩ := hy
    exact hs i x _ (hx xs (hl i _ p)) p
  · have e2 : i = xs.length := by omega
    subst e2
    exact .inl ⟨⟨xs, hl _ _ p, Nat.le_refl _⟩, hd H p⟩
theorem it_list {K : PySem.W.Frag} {a : Addr} {xs : List V} {H0 : Hp} {B : V → Hp → (Hp → Prop) → Prop} {Qd : Hp → Prop} (Pv : Nat → Hp → Prop) (h0 : Pv 0 H0) (hl : ∀ i H, Pv i H → SqL K H a xs) (hs : ∀ i x H, xs[i]? = some x → Pv i H → B x H (Pv (i + 1))) (hd : ∀ H, Pv xs.length H → Qd H) :
    ∃ W : Nat → Nat → Hp → Prop, (∃ m, W 0 m H0) ∧ ∀ i m H, W i m H → ((Itl K a).stop i H ∧ Qd H) ∨ ((Itl K a).go i H ∧ ∃ Nx : Hp → Prop, (∀ H', Nx H' → ∃ m', m' < m ∧ W (i + 1) m' H') ∧ ∀ x H', (Itl K a).yld i H x H' → B x H' Nx) := by
  refine ⟨fun i m H => i + m = xs.length ∧ Pv i H, ⟨xs.length, by omega, h0⟩, fun i m H ⟨e, p⟩ => ?_⟩
  by_cases hi : i < xs.length
  · refine .inr ⟨⟨xs, xs[i], hl i H p, List.getElem?_eq_getElem hi⟩, Pv (i + 1), fun H' p' => ⟨m - 1, by omega, by omega, p'⟩, fun x H' hy => ?_⟩
    obtain ⟨rfl, hx⟩ := hy
    exact hs i x _ (hx xs (hl i _ p)) p
  · have e2 : i = xs.length := by omega
    subst e2
    exact .inl ⟨⟨xs, hl _ _ p, Nat.le_refl _⟩, hd H p⟩
theorem at_I {o : List Nat} {i : Int} {k : Nat} (h : k < o.length) (e : i = (k : Int)) : atI (o.map v1) i = some (v1 (at0 o k)) := by
  rw [e]
  exact atI_nat (at_v1 h)
/-! ### pairs of places: tuples in a list -/
def WPs (H : Hp) (xs : List V) (ps : List NP) : Prop := Paired (fun x p => ∃ t, x = V.ref t ∧ H t = some (.tup [v0 p.1, v0 p.2])) xs ps
theorem WPs.mono {H H' : Hp} (h : ∀ b ys, H b = some (.tup ys) → H' b = some (.tup ys)) : ∀ {xs : List V} {ps : List NP}, WPs H xs ps → WPs H' xs ps
  | _, _, .nil => .nil
  | _, _, .cons ⟨t, e, ht⟩ r => .cons ⟨t, e, h _ _ ht⟩ (WPs.mono h r)
theorem WPs.snoc {H : Hp} {x : V} {p : NP} (h : ∃ t, x = V.ref t ∧ H t = some (.tup [v0 p.1, v0 p.2])) : ∀ {xs : List V} {ps : List NP}, WPs H xs ps → WPs H (xs ++ [x]) (ps ++ [p])
  | _, _, .nil => .cons h .nil
  | _, _, .cons a r => .cons a (WPs.snoc h r)
theorem tup_upd {H : Hp} {D : Addr} {o : HO} (hD : ∀ ys, H D ≠ some (.tup ys)) : ∀ b ys, H b = some (.tup ys) → upd H D o b = some (.tup ys) := fun b ys e => by
  by_cases h : b = D
  · subst h
    exact absurd e (hD ys)
  · rw [upd_ne h]
    exact e
theorem lst_not_tup {H : Hp} {D : Addr} {xs : List V} (h : H D = some (.lst xs)) : ∀ ys, H D ≠ some (.tup ys) := fun ys e => by
  rw [h] at e
  cases e
theorem none_not_tup {H : Hp} {D : Addr} (h : H D = none) : ∀ ys, H D ≠ some (.tup ys) := fun ys e => by
  rw [h] at e
  cases e
theorem rowW_take (o : List Nat) (i j : Nat) : ((List.range' (i + 1) (j + 1)).filter fun t => decide (at0 o t < at0 o i)).map (fun t => (i, t)) =
    ((List.range' (i + 1) j).filter fun t => decide (at0 o t < at0 o i)).map (fun t => (i, t)) ++ if at0 o (i + 1 + j) < at0 o i then [(i, i + 1 + j)] else [] := by
  rw [List.range'_concat, List.filter_append, List.map_append, Nat.one_mul]
  congr 1
  by_cases h : at0 o (i + 1 + j) < at0 o i
  · rw [List.filter_cons_of_pos (by simpa using h), if_pos h]
    rfl
  · rw [List.filter_cons_of_neg (by simpa using h), if_neg h]
    rfl
def wpI (o : List Nat) (i : Nat) : List NP := (List.range i).flatMap (rowW o)
theorem wpI_succ (o : List Nat) (i : Nat) : wpI o (i + 1) = wpI o i ++ rowW o i := by
  unfold wpI
  rw [List.range_succ, List.flatMap_append]
  simp
section
variable {P : Program} {w : World} {K : PySem.W.Frag} {mg : Str → Option Value} {base : Heap}
/- pairs_of_places: 0 order, 1 many, 2 near, 3 far -/
abbrev N_pairs_of_places : List Str := ["order", "many", "near", "far"]
theorem sc_pairs_of_places : FnScope N_pairs_of_places ["order"] (defScope s_pairs_of_places) := ⟨rfl, rfl, rfl, by decide +kernel, rfl, by decide +kernel, by decide +kernel⟩
/- level_of: 0 order -/
abbrev N_level_of : List Str := ["order"]
theorem sc_level_of : FnScope N_level_of ["order"] (defScope s_level_of) := ⟨rfl, rfl, rfl, by decide +kernel, rfl, by decide +kernel, by decide +kernel⟩
/- undone_of: 0 order, 1 thing -/
abbrev N_undone_of : List Str := ["order", "thing"]
theorem sc_undone_of : FnScope N_undone_of ["order"] (defScope s_undone_of) := ⟨rfl, rfl, rfl, by decide +kernel, rfl, by decide +kernel, by decide +kernel⟩
/- behind_of: 0 order, 1 other, 2 thing -/
abbrev N_behind_of : List Str := ["order", "other", "thing"]
theorem sc_behind_of : FnScope N_behind_of ["order", "other"] (defScope s_behind_of) := ⟨rfl, rfl, rfl, by decide +kernel, rfl, by decide +kernel, by decide +kernel⟩
/- exchanged_in: 0 order, 1 first, 2 second, 3 found -/
abbrev N_exchanged_in : List Str := ["order", "first", "second", "found"]
theorem sc_exchanged_in : FnScope N_exchanged_in ["order", "first", "second"] (defScope s_exchanged_in) := ⟨rfl, rfl, rfl, by decide +kernel, rfl, by decide +kernel, by decide +kernel⟩
/- falls_in: 0 order, 1 place -/
abbrev N_falls_in : List Str := ["order", "place"]
theorem sc_falls_in : FnScope N_falls_in ["order"] (defScope s_falls_in) := ⟨rfl, rfl, rfl, by decide +kernel, rfl, by decide +kernel, by decide +kernel⟩
/- wrong_pairs: 0 order -/
abbrev N_wrong_pairs : List Str := ["order"]
theorem sc_wrong_pairs : FnScope N_wrong_pairs ["order"] (defScope s_wrong_pairs) := ⟨rfl, rfl, rfl, by decide +kernel, rfl, by decide +kernel, by decide +kernel⟩
/- level: 0 order -/
abbrev N_level : List Str := ["order"]
theorem sc_level : FnScope N_level ["order"] (defScope s_level) := ⟨rfl, rfl, rfl, by decide +kernel, rfl, by decide +kernel, by decide +kernel⟩
/- undone: 0 order -/
abbrev N_undone : List Str := ["order"]
theorem sc_undone : FnScope N_undone ["order"] (defScope s_undone) := ⟨rfl, rfl, rfl, by decide +kernel, rfl, by decide +kernel, by decide +kernel⟩
/- one_behind: 0 order, 1 other, 2 told, 3 further -/
abbrev N_one_behind : List Str := ["order", "other", "told", "further"]
theorem sc_one_behind : FnScope N_one_behind ["order", "other"] (defScope s_one_behind) := ⟨rfl, rfl, rfl, by decide +kernel, rfl, by decide +kernel, by decide +kernel⟩

def sp_pairs : Sp := fun vs H Q _ => ∃ a o, vs = [.ref a] ∧ Tp H a o ∧ o.length ≤ 9 ∧ ∀ H' p xs, Same H H' → H p = none → H' p = some (.lst xs) → WPs H' xs (wps o) → Q (.ref p) H'
theorem go_pairs_of_places (T : Tx K mg) : Go P w K mg base 1 "pairs_of_places" ["order"] sp_pairs := by
  refine go_mk 0 T.d_pairs_of_places sc_pairs_of_places (fun _ _ _ _ _ _ us hl => match us, hl with | [_], _ => rfl) (fun vs H Q E ⟨i, o, e, _⟩ => by rw [e]; rfl) fun f cdv A outer s H vs Q E hr h => ?_
  obtain ⟨a, o, rfl, ha, h9, q⟩ := h
  refine ⟨_, (pss_cons (ps_set (i := 1) sc_pairs_of_places.nd rfl (.inr rfl) (pe_callB call_len_seq (by rfl) T.b_len PySem.boot_len (pa_cons (pv 0) pa_nil)))
 (pss_one (ps_ret (pe_lc2 (own := [("near", 2), ("far", 3)]) (vs1 := [3]) (g := gName 2) (g1 := gName 3) (by rfl) sc_pairs_of_places.nd (pi_range1 (by rfl) T.b_range (pa_cons (pv 1) pa_nil)) (blkOk_by (own := [("near", 2), ("far", 3)]) (N := N_pairs_of_places) (sc := (defScope s_pairs_of_places)) (by decide +kernel)) (by decide) (fun _ _ _ _ _ => pg_name (i := 2) sc_pairs_of_places.nd rfl (.inl rfl)) (fun _ _ _ _ _ => pts_nil) (fun _ _ _ _ _ => (pi_range2 (by rfl) T.b_range (pa_cons (pe_op op_add (pv 2) pe_int) (pa_cons (pv 1) pa_nil)))) (fun _ _ _ _ _ => pg_name (i := 3) sc_pairs_of_places.nd rfl (.inl rfl)) (fun _ _ _ _ _ => pts_one (pt_cmpR op_gt (pe_ix (ix_tupK K) (pv 0) (pv 2) (fun _ _ => rfl)) (pe_ix (ix_tupK K) (pv 0) (pv 3) (fun _ _ => rfl)) (nomark _))) (fun _ _ _ _ _ => (pe_tup (pa_cons (pv 2) (pa_cons (pv 3) pa_nil)))))))), ?_⟩
  refine ⟨_, rfl, a, _, rfl, .inr (Tp.sq ha), ?_⟩
  rw [len_v1]
  refine ⟨_, rfl, _, rfl, by omega, by omega, fun D hD => ?_⟩
  have hto : ((o.length : Int)).toNat = o.length := by omega
  rw [hto]
  refine it_range (fun i H' => ∃ xs, Same H H' ∧ H' D = some (.lst xs) ∧ WPs H' xs (wpI o i) ∧ xs.length ≤ 9 * i) ⟨[], same_new hD, upd_same, .nil, Nat.zero_le _⟩ (fun i H1 hi ⟨xs, s1, hx, hw, hl⟩ => ?_) fun H1 ⟨xs, s1, hx, hw, hl⟩ => q H1 D xs s1 hD hx hw
  refine ⟨rfl, yesT ?_⟩
  refine ⟨_, rfl, _, _, rfl, rfl, _, rfl, _, _, rfl, ⟨by omega, by omega, by omega, by omega⟩, ?_⟩
  have hto2 : ((o.length : Int) - (0 + (i : Int) + 1)).toNat = o.length - (i + 1) := by omega
  rw [hto2]
  refine it_range (fun j H' => ∃ xs, Same H H' ∧ H' D = some (.lst xs) ∧ WPs H' xs (wpI o i ++ ((List.range' (i + 1) j).filter fun t => decide (at0 o t < at0 o i)).map fun t => (i, t)) ∧ xs.length ≤ 9 * i + j) ⟨xs, s1, hx, by simpa using hw, hl⟩ (fun j H2 hj ⟨ys, s2, hy, hw2, hl2⟩ => ?_) fun H2 ⟨ys, s2, hy, hw2, hl2⟩ => ?_
  · have hij : i + 1 + j < o.length := by omega
    refine ⟨rfl, ?_⟩
    refine ⟨_, rfl, _, rfl, a, _, _, _, rfl, rfl, Tp.sq (Tp.mono s2 ha), at_I (k := i) (by omega) (by omega), ?_⟩
    refine ⟨_, rfl, _, rfl, a, _, _, _, rfl, rfl, Tp.sq (Tp.mono s2 ha), at_I (k := i + 1 + j) hij (by omega), ?_⟩
    refine ⟨_, _, rfl, rfl, _, rfl, ?_⟩
    rw [rowW_take]
    by_cases hlt : at0 o (i + 1 + j) < at0 o i
    · rw [if_pos hlt, ← List.append_assoc]
      refine iteD (by omega) ?_
      refine ⟨_, rfl, _, rfl, by show 2 ≤ sizeLine; decide, fun p hp => ?_⟩
      have hDp : D ≠ p := ne_of_none hy hp
      have e1 : upd H2 p (.tup [V.int (0 + (i : Int)), V.int (0 + (i : Int) + 1 + (j : Int))]) D = some (.lst ys) := by
        rw [upd_ne hDp]
        exact hy
      refine ⟨ys, e1, small' (m := 100) (by omega), ys ++ [.ref p], same_lst (s2.trans (same_new hp)) hD, upd_same, ?_, ?_⟩
      · refine WPs.snoc ⟨p, rfl, ?_⟩ (hw2.mono fun b zs e => tup_upd (lst_not_tup e1) b zs (tup_upd (none_not_tup hp) b zs e))
        rw [upd_ne (Ne.symm hDp), upd_same]
        show some (HO.tup [V.int _, V.int _]) = some (.tup [V.int _, V.int _])
        rw [show (0 : Int) + (i : Int) = (i : Int) by omega, show ((i + 1 + j : Nat) : Int) = (i : Int) + 1 + (j : Int) by omega]
      · rw [List.length_append]
        show ys.length + 1 ≤ _
        omega
    · rw [if_neg hlt, List.append_nil]
      exact iteND (by omega) ⟨ys, s2, hy, hw2, by omega⟩
  · refine ⟨ys, s2, hy, ?_, by omega⟩
    rw [wpI_succ]
    exact hw2
def sp_level_of : Sp := fun vs H Q _ => ∃ a o, vs = [.ref a] ∧ Tp H a o ∧ o.length ≤ 9 ∧ ∀ H', Same H H' → Q (.int ((inv o).length : Nat)) H'
theorem go_level_of (T : Tx K mg) : Go P w K mg base 2 "level_of" ["order"] sp_level_of := by
  refine go_mk 1 T.d_level_of sc_level_of (fun _ _ _ _ _ _ us hl => match us, hl with | [_], _ => rfl) (fun vs H Q E ⟨i, o, e, _⟩ => by rw [e]; rfl) fun f cdv A outer s H vs Q E hr h => ?_
  obtain ⟨a, o, rfl, ha, h9, q⟩ := h
  refine ⟨_, (pss_one (ps_ret (pe_callB call_len_seq (by rfl) T.b_len PySem.boot_len (pa_cons (pe_go (go_pairs_of_places T) (hr.mono (by decide)) (by rfl) (pa_cons (pv 0) pa_nil)) pa_nil)))), ?_⟩
  refine ⟨_, rfl, a, o, rfl, ha, h9, fun H1 p xs s1 hp hx hw => ⟨p, xs, rfl, .inl (.inl (.inl hx)), ?_⟩⟩
  have e : xs.length = (inv o).length := by
    rw [← wps_length]
    exact Paired.length hw
  rw [e]
  exact q H1 s1
/-! ### undone, behind, exchanged, falls -/
theorem idx_le : ∀ (o : List Nat) (m i : Nat), o[m]? = some i → o.idxOf i ≤ m
  | [], m, i, h => by simp at h
  | x :: r, 0, i, h => by
    have e : x = i := by simpa using h
    subst e
    rw [List.idxOf_cons_self]
    exact Nat.le_refl _
  | x :: r, m + 1, i, h => by
    have ih := idx_le r m i (by simpa using h)
    rw [List.idxOf_cons]
    cases (x == i) with
    | true => exact Nat.zero_le _
    | false => exact Nat.succ_le_succ ih
theorem z1_at {o : List Nat} {m : Nat} {z : Int} : (z1 o)[m]? = some z ↔ ∃ i, o[m]? = some i ∧ z = (i : Int) + 1 := by
  unfold z1
  rw [List.getElem?_map]
  cases o[m]? with
  | none => simp
  | some i => simp [eq_comm]
theorem IsOrd.lt {o : List Nat} (h : o.Perm (List.range o.length)) {x : Nat} (hx : x ∈ o) : x < o.length := List.mem_range.mp (h.mem_iff.mp hx)
def sp_undone_of : Sp := fun vs H Q _ => ∃ a o, vs = [.ref a] ∧ Tp H a o ∧ IsOrd o ∧ ∀ H' p, Same H H' → Tp H' p (undo o) → Q (.ref p) H'
theorem go_undone_of (T : Tx K mg) : Go P w K mg base 1 "undone_of" ["order"] sp_undone_of := by
  refine go_mk 0 T.d_undone_of sc_undone_of (fun _ _ _ _ _ _ us hl => match us, hl with | [_], _ => rfl) (fun vs H Q E ⟨i, o, e, _⟩ => by rw [e]; rfl) fun f cdv A outer s H vs Q E hr h => ?_
  obtain ⟨a, o, rfl, ha, ⟨hp, h1, h9⟩, q⟩ := h
  refine ⟨_, (pss_one (ps_ret (pe_callTy call_tupK (by rfl) T.b_tuple (by decide +kernel) (pa_cons (pe_lc (own := [("thing", 1)]) (g := gName 1) (by rfl) sc_undone_of.nd (pi_range2 (by rfl) T.b_range (pa_cons pe_int (pa_cons (pe_op op_add (pe_callB call_len_seq (by rfl) T.b_len PySem.boot_len (pa_cons (pv 0) pa_nil)) pe_int) pa_nil))) (blkOk_by (own := [("thing", 1)]) (N := N_undone_of) (sc := (defScope s_undone_of)) (by decide +kernel)) (fun _ _ _ _ _ => pg_name (i := 1) sc_undone_of.nd rfl (.inl rfl)) (fun _ _ _ _ _ => pts_nil) (fun _ _ _ _ _ => (pe_op op_add (pe_bmT PySem.F.slot_tuple_index PySem.F.type_tuple_index (mt_tupIxK K) (pv 0) (pa_cons (pv 1) pa_nil)) pe_int))) pa_nil)))), ?_⟩
  refine ⟨_, rfl, a, _, rfl, .inr (Tp.sq ha), ?_⟩
  rw [len_v1]
  refine ⟨_, _, rfl, rfl, _, _, rfl, ⟨by omega, by omega, by omega, by omega⟩, fun D hD => ?_⟩
  rw [show ((o.length : Int) + 1 - 1).toNat = o.length by omega]
  refine it_range (fun i H' => Same H H' ∧ H' D = some (.lst ((List.range i).map fun t => v1 (o.idxOf t)))) ⟨same_new hD, upd_same⟩ (fun i H1 hi ⟨s1, hx⟩ => ?_) fun H1 ⟨s1, hx⟩ => ?_
  · have him : i ∈ o := hp.mem_iff.mpr (List.mem_range.mpr hi)
    have hlt := List.idxOf_lt_length_of_mem him
    refine ⟨rfl, yesT ⟨_, rfl, ⟨a, _, rfl, ha.mono s1⟩, _, rfl, a, z1 o, _, o.idxOf i, rfl, rfl, ?_, ?_, fun m hm e => ?_, ?_⟩⟩
    · rw [v1_eq]
      exact Tp.sq (ha.mono s1)
    · exact z1_at.mpr ⟨i, by rw [List.getElem?_eq_getElem hlt, List.getElem_idxOf hlt], by omega⟩
    · obtain ⟨k, hk, ek⟩ := z1_at.mp e
      have : k = i := by omega
      subst this
      have := idx_le o m k hk
      omega
    · refine ⟨_, _, rfl, rfl, _, hx, small' (m := 9) ?_, same_lst s1 hD, ?_⟩
      · rw [List.length_map, List.length_range]
        omega
      · rw [upd_same, List.range_succ, List.map_append]
        rfl
  · refine ⟨D, _, rfl, .inl ⟨.inl (.inl hx), fun l ob hl hd => q _ l (s1.trans (same_new hl)) ?_⟩⟩
    unfold Tp undo
    rw [List.map_map]
    exact Known.new hd
def sp_behind_of : Sp := fun vs H Q _ => ∃ a b o u, vs = [.ref a, .ref b] ∧ Tp H a o ∧ Tp H b u ∧ (∀ x ∈ u, x < o.length) ∧ u.length ≤ 9 ∧ ∀ H' p, Same H H' → Tp H' p (behind o u) → Q (.ref p) H'
theorem go_behind_of (T : Tx K mg) : Go P w K mg base 1 "behind_of" ["order", "other"] sp_behind_of := by
  refine go_mk 0 T.d_behind_of sc_behind_of (fun _ _ _ _ _ _ us hl => match us, hl with | [_, _], _ => rfl) (fun vs H Q E ⟨a, b, o, u, e, _⟩ => by rw [e]; rfl) fun f cdv A outer s H vs Q E hr h => ?_
  obtain ⟨a, b, o, u, rfl, ha, hb, hlt, h9, q⟩ := h
  refine ⟨_, (pss_one (ps_ret (pe_callTy call_tupK (by rfl) T.b_tuple (by decide +kernel) (pa_cons (pe_lc (own := [("thing", 2)]) (g := gName 2) (by rfl) sc_behind_of.nd (pi_tup (pv 1)) (blkOk_by (own := [("thing", 2)]) (N := N_behind_of) (sc := (defScope s_behind_of)) (by decide +kernel)) (fun _ _ _ _ _ => pg_name (i := 2) sc_behind_of.nd rfl (.inl rfl)) (fun _ _ _ _ _ => pts_nil) (fun _ _ _ _ _ => (pe_ix (ix_tupK K) (pv 0) (pe_op op_sub (pv 2) pe_int) (fun _ _ => rfl)))) pa_nil)))), ?_⟩
  refine ⟨_, rfl, b, rfl, ⟨_, Tp.sq hb⟩, fun D hD => ?_⟩
  refine it_tup (xs := u.map v1) (fun i H' => Same H H' ∧ H' D = some (.lst ((u.take i).map fun t => v1 (at0 o t)))) ⟨same_new hD, upd_same⟩ (fun i H1 ⟨s1, _⟩ => Tp.sq (hb.mono s1)) (fun i x H1 hx ⟨s1, hl⟩ => ?_) fun H1 ⟨s1, hl⟩ => ?_
  · obtain ⟨hi, rfl⟩ := at_v1' hx
    have hk : at0 u i < o.length := hlt _ (by rw [at0_lt hi]; exact List.getElem_mem hi)
    refine ⟨rfl, yesT ⟨_, rfl, _, rfl, _, _, rfl, rfl, a, _, _, _, rfl, rfl, Tp.sq (ha.mono s1), at_I (k := at0 u i) hk (by omega), _, hl, small' (m := 9) ?_, same_lst s1 hD, ?_⟩⟩
    · rw [List.length_map, List.length_take]
      omega
    · rw [upd_same, List.take_add_one, List.getElem?_eq_getElem hi, ← at0_lt hi, List.map_append]
      rfl
  · rw [len_v1, List.take_length] at hl
    refine ⟨D, _, rfl, .inl ⟨.inl (.inl hl), fun l ob hn hd => q _ l (s1.trans (same_new hn)) ?_⟩⟩
    unfold Tp behind
    rw [List.map_map]
    exact Known.new hd
theorem ix_I {n k : Nat} {i : Int} (h : k < n) (e : i = (k : Int)) : ixN n i = some k := by
  unfold ixN
  rw [if_pos (by omega), if_pos (by omega), e]
  rfl
def sp_exchanged : Sp := fun vs H Q _ => ∃ a o k, vs = [.ref a, .int (k : Nat), .int ((k : Nat) + 1)] ∧ Tp H a o ∧ k + 1 < o.length ∧ o.length ≤ 9 ∧ ∀ H' p, Same H H' → Tp H' p (swp o k) → Q (.ref p) H'
theorem swp_v1 {o : List Nat} {k : Nat} (h : k + 1 < o.length) : ((o.map v1).set k (v1 (at0 o (k + 1)))).set (k + 1) (v1 (at0 o k)) = (swp o k).map v1 := by
  rw [swp_set o k h, List.map_set, List.map_set]
theorem go_exchanged_in (T : Tx K mg) : Go P w K mg base 1 "exchanged_in" ["order", "first", "second"] sp_exchanged := by
  refine go_mk 0 T.d_exchanged_in sc_exchanged_in (fun _ _ _ _ _ _ us hl => match us, hl with | [_, _, _], _ => rfl) (fun vs H Q E ⟨a, o, k, e, _⟩ => by rw [e]; rfl) fun f cdv A outer s H vs Q E hr h => ?_
  obtain ⟨a, o, k, rfl, ha, hk, h9, q⟩ := h
  refine ⟨_, (pss_cons (ps_set (i := 3) sc_exchanged_in.nd rfl (.inl rfl) (pe_callTy call_list_of (by rfl) T.b_list (by decide +kernel) (pa_cons (pv 0) pa_nil)))
 (pss_cons (ps_asg (pe_tup (pa_cons (pe_ix ix_tup (pv 0) (pv 2) (fun _ _ => rfl)) (pa_cons (pe_ix ix_tup (pv 0) (pv 1) (fun _ _ => rfl)) pa_nil))) (pg_tup (by rfl) (pgs_cons (pg_sub (pv 3) (pv 1) set_list) (pgs_cons (pg_sub (pv 3) (pv 2) set_list) pgs_nil))))
 (pss_one (ps_ret (pe_callTy call_tupK (by rfl) T.b_tuple (by decide +kernel) (pa_cons (pv 3) pa_nil)))))), ?_⟩
  refine ⟨_, rfl, a, _, rfl, .inr (Tp.sq ha), fun l hl => ?_⟩
  have s1 : Same H (upd H l (.lst (o.map v1))) := same_new hl
  refine ⟨_, rfl, _, rfl, a, _, _, _, rfl, rfl, Tp.sq (ha.mono s1), at_I (k := k + 1) hk (by omega), ?_⟩
  refine ⟨_, rfl, _, rfl, a, _, _, _, rfl, rfl, Tp.sq (ha.mono s1), at_I (k := k) (by omega) rfl, by show 2 ≤ sizeLine; decide, fun t ht => ?_⟩
  have hlt : l ≠ t := ne_of_none upd_same ht
  refine ⟨t, _, rfl, .inl (.inl upd_same), rfl, _, _, rfl, _, rfl, _, rfl, l, o.map v1, _, k, rfl, rfl, by rw [upd_ne hlt, upd_same], ix_I (by rw [len_v1]; omega) rfl, ?_⟩
  refine ⟨_, _, rfl, _, rfl, _, rfl, l, _, _, k + 1, rfl, rfl, upd_same, ix_I (by rw [List.length_set, len_v1]; omega) (by omega), rfl, ?_⟩
  refine ⟨_, rfl, l, (swp o k).map v1, rfl, .inl ⟨.inl (.inl ?_), fun p ob hp hd => q _ p ?_ (Known.new hd)⟩⟩
  · rw [upd_same, swp_v1 hk]
  · refine Same.trans ?_ (same_new hp)
    refine same_lst (same_lst (s1.trans (same_new ht)) hl) hl
def sp_falls_in : Sp := fun vs H Q _ => ∃ a o, vs = [.ref a] ∧ Tp H a o ∧ 1 ≤ o.length ∧ o.length ≤ 9 ∧ ∀ H' p, Same H H' → H p = none → H' p = some (.lst ((fls o).map v0)) → Q (.ref p) H'
theorem go_falls_in (T : Tx K mg) : Go P w K mg base 1 "falls_in" ["order"] sp_falls_in := by
  refine go_mk 0 T.d_falls_in sc_falls_in (fun _ _ _ _ _ _ us hl => match us, hl with | [_], _ => rfl) (fun vs H Q E ⟨a, o, e, _⟩ => by rw [e]; rfl) fun f cdv A outer s H vs Q E hr h => ?_
  obtain ⟨a, o, rfl, ha, h1, h9, q⟩ := h
  refine ⟨_, (pss_one (ps_ret (pe_lc (own := [("place", 1)]) (g := gName 1) (by rfl) sc_falls_in.nd (pi_range1 (by rfl) T.b_range (pa_cons (pe_op op_sub (pe_callB call_len_seq (by rfl) T.b_len PySem.boot_len (pa_cons (pv 0) pa_nil)) pe_int) pa_nil)) (blkOk_by (own := [("place", 1)]) (N := N_falls_in) (sc := (defScope s_falls_in)) (by decide +kernel)) (fun _ _ _ _ _ => pg_name (i := 1) sc_falls_in.nd rfl (.inl rfl)) (fun _ _ _ _ _ => pts_one (pt_cmpR op_gt (pe_ix (ix_tupK K) (pv 0) (pv 1) (fun _ _ => rfl)) (pe_ix (ix_tupK K) (pv 0) (pe_op op_add (pv 1) pe_int) (fun _ _ => rfl)) (nomark _))) (fun _ _ _ _ _ => (pv 1))))), ?_⟩
  refine ⟨_, rfl, a, _, rfl, .inr (Tp.sq ha), ?_⟩
  rw [len_v1]
  refine ⟨_, _, rfl, rfl, _, rfl, by omega, by omega, fun D hD => ?_⟩
  rw [show ((o.length : Int) - 1).toNat = o.length - 1 by omega]
  refine it_range (fun i H' => Same H H' ∧ H' D = some (.lst (((List.range i).filter (fallAt o)).map v0))) ⟨same_new hD, upd_same⟩ (fun i H2 hi ⟨s1, hx⟩ => ?_) fun H2 ⟨s1, hx⟩ => q _ D s1 hD hx
  refine ⟨rfl, _, rfl, _, rfl, a, _, _, _, rfl, rfl, Tp.sq (ha.mono s1), at_I (k := i) (by omega) (by omega), ?_⟩
  refine ⟨_, rfl, _, rfl, _, _, rfl, rfl, a, _, _, _, rfl, rfl, Tp.sq (ha.mono s1), at_I (k := i + 1) (by omega) (by omega), _, _, rfl, rfl, _, rfl, ?_⟩
  rw [List.range_succ, List.filter_append]
  by_cases hf : at0 o (i + 1) < at0 o i
  · rw [List.filter_cons_of_pos (by unfold fallAt; simpa using hf)]
    refine iteD (by omega) ⟨_, rfl, _, hx, small' (m := 9) ?_, same_lst s1 hD, ?_⟩
    · rw [List.length_map]
      exact Nat.le_trans (List.length_filter_le _ _) (by rw [List.length_range]; omega)
    · rw [upd_same, List.map_append, show (0 : Int) + (i : Int) = (i : Int) by omega]
      rfl
  · rw [List.filter_cons_of_neg (by unfold fallAt; simpa using hf)]
    refine iteND (by omega) ⟨s1, ?_⟩
    rw [List.filter_nil, List.append_nil]
    exact hx
/-! ### from outside -/
def sp_wrong_pairs : Sp := fun vs H Q _ => ∃ a o, vs = [.ref a] ∧ Sq H a o ∧ IsOrd o ∧ ∀ H' p xs, Same H H' → H' p = some (.lst xs) → WPs H' xs (wps o) → Q (.ref p) H'
theorem go_wrong_pairs (T : Tx K mg) : Go P w K mg base 5 "wrong_pairs" ["order"] sp_wrong_pairs := by
  refine go_mk 4 T.d_wrong_pairs sc_wrong_pairs (fun _ _ _ _ _ _ us hl => match us, hl with | [_], _ => rfl) (fun vs H Q E ⟨a, o, e, _⟩ => by rw [e]; rfl) fun f cdv A outer s H vs Q E hr h => ?_
  obtain ⟨a, o, rfl, ha, ho, q⟩ := h
  refine ⟨_, (pss_one (ps_ret (pe_go (go_pairs_of_places T) (hr.mono (by decide)) (by rfl) (pa_cons (pe_go (go_want_order T) (hr.mono (by decide)) (by rfl) (pa_cons (pv 0) pa_nil)) pa_nil)))), ?_⟩
  exact ⟨_, rfl, a, o, rfl, ha, ho, fun H1 p s1 hp => ⟨p, o, rfl, hp, ho.2.2, fun H2 r xs s2 _ hx hw => q H2 r xs (s1.trans s2) hx hw⟩⟩
def sp_level : Sp := fun vs H Q _ => ∃ a o, vs = [.ref a] ∧ Sq H a o ∧ IsOrd o ∧ ∀ H', Same H H' → Q (.int ((inv o).length : Nat)) H'
theorem go_level (T : Tx K mg) : Go P w K mg base 5 "level" ["order"] sp_level := by
  refine go_mk 4 T.d_level sc_level (fun _ _ _ _ _ _ us hl => match us, hl with | [_], _ => rfl) (fun vs H Q E ⟨a, o, e, _⟩ => by rw [e]; rfl) fun f cdv A outer s H vs Q E hr h => ?_
  obtain ⟨a, o, rfl, ha, ho, q⟩ := h
  refine ⟨_, (pss_one (ps_ret (pe_go (go_level_of T) (hr.mono (by decide)) (by rfl) (pa_cons (pe_go (go_want_order T) (hr.mono (by decide)) (by rfl) (pa_cons (pv 0) pa_nil)) pa_nil)))), ?_⟩
  exact ⟨_, rfl, a, o, rfl, ha, ho, fun H1 p s1 hp => ⟨p, o, rfl, hp, ho.2.2, fun H2 s2 => q H2 (s1.trans s2)⟩⟩
def sp_undone : Sp := fun vs H Q _ => ∃ a o, vs = [.ref a] ∧ Sq H a o ∧ IsOrd o ∧ ∀ H' p, Same H H' → Tp H' p (undo o) → Q (.ref p) H'
theorem go_undone (T : Tx K mg) : Go P w K mg base 5 "undone" ["order"] sp_undone := by
  refine go_mk 4 T.d_undone sc_undone (fun _ _ _ _ _ _ us hl => match us, hl with | [_], _ => rfl) (fun vs H Q E ⟨a, o, e, _⟩ => by rw [e]; rfl) fun f cdv A outer s H vs Q E hr h => ?_
  obtain ⟨a, o, rfl, ha, ho, q⟩ := h
  refine ⟨_, (pss_one (ps_ret (pe_go (go_undone_of T) (hr.mono (by decide)) (by rfl) (pa_cons (pe_go (go_want_order T) (hr.mono (by decide)) (by rfl) (pa_cons (pv 0) pa_nil)) pa_nil)))), ?_⟩
  exact ⟨_, rfl, a, o, rfl, ha, ho, fun H1 p s1 hp => ⟨p, o, rfl, hp, ho, fun H2 r s2 hr => q H2 r (s1.trans s2) hr⟩⟩
def sp_one_behind : Sp := fun vs H Q _ => ∃ a b o u, vs = [.ref a, .ref b] ∧ Sq H a o ∧ Sq H b u ∧ IsOrd o ∧ IsOrd u ∧ o.length = u.length ∧ ∀ H' p, Same H H' → Tp H' p (behind o u) → Q (.ref p) H'
theorem go_one_behind (T : Tx K mg) : Go P w K mg base 5 "one_behind" ["order", "other"] sp_one_behind := by
  refine go_mk 4 T.d_one_behind sc_one_behind (fun _ _ _ _ _ _ us hl => match us, hl with | [_, _], _ => rfl) (fun vs H Q E ⟨a, b, o, u, e, _⟩ => by rw [e]; rfl) fun f cdv A outer s H vs Q E hr h => ?_
  obtain ⟨a, b, o, u, rfl, ha, hb, ho, hu, hl, q⟩ := h
  refine ⟨_, (pss_cons (ps_set (i := 2) sc_one_behind.nd rfl (.inl rfl) (pe_go (go_want_order T) (hr.mono (by decide)) (by rfl) (pa_cons (pv 0) pa_nil)))
 (pss_cons (ps_set (i := 3) sc_one_behind.nd rfl (.inl rfl) (pe_go (go_want_order T) (hr.mono (by decide)) (by rfl) (pa_cons (pv 1) pa_nil)))
 (pss_cons (ps_expr (pe_go (go_want_alike T) (hr.mono (by decide)) (by rfl) (pa_cons (pv 2) (pa_cons (pv 3) pa_nil))))
 (pss_one (ps_ret (pe_go (go_behind_of T) (hr.mono (by decide)) (by rfl) (pa_cons (pv 2) (pa_cons (pv 3) pa_nil)))))))), ?_⟩
  refine ⟨_, rfl, a, o, rfl, ha, ho, fun H1 p s1 hp => ?_⟩
  refine ⟨_, rfl, b, u, rfl, hb.mono s1, hu, fun H2 r s2 hr2 => ?_⟩
  refine ⟨_, rfl, _, rfl, p, r, o, u, rfl, hp.mono s2, hr2, hl, ?_⟩
  refine ⟨_, rfl, _, rfl, p, r, o, u, rfl, hp.mono s2, hr2, fun x hx => ?_, hu.2.2, fun H3 t s3 ht => q H3 t ((s1.trans s2).trans s3) ht⟩
  rw [hl]
  exact IsOrd.lt hu.1 hx
end
end K14
end

section
set_option maxHeartbeats 4000000
namespace K14
open PySem PySem.Spec PyProof.Rows L2
theorem Tp.upd {H : Hp} {p a : Addr} {o : List Nat} {xs : List V} {x : HO} (h : Tp H p o) (ha : H a = some (.lst xs)) : Tp (upd H a x) p o := by
  obtain ⟨ob, d, e⟩ := h
  have hne : p ≠ a := ne_of e ha (by intro z; cases z)
  exact ⟨ob, d, by rw [upd_ne hne]; exact e⟩
theorem eqv_nil (ds : List PyData) : PyData.eqv (.list ds) (.list []) = ds.isEmpty := by
  cases ds <;> simp [PyData.eqv, PyData.eqvAll]
theorem dp_v0 {K : PySem.W.Frag} {H : Hp} {p : Addr} {l : List Nat} (h : H p = some (.lst (l.map v0))) : Dp K H (.ref p) (.list ((l.map fun k : Nat => (k : Int)).map .int)) := by
  rw [← v0_eq] at h
  exact .lst (.inl (.inl h)) (dp_ints _)
theorem at_I0 {l : List Nat} {i : Int} {k : Nat} (h : k < l.length) (e : i = (k : Int)) : atI (l.map v0) i = some (v0 (at0 l k)) := by
  rw [e]
  refine atI_nat ?_
  rw [List.getElem?_map, List.getElem?_eq_getElem h, at0_lt h]
  rfl
section
variable {P : Program} {w : World} {K : PySem.W.Frag} {mg : Str → Option Value} {base : Heap}
/- is_letter: 0 value, 1 many -/
abbrev N_is_letter : List Str := ["value", "many"]
theorem sc_is_letter : FnScope N_is_letter ["value", "many"] (defScope s_is_letter) := ⟨rfl, rfl, rfl, by decide +kernel, rfl, by decide +kernel, by decide +kernel⟩
/- is_word: 0 value, 1 many, 2 letter -/
abbrev N_is_word : List Str := ["value", "many", "letter"]
theorem sc_is_word : FnScope N_is_word ["value", "many"] (defScope s_is_word) := ⟨rfl, rfl, rfl, by decide +kernel, rfl, by decide +kernel, by decide +kernel⟩
/- want_word: 0 word, 1 many -/
abbrev N_want_word : List Str := ["word", "many"]
theorem sc_want_word : FnScope N_want_word ["word", "many"] (defScope s_want_word) := ⟨rfl, rfl, rfl, by decide +kernel, rfl, by decide +kernel, by decide +kernel⟩
/- order_by: 0 word, 1 many, 2 order, 3 letter -/
abbrev N_order_by : List Str := ["word", "many", "order", "letter"]
theorem sc_order_by : FnScope N_order_by ["word", "many"] (defScope s_order_by) := ⟨rfl, rfl, rfl, by decide +kernel, rfl, by decide +kernel, by decide +kernel⟩
/- is_least_in: 0 word, 1 many -/
abbrev N_is_least_in : List Str := ["word", "many"]
theorem sc_is_least_in : FnScope N_is_least_in ["word", "many"] (defScope s_is_least_in) := ⟨rfl, rfl, rfl, by decide +kernel, rfl, by decide +kernel, by decide +kernel⟩
/- word_of: 0 order, 1 found, 2 left -/
abbrev N_word_of : List Str := ["order", "found", "left"]
theorem sc_word_of : FnScope N_word_of ["order"] (defScope s_word_of) := ⟨rfl, rfl, rfl, by decide +kernel, rfl, by decide +kernel, by decide +kernel⟩
/- word_order: 0 word, 1 many -/
abbrev N_word_order : List Str := ["word", "many"]
theorem sc_word_order : FnScope N_word_order ["word", "many"] (defScope s_word_order) := ⟨rfl, rfl, rfl, by decide +kernel, rfl, by decide +kernel, by decide +kernel⟩
/- is_least: 0 word, 1 many -/
abbrev N_is_least : List Str := ["word", "many"]
theorem sc_is_least : FnScope N_is_least ["word", "many"] (defScope s_is_least) := ⟨rfl, rfl, rfl, by decide +kernel, rfl, by decide +kernel, by decide +kernel⟩
/- a_word: 0 order -/
abbrev N_a_word : List Str := ["order"]
theorem sc_a_word : FnScope N_a_word ["order"] (defScope s_a_word) := ⟨rfl, rfl, rfl, by decide +kernel, rfl, by decide +kernel, by decide +kernel⟩

def sp_is_letter : Sp := fun vs H Q _ => ∃ k m : Nat, vs = [v1 k, .int m] ∧ k + 1 < m ∧ Q (.bl true) H
theorem go_is_letter (T : Tx K mg) : Go P w K mg base 2 "is_letter" ["value", "many"] sp_is_letter := by
  refine go_mk 1 T.d_is_letter sc_is_letter (fun _ _ _ _ _ _ us hl => match us, hl with | [_, _], _ => rfl) (fun vs H Q E ⟨k, m, e, _⟩ => by rw [e]; rfl) fun f cdv A outer s H vs Q E hr h => ?_
  obtain ⟨k, m, rfl, hk, q⟩ := h
  refine ⟨_, (pss_one (ps_ret (pe_and (pe_go (go_is_integer T) (hr.mono (by decide)) (by rfl) (pa_cons (pv 0) pa_nil)) (pe_one (pe_chain op_le op_lt pe_int (pv 0) (pv 1)))))), ?_⟩
  refine ⟨_, rfl, _, rfl, true, rfl, iteT ⟨_, rfl, _, _, rfl, rfl, _, rfl, iteD (by omega) ⟨_, rfl, _, _, rfl, rfl, ?_⟩⟩⟩
  show Q (.bl (decide ((k : Int) + 1 < (m : Int)))) H
  rw [decide_eq_true (show (k : Int) + 1 < (m : Int) by omega)]
  exact q
def IsWord (m : Nat) (u : List Nat) : Prop := Lets m u ∧ u.length ≤ 40
def sp_is_word : Sp := fun vs H Q _ => ∃ (a : Addr) (u : List Nat) (m : Nat), vs = [.ref a, .int m] ∧ Sq H a u ∧ IsWord m u ∧ ∀ H', Same H H' → Q (.bl true) H'
theorem go_is_word (T : Tx K mg) : Go P w K mg base 3 "is_word" ["value", "many"] sp_is_word := by
  refine go_mk 2 T.d_is_word sc_is_word (fun _ _ _ _ _ _ us hl => match us, hl with | [_, _], _ => rfl) (fun vs H Q E ⟨a, u, m, e, _⟩ => by rw [e]; rfl) fun f cdv A outer s H vs Q E hr h => ?_
  obtain ⟨a, u, m, rfl, ha, ⟨hu, hl⟩, q⟩ := h
  obtain ⟨t40, h40⟩ := T.i_letters
  refine ⟨_, (pss_one (ps_ret (pe_and (pe_go (go_is_list T) (hr.mono (by decide)) (by rfl) (pa_cons (pv 0) pa_nil)) (pe_and (pe_cmpR op_le (pe_callB call_len_seq (by rfl) T.b_len PySem.boot_len (pa_cons (pv 0) pa_nil)) (pe_glob (v := .int 40) (by rfl) h40 ⟨_, rfl⟩) (nomark _)) (pe_one (pe_callB (cr_all rfl) (by rfl) T.b_all (by decide +kernel) (pa_cons (pe_lc (own := [("letter", 2)]) (g := gName 2) (by rfl) sc_is_word.nd (pi_seq (pv 0)) (blkOk_by (own := [("letter", 2)]) (N := N_is_word) (sc := (defScope s_is_word)) (by decide +kernel)) (fun _ _ _ _ _ => pg_name (i := 2) sc_is_word.nd rfl (.inl rfl)) (fun _ _ _ _ _ => pts_nil) (fun _ _ _ _ _ => (pe_go (go_is_letter T) (hr.mono (by decide)) (by rfl) (pa_cons (pv 2) (pa_cons (pv 1) pa_nil))))) pa_nil))))))), ?_⟩
  refine ⟨_, rfl, a, u, rfl, ha, fun H1 s1 => ⟨true, rfl, iteT ?_⟩⟩
  refine ⟨_, rfl, a, _, rfl, (ha.mono s1).len, _, _, rfl, rfl, _, rfl, iteD (by rw [len_v1]; omega) ?_⟩
  dsimp only [tCB, tCons, tNil]
  refine lc_seq rfl (ha.mono s1) (fun D j H' => Same H1 H' ∧ H' D = some (.lst ((List.replicate j true).map V.bl))) (fun D hD => ⟨same_new hD, upd_same⟩) (fun D j H' p => p.1) (fun D j H' hD hj p => ?_) (fun D H' hD p => ?_)
  · have hk : at0 u j + 1 < m := hu _ (by rw [at0_lt hj]; exact List.getElem_mem hj)
    refine ⟨rfl, yesT ⟨_, rfl, _, rfl, at0 u j, m, rfl, hk, _, p.2, ?_, same_lst p.1 hD, ?_⟩⟩
    · rw [rep_len]
      exact small' (m := 40) (by omega)
    · rw [upd_same, rep_succ]
  · refine ⟨D, List.replicate u.length true, rfl, .inl (.inl p.2), ?_⟩
    rw [rep_all]
    exact q H' (s1.trans p.1)
def sp_want_word : Sp := fun vs H Q _ => ∃ (a : Addr) (u : List Nat) (m : Nat), vs = [.ref a, .int m] ∧ Sq H a u ∧ IsWord m u ∧ 1 ≤ m ∧ m ≤ 9 ∧ ∀ H' p, Same H H' → H p = none → Ls H' p u → Q (.ref p) H'
theorem go_want_word (T : Tx K mg) : Go P w K mg base 4 "want_word" ["word", "many"] sp_want_word := by
  refine go_mk 3 T.d_want_word sc_want_word (fun _ _ _ _ _ _ us hl => match us, hl with | [_, _], _ => rfl) (fun vs H Q E ⟨a, u, m, e, _⟩ => by rw [e]; rfl) fun f cdv A outer s H vs Q E hr h => ?_
  obtain ⟨a, u, m, rfl, ha, hu, h1, h9, q⟩ := h
  obtain ⟨t9, h9'⟩ := T.i_things
  have h9 := h9'
  refine ⟨_, (pss_cons (ps_expr (pe_go (go_want_many T) (hr.mono (by decide)) (by rfl) (pa_cons (pv 1) (pa_cons pe_int (pa_cons (pe_glob (v := .int 9) (by rfl) h9 ⟨_, rfl⟩) pa_nil)))))
 (pss_cons (ps_if (pt_not (pt_val (pe_go (go_is_word T) (hr.mono (by decide)) (by rfl) (pa_cons (pv 0) (pa_cons (pv 1) pa_nil)))))
 (pss_one ps_never) pss_nil)
 (pss_one (ps_ret (pe_callTy call_list_of (by rfl) T.b_list (by decide +kernel) (pa_cons (pv 0) pa_nil)))))), ?_⟩
  refine ⟨_, rfl, _, _, _, rfl, by omega, by omega, by omega, ?_⟩
  refine ⟨_, rfl, _, rfl, a, u, m, rfl, ha, hu, fun H1 s1 => ⟨true, rfl, iteF ?_⟩⟩
  exact ⟨_, rfl, a, _, rfl, (ha.mono s1).len, fun l hl => q _ l (s1.trans (same_new hl)) (s1.free hl) upd_same⟩
def sp_order_by : Sp := fun vs H Q _ => ∃ (a : Addr) (u : List Nat) (m : Nat), vs = [.ref a, .int m] ∧ Ls H a u ∧ Lets m u ∧ m ≤ 9 ∧ ∀ H' p, Same H H' → Tp H' p (ordW m u) → Q (.ref p) H'
theorem go_order_by (T : Tx K mg) : Go P w K mg base 2 "order_by" ["word", "many"] sp_order_by := by
  refine go_mk 1 T.d_order_by sc_order_by (fun _ _ _ _ _ _ us hl => match us, hl with | [_, _], _ => rfl) (fun vs H Q E ⟨a, u, m, e, _⟩ => by rw [e]; rfl) fun f cdv A outer s H vs Q E hr h => ?_
  obtain ⟨a, u, m, rfl, ha, hu, h9, q⟩ := h
  refine ⟨_, (pss_cons (ps_set (i := 2) sc_order_by.nd rfl (.inl rfl) (pe_go (go_sorted_order T) (hr.mono (by decide)) (by rfl) (pa_cons (pv 1) pa_nil)))
 (pss_cons (ps_for PassesOwn.never rfl (pi_list (pv 0)) (pg_name (i := 3) sc_order_by.nd rfl (.inl rfl))
 (pss_one (ps_set (i := 2) sc_order_by.nd rfl (.inl rfl) (pe_go (go_exchanged_in T) (hr.mono (by decide)) (by rfl) (pa_cons (pv 2) (pa_cons (pe_op op_sub (pv 3) pe_int) (pa_cons (pv 3) pa_nil)))))))
 (pss_one (ps_ret (pv 2))))), ?_⟩
  refine ⟨_, rfl, m, rfl, h9, fun H1 p s1 _ hp => ?_⟩
  refine ⟨_, rfl, a, rfl, ⟨_, Ls.sq (s1 _ _ ha)⟩, for_list (xs := u.map v1) (fun i σ H' => ∃ r x, σ = [some (.ref a), some (.int m), some (.ref r), x] ∧ Same H H' ∧ Tp H' r (ordW m (u.take i))) ⟨p, none, rfl, s1, hp⟩ (fun i σ H' _ ⟨r, x, _, s2, _⟩ => Ls.sq (s2 _ _ ha)) (fun i x σ H' hx ⟨r, y, e, s2, hr2⟩ => ?_) fun σ H' ⟨r, y, e, s2, hr2⟩ => ?_⟩
  · obtain ⟨hi, rfl⟩ := at_v1' hx
    subst e
    have hk : at0 u i + 1 < m := hu _ (by rw [at0_lt hi]; exact List.getElem_mem hi)
    refine ⟨_, rfl, _, rfl, _, _, rfl, rfl, _, rfl, r, ordW m (u.take i), at0 u i, ?_, hr2, by rw [ordW_length]; omega, by rw [ordW_length]; omega, fun H2 t s3 ht => ⟨t, _, rfl, s2.trans s3, ?_⟩⟩
    · show [V.ref r, V.int ((at0 u i : Int) + 1 - 1), V.int ((at0 u i : Int) + 1)] ++ [] = [V.ref r, V.int (at0 u i : Int), V.int ((at0 u i : Int) + 1)]
      rw [Int.add_sub_cancel, List.append_nil]
    · rw [List.take_add_one, List.getElem?_eq_getElem hi, ← at0_lt hi]
      show Tp H2 t (ordF (List.range m) (u.take i ++ [at0 u i]))
      rw [ordF_one]
      exact ht
  · subst e
    rw [len_v1, List.take_length] at hr2
    exact ⟨_, rfl, q H' r s2 hr2⟩
def sp_is_least_in : Sp := fun vs H Q _ => ∃ (a : Addr) (u : List Nat) (m : Nat), vs = [.ref a, .int m] ∧ Ls H a u ∧ Lets m u ∧ m ≤ 9 ∧ ∀ H', Same H H' → Q (.bl (decide (u.length = (inv (ordW m u)).length))) H'
theorem go_is_least_in (T : Tx K mg) : Go P w K mg base 3 "is_least_in" ["word", "many"] sp_is_least_in := by
  refine go_mk 2 T.d_is_least_in sc_is_least_in (fun _ _ _ _ _ _ us hl => match us, hl with | [_, _], _ => rfl) (fun vs H Q E ⟨a, u, m, e, _⟩ => by rw [e]; rfl) fun f cdv A outer s H vs Q E hr h => ?_
  obtain ⟨a, u, m, rfl, ha, hu, h9, q⟩ := h
  refine ⟨_, (pss_one (ps_ret (pe_cmpR op_eq (pe_callB call_len_seq (by rfl) T.b_len PySem.boot_len (pa_cons (pv 0) pa_nil)) (pe_go (go_level_of T) (hr.mono (by decide)) (by rfl) (pa_cons (pe_go (go_order_by T) (hr.mono (by decide)) (by rfl) (pa_cons (pv 0) (pa_cons (pv 1) pa_nil))) pa_nil)) (nomark _)))), ?_⟩
  refine ⟨_, rfl, a, _, rfl, .inl (Ls.sq ha), ?_⟩
  refine ⟨_, rfl, _, rfl, a, u, m, rfl, ha, hu, h9, fun H1 p s1 hp => ⟨p, _, rfl, hp, by rw [ordW_length]; exact h9, fun H2 s2 => ⟨rfl, ?_⟩⟩⟩
  have e : decide (V.int ((u.map v1).length : Nat) = V.int ((inv (ordW m u)).length : Nat)) = decide (u.length = (inv (ordW m u)).length) := by
    rw [len_v1]
    refine decide_eq_decide.mpr ⟨fun z => ?_, fun z => by rw [z]⟩
    have := V.int.inj z
    omega
  show Q (.bl (decide (V.int ((u.map v1).length : Nat) = V.int ((inv (ordW m u)).length : Nat)))) H2
  rw [e]
  exact q H2 (s1.trans s2)
/-- a least word of an order, told from its end -/
def Least (o u : List Nat) : Prop := ordW o.length u = o ∧ Lets o.length u ∧ u.length = (inv o).length
def sp_word_of : Sp := fun vs H Q _ => ∃ a o, vs = [.ref a] ∧ Tp H a o ∧ IsOrd o ∧ ∀ u H' p, Least o u → Same H H' → H p = none → Ls H' p u → Q (.ref p) H'
theorem go_word_of (T : Tx K mg) : Go P w K mg base 2 "word_of" ["order"] sp_word_of := by
  refine go_mk 1 T.d_word_of sc_word_of (fun _ _ _ _ _ _ us hl => match us, hl with | [_], _ => rfl) (fun vs H Q E ⟨a, o, e, _⟩ => by rw [e]; rfl) fun f cdv A outer s H vs Q E hr h => ?_
  obtain ⟨a, o, rfl, ha, ⟨hp, h1, h9⟩, q⟩ := h
  have hu := hr.units
  refine ⟨_, (pss_cons (ps_set (i := 1) sc_word_of.nd rfl (.inl rfl) (pe_lst pa_nil))
 (pss_cons (ps_set (i := 2) sc_word_of.nd rfl (.inl rfl) (pe_go (go_falls_in T) (hr.mono (by decide)) (by rfl) (pa_cons (pv 0) pa_nil)))
 (pss_cons (ps_while PassesOwn.never (pt_cmpR (op_neD hu) (pv 2) (pe_lst pa_nil) (nomark _))
 (pss_cons (ps_expr (pe_bm PySem.F.plainAttrs_list PySem.F.slot_list_append PySem.F.type_list_append mt_append (pv 1) (pa_cons (pe_op op_add (pe_ix ix_list (pv 2) pe_int (fun _ _ => rfl)) pe_int) pa_nil)))
 (pss_cons (ps_set (i := 0) sc_word_of.nd rfl (.inl rfl) (pe_go (go_exchanged_in T) (hr.mono (by decide)) (by rfl) (pa_cons (pv 0) (pa_cons (pe_ix ix_list (pv 2) pe_int (fun _ _ => rfl)) (pa_cons (pe_op op_add (pe_ix ix_list (pv 2) pe_int (fun _ _ => rfl)) pe_int) pa_nil)))))
 (pss_one (ps_set (i := 2) sc_word_of.nd rfl (.inl rfl) (pe_go (go_falls_in T) (hr.mono (by decide)) (by rfl) (pa_cons (pv 0) pa_nil)))))))
 (pss_one (ps_ret (pe_revL (pv 1))))))), ?_⟩
  -- found = [], left = falls_in(order)
  refine ⟨by show 0 ≤ sizeLine; decide, fun fo hfo => ?_⟩
  refine ⟨_, rfl, a, o, rfl, ha.mono (same_new hfo), h1, h9, fun H1 la s1 hla hl => ?_⟩
  have hfl : la ≠ fo := fun e => by
    rw [e, upd_same] at hla
    cases hla
  refine ⟨fun n σ H' => ∃ p o' g la, n = (inv o').length ∧ σ = [some (.ref p), some (.ref fo), some (.ref la)] ∧ Same H H' ∧ Tp H' p o' ∧ H' fo = some (.lst (g.map v1)) ∧ la ≠ fo ∧ H' la = some (.lst ((fls o').map v0)) ∧ Left o.length o o' g.reverse,
    ⟨_, a, o, [], la, rfl, rfl, (same_new hfo).trans s1, ha.mono ((same_new hfo).trans s1), s1 _ _ upd_same, hfl, hl, Left.start hp⟩, ?_⟩
  rintro n σ H2 ⟨p, o', g, la, rfl, rfl, s2, hp2, hg, hne, hl2, L⟩
  have hlen := L.len
  have hbd : g.length ≤ 36 := by
    have h1 := L.lev
    have h2 := inv_bound9 (o := o) h9
    rw [List.length_reverse] at h1
    omega
  refine ⟨_, rfl, by show 0 ≤ sizeLine; decide, fun e he => ?_⟩
  refine ⟨_, _, dp_v0 (same_new he _ _ hl2), .lst (.inl (.inl upd_same)) .nil, shaped_list _, shaped_list [], _, rfl, ?_⟩
  rw [eqv_nil]
  have s3 : Same H2 (upd H2 e (.lst [])) := same_new he
  cases hf : fls o' with
  | nil =>
    refine iteF ?_
    have hz : inv o' = [] := (fls_nil_iff o').mp hf
    obtain ⟨k1, k2, k3⟩ := L.fin hz
    refine ⟨_, rfl, fo, _, rfl, .inl (.inl (s3 _ _ hg)), fun r hr' => ?_⟩
    have s4 := (s2.trans s3).trans (same_new (o := .lst (g.map v1).reverse) hr')
    refine q g.reverse _ r ⟨k1, k2, by rw [k3]⟩ s4 ((s2.trans s3).free hr') ?_
    unfold Ls
    rw [upd_same, List.map_reverse]
  | cons k rest =>
    refine iteT ?_
    have hk : k ∈ fls o' := by
      rw [hf]
      exact List.mem_cons_self
    obtain ⟨hk1, hk2⟩ := mem_fls.mp hk
    have L2 := L.turn hk
    have hdn := level_down hk1 hk2
    have hl3 : (upd H2 e (.lst [])) la = some (.lst ((k :: rest).map v0)) := by
      rw [← hf]
      exact s3 _ _ hl2
    have hg3 := s3 _ _ hg
    refine ⟨fun σ' H' => ∃ p g la, σ' = [some (.ref p), some (.ref fo), some (.ref la)] ∧ Same H H' ∧ Tp H' p (swp o' k) ∧ H' fo = some (.lst (g.map v1)) ∧ la ≠ fo ∧ H' la = some (.lst ((fls (swp o' k)).map v0)) ∧ Left o.length o (swp o' k) g.reverse, fun σ' H' ⟨p, g, la, h1, h2, h3, h4, h5, h6, h7⟩ => ⟨_, by omega, p, swp o' k, g, la, rfl, h1, h2, h3, h4, h5, h6, h7⟩, ?_⟩
    -- found.append(left[0] + 1)
    refine ⟨_, rfl, .inl ⟨rfl, _, .inl (.inl hg3)⟩, _, rfl, la, _, _, _, rfl, rfl, .inl (.inl hl3), at_I0 (k := 0) (by simp) rfl, _, _, rfl, rfl, fo, _, _, rfl, rfl, hg3, small' (m := 40) (by rw [len_v1]; omega), ?_⟩
    have hg4 : upd (upd H2 e (.lst [])) fo (.lst (g.map v1 ++ [v1 k])) fo = some (.lst ((g ++ [k]).map v1)) := by
      rw [upd_same, List.map_append]
      rfl
    have s4 : Same H (upd (upd H2 e (.lst [])) fo (.lst (g.map v1 ++ [v1 k]))) := same_lst (s2.trans s3) hfo
    have hl4 : upd (upd H2 e (.lst [])) fo (.lst (g.map v1 ++ [v1 k])) la = some (.lst ((k :: rest).map v0)) := by
      rw [upd_ne hne]
      exact hl3
    -- order = exchanged_in(order, left[0], left[0] + 1)
    refine ⟨_, rfl, _, rfl, la, _, _, _, rfl, rfl, .inl (.inl hl4), at_I0 (k := 0) (by simp) rfl, _, rfl, la, _, _, _, rfl, rfl, .inl (.inl hl4), at_I0 (k := 0) (by simp) rfl, _, _, rfl, rfl, ?_⟩
    refine ⟨p, o', k, rfl, (hp2.mono s3).upd hg3, hk1, by omega, fun H5 r s5 hr5 => ?_⟩
    -- left = falls_in(order)
    refine ⟨_, rfl, r, swp o' k, rfl, hr5, by rw [swp_length]; omega, by rw [swp_length]; omega, fun H6 lb s6 hlb hl6 => ?_⟩
    refine ⟨r, g ++ [k], lb, rfl, (s4.trans s5).trans s6, hr5.mono s6, s6 _ _ (s5 _ _ hg4), fun e => ?_, hl6, ?_⟩
    · rw [e, s5 _ _ hg4] at hlb
      cases hlb
    · rw [List.reverse_append]
      exact L2
def sp_word_order : Sp := fun vs H Q _ => ∃ (a : Addr) (u : List Nat) (m : Nat), vs = [.ref a, .int m] ∧ Sq H a u ∧ IsWord m u ∧ 1 ≤ m ∧ m ≤ 9 ∧ ∀ H' p, Same H H' → Tp H' p (ordW m u) → Q (.ref p) H'
theorem go_word_order (T : Tx K mg) : Go P w K mg base 5 "word_order" ["word", "many"] sp_word_order := by
  refine go_mk 4 T.d_word_order sc_word_order (fun _ _ _ _ _ _ us hl => match us, hl with | [_, _], _ => rfl) (fun vs H Q E ⟨a, u, m, e, _⟩ => by rw [e]; rfl) fun f cdv A outer s H vs Q E hr h => ?_
  obtain ⟨a, u, m, rfl, ha, hu, h1, h9, q⟩ := h
  refine ⟨_, (pss_one (ps_ret (pe_go (go_order_by T) (hr.mono (by decide)) (by rfl) (pa_cons (pe_go (go_want_word T) (hr.mono (by decide)) (by rfl) (pa_cons (pv 0) (pa_cons (pv 1) pa_nil))) (pa_cons (pv 1) pa_nil))))), ?_⟩
  refine ⟨_, rfl, _, rfl, a, u, m, rfl, ha, hu, h1, h9, fun H1 p s1 _ hp => ?_⟩
  exact ⟨_, rfl, p, u, m, rfl, hp, hu.1, h9, fun H2 r s2 hr2 => q H2 r (s1.trans s2) hr2⟩
def sp_is_least : Sp := fun vs H Q _ => ∃ (a : Addr) (u : List Nat) (m : Nat), vs = [.ref a, .int m] ∧ Sq H a u ∧ IsWord m u ∧ 1 ≤ m ∧ m ≤ 9 ∧ ∀ H', Same H H' → Q (.bl (decide (u.length = (inv (ordW m u)).length))) H'
theorem go_is_least (T : Tx K mg) : Go P w K mg base 5 "is_least" ["word", "many"] sp_is_least := by
  refine go_mk 4 T.d_is_least sc_is_least (fun _ _ _ _ _ _ us hl => match us, hl with | [_, _], _ => rfl) (fun vs H Q E ⟨a, u, m, e, _⟩ => by rw [e]; rfl) fun f cdv A outer s H vs Q E hr h => ?_
  obtain ⟨a, u, m, rfl, ha, hu, h1, h9, q⟩ := h
  refine ⟨_, (pss_one (ps_ret (pe_go (go_is_least_in T) (hr.mono (by decide)) (by rfl) (pa_cons (pe_go (go_want_word T) (hr.mono (by decide)) (by rfl) (pa_cons (pv 0) (pa_cons (pv 1) pa_nil))) (pa_cons (pv 1) pa_nil))))), ?_⟩
  refine ⟨_, rfl, _, rfl, a, u, m, rfl, ha, hu, h1, h9, fun H1 p s1 _ hp => ?_⟩
  exact ⟨_, rfl, p, u, m, rfl, hp, hu.1, h9, fun H2 s2 => q H2 (s1.trans s2)⟩
def sp_a_word : Sp := fun vs H Q _ => ∃ a o, vs = [.ref a] ∧ Sq H a o ∧ IsOrd o ∧ ∀ u H' p, Least o u → Same H H' → H p = none → Ls H' p u → Q (.ref p) H'
theorem go_a_word (T : Tx K mg) : Go P w K mg base 5 "a_word" ["order"] sp_a_word := by
  refine go_mk 4 T.d_a_word sc_a_word (fun _ _ _ _ _ _ us hl => match us, hl with | [_], _ => rfl) (fun vs H Q E ⟨a, o, e, _⟩ => by rw [e]; rfl) fun f cdv A outer s H vs Q E hr h => ?_
  obtain ⟨a, o, rfl, ha, ho, q⟩ := h
  refine ⟨_, (pss_one (ps_ret (pe_go (go_word_of T) (hr.mono (by decide)) (by rfl) (pa_cons (pe_go (go_want_order T) (hr.mono (by decide)) (by rfl) (pa_cons (pv 0) pa_nil)) pa_nil)))), ?_⟩
  exact ⟨_, rfl, a, o, rfl, ha, ho, fun H1 p s1 hp => ⟨p, o, rfl, hp, ho, fun u H2 r hL s2 hr2 h2 => q u H2 r hL (s1.trans s2) (s1.free hr2) h2⟩⟩
/-! ### the same by keywords -/
theorem gok_word_order (T : Tx K mg) : GoK P w K mg base 5 "word_order" ["word", "many"] ["many", "word"] (fun zs => zs.reverse) sp_word_order :=
  gok_mk (fun l => l.reverse) T.d_word_order (go_word_order T) (fun r => r.reverse) fun _ _ _ _ _ _ ws hl => match ws, hl with | [_, _], _ => rfl
theorem gok_is_least (T : Tx K mg) : GoK P w K mg base 5 "is_least" ["word", "many"] ["many", "word"] (fun zs => zs.reverse) sp_is_least :=
  gok_mk (fun l => l.reverse) T.d_is_least (go_is_least T) (fun r => r.reverse) fun _ _ _ _ _ _ ws hl => match ws, hl with | [_, _], _ => rfl
theorem gok_a_word (T : Tx K mg) : GoK P w K mg base 5 "a_word" ["order"] ["order"] (fun zs => zs) sp_a_word :=
  gok_mk (fun l => l) T.d_a_word (go_a_word T) (fun r => r) fun _ _ _ _ _ _ ws hl => match ws, hl with | [_], _ => rfl
end
end K14
end

section
set_option maxHeartbeats 4000000
namespace K14
open PySem PySem.Spec PyProof.Rows L2
/-! ### the law's own defs -/
/-- all but what stands at p is as it was -/
def Keep (p : Addr) (H H' : Hp) : Prop := ∀ b o, b ≠ p → H b = some o → H' b = some o
theorem sameKeep {H H' : Hp} (s : Same H H') (p : Addr) : Keep p H H' := fun b o _ e => s b o e
theorem Keep.refl (p : Addr) (H : Hp) : Keep p H H := fun _ _ _ e => e
theorem Keep.trans {p : Addr} {H H1 H2 : Hp} (a : Keep p H H1) (b : Keep p H1 H2) : Keep p H H2 := fun c o n e => b c o n (a c o n e)
theorem Keep.upd {p : Addr} {H H1 : Hp} (k : Keep p H H1) (o : HO) : Keep p H (upd H1 p o) := fun b x n e => by
  rw [upd_ne n]
  exact k b x n e
/-- what is new may be written -/
theorem Keep.wr {p q : Addr} {H H1 : Hp} (k : Keep p H H1) (hq : H q = none) (o : HO) : Keep p H (L2.upd H1 q o) := fun b x n e => by
  rw [upd_ne (ne_of_none e hq)]
  exact k b x n e
theorem Keep.new {p q : Addr} {H : Hp} (hq : H q = none) (o : HO) : Keep p H (L2.upd H q o) := (Keep.refl p H).wr hq o
theorem Keep.free {p q : Addr} {H H' : Hp} (k : Keep p H H') (hp : ∃ o, H' p = some o) (hq : H' q = none) : H q = none := by
  cases e : H q with
  | none => rfl
  | some o =>
    by_cases h : q = p
    · obtain ⟨x, hx⟩ := hp
      rw [h, hx] at hq
      cases hq
    · rw [k q o h e] at hq
      cases hq
def Pot (H : Hp) (p : Addr) : Prop := ∃ a b : Int, H p = some (.lst [.int a, .int b]) ∧ 0 ≤ a ∧ 0 ≤ b ∧ b < 2147483648
theorem Pot.some {H : Hp} {p : Addr} (h : Pot H p) : ∃ o, H p = some o := let ⟨a, b, e, _⟩ := h; ⟨_, e⟩
theorem Pot.mono {H H' : Hp} {p : Addr} (s : Same H H') (h : Pot H p) : Pot H' p := let ⟨a, b, e, r⟩ := h; ⟨a, b, s _ _ e, r⟩
theorem Pot.wr {H : Hp} {p q : Addr} {o : HO} (h : Pot H p) (hn : q ≠ p) : Pot (upd H q o) p := by
  obtain ⟨a, b, e, r⟩ := h
  exact ⟨a, b, by rw [upd_ne (Ne.symm hn)]; exact e, r⟩
theorem Pot.ne {H : Hp} {p q : Addr} (h : Pot H p) (hq : H q = none) : q ≠ p := fun e => by
  obtain ⟨a, b, z, _⟩ := h
  rw [e, z] at hq
  cases hq
theorem Tp.keep {H H' : Hp} {p q : Addr} {o : List Nat} (k : Keep p H H') (hp : Pot H p) (h : Tp H q o) : Tp H' q o := by
  obtain ⟨ob, d, e⟩ := h
  obtain ⟨a, b, z, _⟩ := hp
  have hne : q ≠ p := ne_of e z (by intro w; cases w)
  exact ⟨ob, d, k q _ hne e⟩
theorem erase_map (f : Nat → V) : ∀ (l : List Nat) (i : Nat), (l.map f).eraseIdx i = (l.eraseIdx i).map f
  | [], i => by cases i <;> rfl
  | x :: r, 0 => rfl
  | x :: r, i + 1 => by
    show f x :: (r.map f).eraseIdx i = f x :: (r.eraseIdx i).map f
    rw [erase_map f r i]
theorem erase_perm : ∀ (l : List Nat) (i : Nat), i < l.length → (at0 l i :: l.eraseIdx i).Perm l
  | [], i, h => absurd h (by simp)
  | x :: r, 0, _ => .refl _
  | x :: r, i + 1, h => by
    have ih := erase_perm r i (by simpa using h)
    show (at0 r i :: x :: r.eraseIdx i).Perm (x :: r)
    exact (List.Perm.swap _ _ _).trans (ih.cons x)
theorem nz1 : (2147483549 : Int) ≠ 0 := by decide
theorem nz2 : (2147483477 : Int) ≠ 0 := by decide
theorem nz3 : (2147483587 : Int) ≠ 0 := by decide
theorem pb0 (z : Int) : 0 ≤ z.fmod 2147483477 + 1 := by
  have := Int.fmod_nonneg_of_pos z (show (0 : Int) < 2147483477 by decide)
  omega
theorem pb1 (z : Int) : z.fmod 2147483477 + 1 < 2147483648 := by
  have := Int.fmod_lt_of_pos z (show (0 : Int) < 2147483477 by decide)
  omega
theorem cm1 (x y : Int) : CMul (x.fmod 2147483549 + 67) y := by
  have h1 := Int.fmod_nonneg_of_pos x (show (0 : Int) < 2147483549 by decide)
  have h2 := Int.fmod_lt_of_pos x (show (0 : Int) < 2147483549 by decide)
  exact .inl ⟨by omega, by omega⟩
theorem cp1 {k : Nat} (hk : k ≤ 2) : CPow (2 * (k : Int) + 3) 3 := ⟨by decide, by decide, by omega⟩
theorem cp2 : CPow 10 18 := ⟨by decide, by decide, by decide⟩
theorem cm2 {b : Int} (h0 : 0 ≤ b) (h : b < 2147483648) (y : Int) : CMul b y := .inl ⟨by omega, by omega⟩
section
variable {P : Program} {w : World} {K : PySem.W.Frag} {mg : Str → Option Value} {base : Heap}
/- _law_pot: 0 _law_script, 1 _law_k, 2 _law_cell -/
abbrev N_L_pot : List Str := ["_law_script", "_law_k", "_law_cell"]
theorem sc_L_pot : FnScope N_L_pot ["_law_script", "_law_k"] (defScope s_L_pot) := ⟨rfl, rfl, rfl, by decide +kernel, rfl, by decide +kernel, by decide +kernel⟩
/- _law_draw: 0 _law_pot_here, 1 _law_size, 2 _law_digit -/
abbrev N_L_draw : List Str := ["_law_pot_here", "_law_size", "_law_digit"]
theorem sc_L_draw : FnScope N_L_draw ["_law_pot_here", "_law_size"] (defScope s_L_draw) := ⟨rfl, rfl, rfl, by decide +kernel, rfl, by decide +kernel, by decide +kernel⟩
/- _law_pick: 0 _law_pot_here, 1 _law_some -/
abbrev N_L_pick : List Str := ["_law_pot_here", "_law_some"]
theorem sc_L_pick : FnScope N_L_pick ["_law_pot_here", "_law_some"] (defScope s_L_pick) := ⟨rfl, rfl, rfl, by decide +kernel, rfl, by decide +kernel, by decide +kernel⟩

def sp_pot (K : PySem.W.Frag) : Sp := fun vs H Q _ => ∃ (a : Addr) (ns : List Int) (k : Nat), vs = [.ref a, .int k] ∧ SqL K H a (ns.map V.int) ∧ ns.length ≤ 63 ∧ k ≤ 2 ∧ ∀ H' p, Same H H' → H p = none → Pot H' p → Q (.ref p) H'
theorem go_L_pot (T : Tx K mg) : Go P w K mg base 1 "_law_pot" ["_law_script", "_law_k"] (sp_pot K) := by
  refine go_mk 0 T.d_L_pot sc_L_pot (fun _ _ _ _ _ _ us hl => match us, hl with | [_, _], _ => rfl) (fun vs H Q E ⟨a, ns, k, e, _⟩ => by rw [e]; rfl) fun f cdv A outer s H vs Q E hr h => ?_
  obtain ⟨a, ns, k, rfl, ha, hl, hk, q⟩ := h
  refine ⟨_, (pss_cons (ps_set (i := 2) sc_L_pot.nd rfl (.inl rfl) (pe_op op_add (pe_op op_mul pe_int (pv 1)) pe_int))
 (pss_cons (ps_if (pt_cmpR op_lt (pv 1) (pe_callB call_len_seq (by rfl) T.b_len PySem.boot_len (pa_cons (pv 0) pa_nil)) (nomark _))
 (pss_one (ps_set (i := 2) sc_L_pot.nd rfl (.inl rfl) (pe_callB call_abs (by rfl) T.b_abs (by decide +kernel) (pa_cons (pe_ix ix_list (pv 0) (pv 1) (fun _ _ => rfl)) pa_nil)))) pss_nil)
 (pss_one (ps_ret (pe_lst (pa_cons (pe_callB (call_max2 rfl) (by rfl) T.b_max (by decide +kernel) (pa_cons pe_int (pa_cons (pe_op op_sub (pv 2) (pe_op op_pow pe_int pe_int)) pa_nil))) (pa_cons (pe_op op_add (pe_op op_modN (pe_op op_mul (pe_callTy call_int1 (by rfl) T.b_int (by decide +kernel) (pa_cons (pe_op op_add (pe_op op_modN (pe_callTy call_int1 (by rfl) T.b_int (by decide +kernel) (pa_cons (pv 2) pa_nil)) pe_int) pe_int) pa_nil)) (pe_op op_pow (pe_op op_add (pe_op op_mul pe_int (pv 1)) pe_int) pe_int)) pe_int) pe_int) pa_nil))))))), ?_⟩
  refine ⟨_, rfl, _, _, rfl, rfl, .inl ⟨by decide, by decide⟩, _, _, rfl, rfl, ?_⟩
  refine ⟨_, rfl, _, rfl, a, _, rfl, .inl ha, _, _, rfl, rfl, _, rfl, ite2 (fun h => ?_) (fun h => ?_)⟩
  case' refine_1 =>
    have hk2 : k < ns.length := by
      rw [List.length_map] at h
      have := of_decide_eq_true h
      omega
    refine ⟨_, rfl, _, rfl, a, _, _, _, rfl, rfl, ha, atI_nat (j := k) (v := .int ns[k]) (by rw [List.getElem?_map, List.getElem?_eq_getElem hk2]; rfl), _, rfl, ?_⟩
  all_goals
    refine ⟨_, rfl, _, _, rfl, rfl, cp2, _, _, rfl, rfl, _, _, rfl, ?_⟩
    refine ⟨_, rfl, .inl ⟨_, rfl, _, _, rfl, rfl, nz1, _, _, rfl, rfl, .inl ⟨_, rfl, ?_⟩⟩⟩
    refine ⟨_, rfl, _, _, rfl, rfl, .inl ⟨by decide, by decide⟩, _, _, rfl, rfl, _, _, rfl, rfl, cp1 hk, _, _, rfl, rfl, cm1 _ _, _, _, rfl, rfl, nz2, _, _, rfl, rfl, by show 2 ≤ sizeLine; decide, fun p hp => ?_⟩
    refine q _ p (same_new hp) hp ⟨_, _, upd_same, ?_, ?_, ?_⟩
    · split <;> omega
    · exact pb0 _
    · exact pb1 _
def sp_draw : Sp := fun vs H Q _ => ∃ (p : Addr) (n : Nat), vs = [.ref p, .int n] ∧ Pot H p ∧ 1 ≤ n ∧ n ≤ 1000 ∧ ∀ (d : Nat) H', d < n → Keep p H H' → Pot H' p → Q (.int d) H'
theorem go_L_draw (T : Tx K mg) : Go P w K mg base 1 "_law_draw" ["_law_pot_here", "_law_size"] sp_draw := by
  refine go_mk 0 T.d_L_draw sc_L_draw (fun _ _ _ _ _ _ us hl => match us, hl with | [_, _], _ => rfl) (fun vs H Q E ⟨p, n, e, _⟩ => by rw [e]; rfl) fun f cdv A outer s H vs Q E hr h => ?_
  obtain ⟨p, n, rfl, ⟨a, b, hp, ha, hb, hb2⟩, h1, hn, q⟩ := h
  have hs : SqL K H p [.int a, .int b] := .inl (.inl hp)
  refine ⟨_, (pss_cons (ps_if (pt_cmpR op_gt (pe_ix ix_list (pv 0) pe_int (fun _ _ => rfl)) pe_int (nomark _))
 (pss_cons (ps_asg (pe_callB call_divmod (by rfl) T.b_divmod (by decide +kernel) (pa_cons (pe_ix ix_list (pv 0) pe_int (fun _ _ => rfl)) (pa_cons (pv 1) pa_nil))) (pg_tup (by rfl) (pgs_cons (pg_sub (pv 0) pe_int set_list) (pgs_cons (pg_name (i := 2) sc_L_draw.nd rfl (.inl rfl)) pgs_nil))))
 (pss_one (ps_ret (pv 2)))) pss_nil)
 (pss_cons (ps_asg (pe_op op_modN (pe_callTy call_int1 (by rfl) T.b_int (by decide +kernel) (pa_cons (pe_op op_add (pe_op op_mul (pe_ix ix_list (pv 0) pe_int (fun _ _ => rfl)) pe_int) pe_int) pa_nil)) pe_int) (pg_sub (pv 0) pe_int set_list))
 (pss_one (ps_ret (pe_op op_modN (pe_callTy call_int1 (by rfl) T.b_int (by decide +kernel) (pa_cons (pe_op op_fdiv (pe_op op_modN (pe_callTy call_int1 (by rfl) T.b_int (by decide +kernel) (pa_cons (pe_op op_mul (pe_ix ix_list (pv 0) pe_int (fun _ _ => rfl)) (pe_ix ix_list (pv 0) pe_int (fun _ _ => rfl))) pa_nil)) pe_int) pe_int) pa_nil)) (pv 1)))))), ?_⟩
  refine ⟨_, rfl, p, _, 0, _, rfl, rfl, hs, atI_nat (j := 0) rfl, _, _, rfl, rfl, _, rfl, ite2 (fun h => ?_) (fun h => ?_)⟩
  · -- its digits
    refine ⟨_, rfl, p, _, 0, _, rfl, rfl, hs, atI_nat (j := 0) rfl, _, rfl, _, _, rfl, ⟨by omega, by omega⟩, fun t ht => ?_⟩
    have e1 := same_new (o := .tup [.int (a / n), .int (a % n)]) ht _ _ hp
    refine ⟨t, _, rfl, .inl (.inl upd_same), rfl, _, _, rfl, _, rfl, p, _, 0, 0, rfl, rfl, e1, ix_I (k := 0) (by show 0 < 2; decide) rfl, _, _, rfl, rfl, ?_⟩
    refine ⟨_, rfl, ?_⟩
    have hd0 : 0 ≤ a % (n : Int) := Int.emod_nonneg _ (by omega)
    have hd1 : a % (n : Int) < (n : Int) := Int.emod_lt_of_pos _ (by omega)
    have hq := q (a % (n : Int)).toNat (upd (upd H t (.tup [.int (a / n), .int (a % n)])) p (.lst [.int (a / n), .int b])) (by omega) ((Keep.new ht _).upd _) ⟨_, b, upd_same, Int.ediv_nonneg ha (by omega), hb, hb2⟩
    rw [Int.toNat_of_nonneg hd0] at hq
    exact hq
  · -- mixed numbers
    refine ⟨_, rfl, p, _, 1, _, rfl, rfl, hs, atI_nat (j := 1) rfl, _, _, rfl, rfl, cm2 hb hb2 _, _, _, rfl, rfl, .inl ⟨_, rfl, _, _, rfl, rfl, nz3, ?_⟩⟩
    refine ⟨_, rfl, p, _, 1, 1, rfl, rfl, hp, ix_I (k := 1) (by show 1 < 2; decide) rfl, ?_⟩
    have g0 := Int.fmod_nonneg_of_pos (b * 48271 + 15398) (show (0 : Int) < 2147483587 by decide)
    have g1 := Int.fmod_lt_of_pos (b * 48271 + 15398) (show (0 : Int) < 2147483587 by decide)
    have hs2 : SqL K (upd H p (.lst [.int a, .int ((b * 48271 + 15398).fmod 2147483587)])) p [.int a, .int ((b * 48271 + 15398).fmod 2147483587)] := .inl (.inl upd_same)
    refine ⟨_, rfl, p, _, 1, _, rfl, rfl, hs2, atI_nat (j := 1) rfl, _, rfl, p, _, 1, _, rfl, rfl, hs2, atI_nat (j := 1) rfl, _, _, rfl, rfl, cm2 g0 (by omega) _, .inl ⟨_, rfl, _, _, rfl, rfl, nz1, ?_⟩⟩
    refine ⟨_, _, rfl, rfl, ⟨by decide, by decide⟩, .inl ⟨_, rfl, _, rfl, _, _, rfl, rfl, by omega, ?_⟩⟩
    generalize ((b * 48271 + 15398).fmod 2147483587 * (b * 48271 + 15398).fmod 2147483587).fmod 2147483549 / 13 = z
    have hd0 := Int.fmod_nonneg_of_pos z (show (0 : Int) < (n : Int) by omega)
    have hd1 := Int.fmod_lt_of_pos z (show (0 : Int) < (n : Int) by omega)
    have hq := q (z.fmod (n : Int)).toNat _ (by omega) ((Keep.refl p H).upd (.lst [.int a, .int ((b * 48271 + 15398).fmod 2147483587)])) ⟨a, _, upd_same, ha, g0, by omega⟩
    rw [Int.toNat_of_nonneg hd0] at hq
    exact hq
def sp_pick : Sp := fun vs H Q _ => ∃ (p l : Addr) (xs : List V), vs = [.ref p, .ref l] ∧ Pot H p ∧ l ≠ p ∧ H l = some (.lst xs) ∧ 1 ≤ xs.length ∧ xs.length ≤ 1000 ∧ ∀ x H', x ∈ xs → Keep p H H' → Pot H' p → Q x H'
theorem go_L_pick (T : Tx K mg) : Go P w K mg base 2 "_law_pick" ["_law_pot_here", "_law_some"] sp_pick := by
  refine go_mk 1 T.d_L_pick sc_L_pick (fun _ _ _ _ _ _ us hl => match us, hl with | [_, _], _ => rfl) (fun vs H Q E ⟨p, l, xs, e, _⟩ => by rw [e]; rfl) fun f cdv A outer s H vs Q E hr h => ?_
  obtain ⟨p, l, xs, rfl, hp, hne, hl, h1, hn, q⟩ := h
  refine ⟨_, (pss_one (ps_ret (pe_ix ix_list (pv 1) (pe_go (go_L_draw T) (hr.mono (by decide)) (by rfl) (pa_cons (pv 0) (pa_cons (pe_callB call_len_seq (by rfl) T.b_len PySem.boot_len (pa_cons (pv 1) pa_nil)) pa_nil))) (fun _ _ => rfl)))), ?_⟩
  refine ⟨_, rfl, _, rfl, _, rfl, l, xs, rfl, .inl (.inl (.inl hl)), p, xs.length, rfl, hp, h1, hn, fun d H' hd kp hp' => ?_⟩
  exact ⟨l, xs, _, xs[d], rfl, rfl, .inl (.inl (kp _ _ hne hl)), atI_nat (List.getElem?_eq_getElem hd), q _ H' (List.getElem_mem hd) kp hp'⟩
end
end K14
end

section
set_option maxHeartbeats 4000000
namespace K14
open PySem PySem.Spec PyProof.Rows L2
theorem Sq.keep {H H' : Hp} {p q : Addr} {o : List Nat} (k : Keep p H H') (hp : Pot H p) (hn : q ≠ p) (h : Sq H q o) : Sq H' q o := h.elim (fun z => .inl (k _ _ hn z)) fun z => .inr (Tp.keep k hp z)
theorem Keep.same {p : Addr} {H0 H H' : Hp} (k : Keep p H0 H) (s : Same H H') : Keep p H0 H' := k.trans (sameKeep s p)
theorem small_rg {m : Nat} (h : m ≤ 9) : RgOk 1 ((m : Int) + 1) := RgOk.of_le (by omega) (by omega) (by omega) (by omega)
/-! ### pairs that are lists -/
theorem PLs.snoc {H : Hp} {x : V} {p : NP} (h : ∃ t, x = V.ref t ∧ H t = some (.lst ((pI p).map V.int))) : ∀ {xs : List V} {ps : List NP}, PLs H xs ps → PLs H (xs ++ [x]) (ps ++ [p])
  | _, _, .nil => .cons h .nil
  | _, _, .cons a r => .cons a (PLs.snoc h r)
/-- the list that holds them may be written: it is none of them -/
theorem PLs.wr {H : Hp} {D : Addr} {acc : List V} {o : HO} (hD : H D = some (.lst acc)) (hr : ∀ x ∈ acc, ∃ t, x = V.ref t) : ∀ {xs : List V} {ps : List NP}, PLs H xs ps → PLs (upd H D o) xs ps
  | _, _, .nil => .nil
  | _, _, .cons (b := p) ⟨t, e, ht⟩ r => by
    have hne : t ≠ D := fun z => by
      rw [z, hD] at ht
      have e2 : acc = (pI p).map V.int := by
        injection ht with ht
        injection ht
      obtain ⟨u, hu⟩ := hr (.int ((p.1 : Int) + 1)) (by rw [e2]; exact List.mem_cons_self)
      cases hu
    exact .cons ⟨t, e, by rw [upd_ne hne]; exact ht⟩ (PLs.wr hD hr r)
theorem PLs.refs {H : Hp} : ∀ {xs : List V} {ps : List NP}, PLs H xs ps → ∀ x ∈ xs, ∃ t, x = V.ref t
  | _, _, .nil, x, h => absurd h (by simp)
  | _, _, .cons ⟨t, e, _⟩ r, x, h => by
    rcases List.mem_cons.mp h with z | h
    · exact ⟨t, z.trans e⟩
    · exact PLs.refs r x h
theorem sorted2 {a b : Nat} {ns : List Int} (hp : ns.Perm [(a : Int) + 1, (b : Int) + 1]) (hs : ns.Pairwise (· ≤ ·)) : ns = pI (srt2 a b) := by
  refine eq_of_sorted_perm (fun _ _ h1 h2 => Int.le_antisymm h1 h2) ?_ hs ?_
  · refine hp.trans ?_
    unfold srt2 pI
    by_cases h : b < a
    · rw [if_pos h]
      exact .swap _ _ _
    · rw [if_neg h]
  · unfold srt2 pI
    by_cases h : b < a
    · rw [if_pos h]
      exact List.pairwise_pair.mpr (by show (b : Int) + 1 ≤ (a : Int) + 1; omega)
    · rw [if_neg h]
      exact List.pairwise_pair.mpr (by show (a : Int) + 1 ≤ (b : Int) + 1; omega)
theorem prsF_snoc : ∀ (u o : List Nat) (k : Nat), prsF o (u ++ [k]) = prsF o u ++ [srt2 (at0 (ordF o u) k) (at0 (ordF o u) (k + 1))]
  | [], o, k => rfl
  | j :: u, o, k => by
    show srt2 _ _ :: prsF (swp o j) (u ++ [k]) = srt2 _ _ :: (prsF (swp o j) u ++ _)
    rw [prsF_snoc u (swp o j) k]
    rfl
/-! ### pairs of places as data -/
def dW (ps : List NP) : List PyData := ps.map fun p => .tuple [.int (p.1 : Int), .int (p.2 : Int)]
theorem WPs.dp {K : PySem.W.Frag} {H : Hp} : ∀ {xs : List V} {ps : List NP}, WPs H xs ps → DpAll K H xs (dW ps)
  | _, _, .nil => .nil
  | _, _, .cons ⟨t, e, ht⟩ r => by
    subst e
    exact .cons (.tup (.inl (.inl ht)) (.cons (.int _) (.cons (.int _) .nil))) (WPs.dp r)
theorem lay_dW : ∀ ps : List NP, PyData.canLayAll0 (dW ps) = true
  | [] => by simp [dW, PyData.canLayAll0]
  | p :: ps => by
    have := lay_dW ps
    unfold dW at this ⊢
    simp [PyData.canLayAll0, PyData.canLay0, this]
theorem depth_dW : ∀ ps : List NP, PyData.depthAll (dW ps) ≤ 1
  | [] => by simp [dW, PyData.depthAll]
  | p :: ps => by
    have := depth_dW ps
    unfold dW at this ⊢
    simp only [List.map_cons, PyData.depthAll, PyData.depth]
    omega
theorem shaped_dW (ps : List NP) : SeqAt.shaped (.list (dW ps)) = true := by
  show (PyData.canLay0 (.list (dW ps)) && decide (PyData.depth (.list (dW ps)) ≤ 64)) = true
  rw [Bool.and_eq_true]
  refine ⟨by simp only [PyData.canLay0]; exact lay_dW ps, decide_eq_true ?_⟩
  have := depth_dW ps
  simp only [PyData.depth]
  omega
section
variable {P : Program} {w : World} {K : PySem.W.Frag} {mg : Str → Option Value} {base : Heap}
/- _law_order: 0 _law_pot_here, 1 _law_many, 2 _law_left, 3 _law_found, 4 _law_turn -/
abbrev N_L_order : List Str := ["_law_pot_here", "_law_many", "_law_left", "_law_found", "_law_turn"]
theorem sc_L_order : FnScope N_L_order ["_law_pot_here", "_law_many"] (defScope s_L_order) := ⟨rfl, rfl, rfl, by decide +kernel, rfl, by decide +kernel, by decide +kernel⟩
/- _law_passed: 0 _law_pot_here, 1 _law_order_here -/
abbrev N_L_passed : List Str := ["_law_pot_here", "_law_order_here"]
theorem sc_L_passed : FnScope N_L_passed ["_law_pot_here", "_law_order_here"] (defScope s_L_passed) := ⟨rfl, rfl, rfl, by decide +kernel, rfl, by decide +kernel, by decide +kernel⟩
/- _law_wrong: 0 _law_order_here, 1 _law_found, 2 _law_near, 3 _law_far -/
abbrev N_L_wrong : List Str := ["_law_order_here", "_law_found", "_law_near", "_law_far"]
theorem sc_L_wrong : FnScope N_L_wrong ["_law_order_here"] (defScope s_L_wrong) := ⟨rfl, rfl, rfl, by decide +kernel, rfl, by decide +kernel, by decide +kernel⟩
/- _law_exchanged: 0 _law_order_here, 1 _law_near, 2 _law_far, 3 _law_found -/
abbrev N_L_exchanged : List Str := ["_law_order_here", "_law_near", "_law_far", "_law_found"]
theorem sc_L_exchanged : FnScope N_L_exchanged ["_law_order_here", "_law_near", "_law_far"] (defScope s_L_exchanged) := ⟨rfl, rfl, rfl, by decide +kernel, rfl, by decide +kernel, by decide +kernel⟩
/- _law_word_order: 0 _law_word_here, 1 _law_many, 2 _law_order_here, 3 _law_pairs, 4 _law_letter -/
abbrev N_L_word_order : List Str := ["_law_word_here", "_law_many", "_law_order_here", "_law_pairs", "_law_letter"]
theorem sc_L_word_order : FnScope N_L_word_order ["_law_word_here", "_law_many"] (defScope s_L_word_order) := ⟨rfl, rfl, rfl, by decide +kernel, rfl, by decide +kernel, by decide +kernel⟩
/- _law_word: 0 _law_pot_here, 1 _law_many, 2 _law_most, 3 _law_turn -/
abbrev N_L_word : List Str := ["_law_pot_here", "_law_many", "_law_most", "_law_turn"]
theorem sc_L_word : FnScope N_L_word ["_law_pot_here", "_law_many", "_law_most"] (defScope s_L_word) := ⟨rfl, rfl, rfl, by decide +kernel, rfl, by decide +kernel, by decide +kernel⟩
/- _law_least_word: 0 _law_pot_here, 1 _law_order_here, 2 _law_found, 3 _law_at -/
abbrev N_L_least_word : List Str := ["_law_pot_here", "_law_order_here", "_law_found", "_law_at"]
theorem sc_L_least_word : FnScope N_L_least_word ["_law_pot_here", "_law_order_here"] (defScope s_L_least_word) := ⟨rfl, rfl, rfl, by decide +kernel, rfl, by decide +kernel, by decide +kernel⟩

def sp_L_order : Sp := fun vs H Q _ => ∃ (p : Addr) (m : Nat), vs = [.ref p, .int m] ∧ Pot H p ∧ 1 ≤ m ∧ m ≤ 9 ∧ ∀ o H' q, o.Perm (List.range m) → Keep p H H' → Pot H' p → Tp H' q o → Q (.ref q) H'
theorem go_L_order (T : Tx K mg) : Go P w K mg base 2 "_law_order" ["_law_pot_here", "_law_many"] sp_L_order := by
  refine go_mk 1 T.d_L_order sc_L_order (fun _ _ _ _ _ _ us hl => match us, hl with | [_, _], _ => rfl) (fun vs H Q E ⟨p, m, e, _⟩ => by rw [e]; rfl) fun f cdv A outer s H vs Q E hr h => ?_
  obtain ⟨p, m, rfl, hp, h1, h9, q⟩ := h
  refine ⟨_, (pss_cons (ps_par (i := 2) (j := 3) (by rfl) sc_L_order.nd rfl rfl (by decide) rfl rfl (pa_cons (pe_listRg rfl (by rfl) T.b_list (prg_2 (by rfl) T.b_range pe_int (pe_op op_add (pv 1) pe_int))) (pa_cons (pe_lst pa_nil) pa_nil)) (by rfl))
 (pss_cons (ps_for PassesOwn.never rfl (pi_range1 (by rfl) T.b_range (pa_cons (pv 1) pa_nil)) (pg_name (i := 4) sc_L_order.nd rfl (.inl rfl))
 (pss_one (ps_expr (pe_bm PySem.F.plainAttrs_list PySem.F.slot_list_append PySem.F.type_list_append mt_append (pv 3) (pa_cons (pe_bm PySem.F.plainAttrs_list PySem.F.slot_list_pop PySem.F.type_list_pop mt_popAt (pv 2) (pa_cons (pe_go (go_L_draw T) (hr.mono (by decide)) (by rfl) (pa_cons (pv 0) (pa_cons (pe_callB call_len_seq (by rfl) T.b_len PySem.boot_len (pa_cons (pv 2) pa_nil)) pa_nil))) pa_nil)) pa_nil)))))
 (pss_one (ps_ret (pe_callTy call_tupK (by rfl) T.b_tuple (by decide +kernel) (pa_cons (pv 3) pa_nil)))))), ?_⟩
  refine ⟨_, rfl, _, _, rfl, rfl, _, _, rfl, rfl, small_rg h9, fun ll hll => ?_⟩
  rw [rg_v1]
  refine ⟨by show 0 ≤ sizeLine; decide, fun fo hfo => ⟨_, _, rfl, ?_⟩⟩
  have n1 : ll ≠ p := hp.ne hll
  have hfo0 : H fo = none := (same_new hll).free hfo
  have n2 : fo ≠ p := hp.ne hfo0
  have n3 : ll ≠ fo := ne_of_none upd_same hfo
  refine ⟨_, rfl, _, rfl, by omega, by omega, for_range (n := (m : Int).toNat) (fun i σ H' => ∃ ys zs t, σ = [some (.ref p), some (.int m), some (.ref ll), some (.ref fo), t] ∧ Keep p H H' ∧ Pot H' p ∧ H' ll = some (.lst (ys.map v1)) ∧ H' fo = some (.lst (zs.map v1)) ∧ (ys ++ zs).Perm (List.range m) ∧ ys.length + i = m) ⟨List.range m, [], none, rfl, ?_, ?_, ?_, upd_same, by simp, by simp⟩ (fun i σ H' hi hP => ?_) fun σ H' hP => ?_⟩
  · exact (Keep.new hll _).wr hfo0 _
  · exact (hp.wr n1).wr n2
  · rw [upd_ne n3, upd_same]
  · obtain ⟨ys, zs, t, rfl, kp, hp', hl, hf, hperm, hlen⟩ := hP
    have hml : m = (List.range m).length := by simp
    have hzl : zs.length ≤ 9 := by
      have := hperm.length_eq
      rw [List.length_append, List.length_range] at this
      omega
    have hy1 : 1 ≤ ys.length := by omega
    refine ⟨_, rfl, .inl ⟨rfl, _, .inl (.inl hf)⟩, ?_⟩
    refine ⟨_, rfl, .inl ⟨rfl, _, .inl (.inl hl)⟩, ?_⟩
    refine ⟨_, rfl, _, rfl, ll, ys.map v1, rfl, .inl (.inl (.inl hl)), p, (ys.map v1).length, rfl, hp', by rw [len_v1]; exact hy1, by rw [len_v1]; omega, fun d H2 hd kp2 hp2 => ?_⟩
    rw [len_v1] at hd
    have hl2 := kp2 _ _ n1 hl
    have hf2 := kp2 _ _ n2 hf
    have hix := (ixN_seq (ix_I (n := (ys.map v1).length) (k := d) (i := (d : Int)) (by rw [len_v1]; exact hd) rfl)).1
    refine ⟨ll, _, _, d, v1 (at0 ys d), rfl, rfl, hl2, by omega, by omega, hix, at_v1 hd, ?_⟩
    rw [erase_map]
    refine ⟨fo, _, _, rfl, rfl, by rw [upd_ne (Ne.symm n3)]; exact hf2, small' (m := 9) (by rw [len_v1]; exact hzl), ?_⟩
    refine ⟨ys.eraseIdx d, zs ++ [at0 ys d], _, rfl, ((kp.trans kp2).wr hll _).wr hfo0 _, (hp2.wr n1).wr n2, ?_, ?_, ?_, ?_⟩
    · rw [upd_ne n3, upd_same]
    · rw [upd_same, List.map_append]
      rfl
    · refine List.Perm.trans ?_ hperm
      have e1 := erase_perm ys d hd
      refine List.Perm.trans ?_ (List.Perm.append_right zs e1)
      rw [← List.append_assoc]
      exact (List.perm_append_singleton _ _)
    · rw [List.length_eraseIdx_of_lt hd]
      omega
  · obtain ⟨ys, zs, t, rfl, kp, hp', hl, hf, hperm, hlen⟩ := hP
    have hy : ys = [] := List.length_eq_zero_iff.mp (by omega)
    subst hy
    refine ⟨_, rfl, fo, zs.map v1, rfl, .inl ⟨.inl (.inl hf), fun r ob hr' hd => q zs _ r ?_ (kp.same (same_new hr')) (hp'.mono (same_new hr')) (Known.new hd)⟩⟩
    simpa using hperm
def sp_passed : Sp := fun vs H Q _ => ∃ (p a : Addr) (o : List Nat), vs = [.ref p, .ref a] ∧ Pot H p ∧ a ≠ p ∧ Sq H a o ∧ ∀ H' q, Keep p H H' → Pot H' p → q ≠ p → Sq H' q o → Q (.ref q) H'
theorem go_L_passed (T : Tx K mg) : Go P w K mg base 2 "_law_passed" ["_law_pot_here", "_law_order_here"] sp_passed := by
  refine go_mk 1 T.d_L_passed sc_L_passed (fun _ _ _ _ _ _ us hl => match us, hl with | [_, _], _ => rfl) (fun vs H Q E ⟨p, a, o, e, _⟩ => by rw [e]; rfl) fun f cdv A outer s H vs Q E hr h => ?_
  obtain ⟨p, a, o, rfl, hp, hne, ha, q⟩ := h
  refine ⟨_, (pss_one (ps_ret (pe_ifExp (pt_cmpR op_eq (pe_go (go_L_draw T) (hr.mono (by decide)) (by rfl) (pa_cons (pv 0) (pa_cons pe_int pa_nil))) pe_int (nomark _)) (pe_callTy call_list_of (by rfl) T.b_list (by decide +kernel) (pa_cons (pv 1) pa_nil)) (pe_callTy call_tupK (by rfl) T.b_tuple (by decide +kernel) (pa_cons (pv 1) pa_nil))))), ?_⟩
  refine ⟨_, rfl, p, 2, rfl, hp, by decide, by decide, fun d H1 hd kp hp1 => ⟨rfl, _, rfl, ite2 (fun h => ?_) (fun h => ?_)⟩⟩
  · have ha1 := ha.keep kp hp hne
    exact ⟨_, rfl, a, _, rfl, ha1.len, fun l hl => q _ l (kp.same (same_new hl)) (hp1.mono (same_new hl)) (hp1.ne hl) (.inl upd_same)⟩
  · refine ⟨_, rfl, a, o.map v1, rfl, ?_⟩
    rcases ha.keep kp hp hne with z | z
    · exact .inl ⟨Ls.sq z, fun l ob hl hd => q _ l (kp.same (same_new hl)) (hp1.mono (same_new hl)) (hp1.ne hl) (.inr (Known.new hd))⟩
    · exact .inr ⟨Tp.sq z, q _ a kp hp1 hne (.inr z)⟩
end
end K14
end

section
set_option maxHeartbeats 4000000
namespace K14
open PySem PySem.Spec PyProof.Rows L2
theorem pairedApp {α β : Type} {F : α → β → Prop} : ∀ {l₁ l₂ : List α} {r₁ r₂ : List β}, Paired F l₁ r₁ → Paired F l₂ r₂ → Paired F (l₁ ++ l₂) (r₁ ++ r₂)
  | _, _, _, _, .nil, h => h
  | _, _, _, _, .cons a r, h => .cons a (pairedApp r h)
section
variable {P : Program} {w : World} {K : PySem.W.Frag} {mg : Str → Option Value} {base : Heap}
def sp_L_wrong : Sp := fun vs H Q _ => ∃ a o, vs = [.ref a] ∧ Tp H a o ∧ o.length ≤ 9 ∧ ∀ H' p xs, Same H H' → H p = none → H' p = some (.lst xs) → WPs H' xs (wps o) → Q (.ref p) H'
theorem go_L_wrong (T : Tx K mg) : Go P w K mg base 1 "_law_wrong" ["_law_order_here"] sp_L_wrong := by
  refine go_mk 0 T.d_L_wrong sc_L_wrong (fun _ _ _ _ _ _ us hl => match us, hl with | [_], _ => rfl) (fun vs H Q E ⟨i, o, e, _⟩ => by rw [e]; rfl) fun f cdv A outer s H vs Q E hr h => ?_
  obtain ⟨a, o, rfl, ha, h9, q⟩ := h
  refine ⟨_, (pss_cons (ps_set (i := 1) sc_L_wrong.nd rfl (.inl rfl) (pe_lst pa_nil))
 (pss_cons (ps_for PassesOwn.never rfl (pi_range1 (by rfl) T.b_range (pa_cons (pe_callB call_len_seq (by rfl) T.b_len PySem.boot_len (pa_cons (pv 0) pa_nil)) pa_nil)) (pg_name (i := 2) sc_L_wrong.nd rfl (.inr rfl))
 (pss_one (ps_expr (pe_bm PySem.F.plainAttrs_list PySem.F.slot_list_extend PySem.F.type_list_extend mt_extend (pv 1) (pa_cons (pe_lc (own := [("_law_far", 3)]) (g := gName 3) (by rfl) sc_L_wrong.nd (pi_range2 (by rfl) T.b_range (pa_cons (pe_op op_add (pv 2) pe_int) (pa_cons (pe_callB call_len_seq (by rfl) T.b_len PySem.boot_len (pa_cons (pv 0) pa_nil)) pa_nil))) (blkOk_by (own := [("_law_far", 3)]) (N := N_L_wrong) (sc := (defScope s_L_wrong)) (by decide +kernel)) (fun _ _ _ _ _ => pg_name (i := 3) sc_L_wrong.nd rfl (.inl rfl)) (fun _ _ _ _ _ => pts_one (pt_cmpR op_gt (pe_ix (ix_tupK K) (pv 0) (pv 2) (fun _ _ => rfl)) (pe_ix (ix_tupK K) (pv 0) (pv 3) (fun _ _ => rfl)) (nomark _))) (fun _ _ _ _ _ => (pe_tup (pa_cons (pv 2) (pa_cons (pv 3) pa_nil))))) pa_nil)))))
 (pss_one (ps_ret (pv 1))))), ?_⟩
  refine ⟨by show 0 ≤ sizeLine; decide, fun fo hfo => ?_⟩
  have s0 : Same H (upd H fo (.lst [])) := same_new hfo
  refine ⟨_, rfl, a, _, rfl, .inr (Tp.sq (ha.mono s0)), ?_⟩
  rw [len_v1]
  refine ⟨_, rfl, by omega, by omega, for_range (n := ((o.length : Nat) : Int).toNat) (fun i σ H' => ∃ xs t, σ = [some (.ref a), some (.ref fo), t, none] ∧ Same H H' ∧ H' fo = some (.lst xs) ∧ WPs H' xs (wpI o i) ∧ xs.length ≤ 9 * i) ⟨[], none, rfl, s0, upd_same, .nil, Nat.zero_le _⟩ (fun i σ H1 hi hP => ?_) fun σ H1 hP => ?_⟩
  · obtain ⟨xs, t, rfl, s1, hx, hw, hl⟩ := hP
    have hi' : i < o.length := by omega
    refine ⟨_, rfl, .inl ⟨rfl, _, .inl (.inl hx)⟩, ?_⟩
    refine ⟨_, rfl, _, _, rfl, rfl, _, rfl, a, _, rfl, .inr (Tp.sq (ha.mono s1)), ?_⟩
    rw [len_v1]
    refine ⟨_, _, rfl, ⟨by omega, by omega, by omega, by omega⟩, fun D hD => ?_⟩
    rw [show ((o.length : Int) - (0 + (i : Int) + 1)).toNat = o.length - (i + 1) by omega]
    refine it_range (fun j H' => ∃ ys, Same H1 H' ∧ H' D = some (.lst ys) ∧ WPs H' ys (((List.range' (i + 1) j).filter fun t => decide (at0 o t < at0 o i)).map fun t => (i, t)) ∧ ys.length ≤ j) ⟨[], same_new hD, upd_same, .nil, Nat.zero_le _⟩ (fun j H2 hj ⟨ys, s2, hy, hw2, hl2⟩ => ?_) fun H2 ⟨ys, s2, hy, hw2, hl2⟩ => ?_
    · have hij : i + 1 + j < o.length := by omega
      have ha2 := (ha.mono s1).mono s2
      refine ⟨rfl, ?_⟩
      refine ⟨_, rfl, _, rfl, a, _, _, _, rfl, rfl, Tp.sq ha2, at_I (k := i) (by omega) (by omega), ?_⟩
      refine ⟨_, rfl, _, rfl, a, _, _, _, rfl, rfl, Tp.sq ha2, at_I (k := i + 1 + j) hij (by omega), ?_⟩
      refine ⟨_, _, rfl, rfl, _, rfl, ?_⟩
      rw [rowW_take]
      by_cases hlt : at0 o (i + 1 + j) < at0 o i
      · rw [if_pos hlt]
        refine iteD (by omega) ?_
        refine ⟨_, rfl, _, rfl, by show 2 ≤ sizeLine; decide, fun p hp => ?_⟩
        have hDp : D ≠ p := ne_of_none hy hp
        have e1 : upd H2 p (.tup [V.int (0 + (i : Int)), V.int (0 + (i : Int) + 1 + (j : Int))]) D = some (.lst ys) := by
          rw [upd_ne hDp]
          exact hy
        refine ⟨ys, e1, small' (m := 100) (by omega), ys ++ [.ref p], same_lst (s2.trans (same_new hp)) hD, upd_same, ?_, ?_⟩
        · refine WPs.snoc ⟨p, rfl, ?_⟩ (hw2.mono fun b zs e => tup_upd (lst_not_tup e1) b zs (tup_upd (none_not_tup hp) b zs e))
          rw [upd_ne (Ne.symm hDp), upd_same]
          show some (HO.tup [V.int _, V.int _]) = some (.tup [V.int _, V.int _])
          rw [show (0 : Int) + (i : Int) = (i : Int) by omega, show ((i + 1 + j : Nat) : Int) = (i : Int) + 1 + (j : Int) by omega]
        · rw [List.length_append]
          show ys.length + 1 ≤ _
          omega
      · rw [if_neg hlt, List.append_nil]
        exact iteND (by omega) ⟨ys, s2, hy, hw2, by omega⟩
    · have hx2 := s2 _ _ hx
      refine ⟨fo, D, xs, ys, rfl, rfl, hx2, hy, small (m := 1000) (by omega), xs ++ ys, _, rfl, same_lst (s1.trans s2) hfo, upd_same, ?_, ?_⟩
      · rw [wpI_succ]
        have k1 : ∀ b zs, H1 b = some (.tup zs) → upd H2 fo (.lst (xs ++ ys)) b = some (.tup zs) := fun b zs e => tup_upd (lst_not_tup hx2) b zs (s2 _ _ e)
        have k2 : ∀ b zs, H2 b = some (.tup zs) → upd H2 fo (.lst (xs ++ ys)) b = some (.tup zs) := fun b zs e => tup_upd (lst_not_tup hx2) b zs e
        exact pairedApp (hw.mono k1) (hw2.mono k2)
      · rw [List.length_append]
        omega
  · obtain ⟨xs, t, rfl, s1, hx, hw, hl⟩ := hP
    refine ⟨_, rfl, q H1 fo xs s1 hfo hx ?_⟩
    exact hw
theorem go_L_exchanged (T : Tx K mg) : Go P w K mg base 1 "_law_exchanged" ["_law_order_here", "_law_near", "_law_far"] sp_exchanged := by
  refine go_mk 0 T.d_L_exchanged sc_L_exchanged (fun _ _ _ _ _ _ us hl => match us, hl with | [_, _, _], _ => rfl) (fun vs H Q E ⟨a, o, k, e, _⟩ => by rw [e]; rfl) fun f cdv A outer s H vs Q E hr h => ?_
  obtain ⟨a, o, k, rfl, ha, hk, h9, q⟩ := h
  refine ⟨_, (pss_cons (ps_set (i := 3) sc_L_exchanged.nd rfl (.inl rfl) (pe_callTy call_list_of (by rfl) T.b_list (by decide +kernel) (pa_cons (pv 0) pa_nil)))
 (pss_cons (ps_asg (pe_tup (pa_cons (pe_ix ix_tup (pv 0) (pv 2) (fun _ _ => rfl)) (pa_cons (pe_ix ix_tup (pv 0) (pv 1) (fun _ _ => rfl)) pa_nil))) (pg_tup (by rfl) (pgs_cons (pg_sub (pv 3) (pv 1) set_list) (pgs_cons (pg_sub (pv 3) (pv 2) set_list) pgs_nil))))
 (pss_one (ps_ret (pe_callTy call_tupK (by rfl) T.b_tuple (by decide +kernel) (pa_cons (pv 3) pa_nil)))))), ?_⟩
  refine ⟨_, rfl, a, _, rfl, .inr (Tp.sq ha), fun l hl => ?_⟩
  have s1 : Same H (upd H l (.lst (o.map v1))) := same_new hl
  refine ⟨_, rfl, _, rfl, a, _, _, _, rfl, rfl, Tp.sq (ha.mono s1), at_I (k := k + 1) hk (by omega), ?_⟩
  refine ⟨_, rfl, _, rfl, a, _, _, _, rfl, rfl, Tp.sq (ha.mono s1), at_I (k := k) (by omega) rfl, by show 2 ≤ sizeLine; decide, fun t ht => ?_⟩
  have hlt : l ≠ t := ne_of_none upd_same ht
  refine ⟨t, _, rfl, .inl (.inl upd_same), rfl, _, _, rfl, _, rfl, _, rfl, l, o.map v1, _, k, rfl, rfl, by rw [upd_ne hlt, upd_same], ix_I (by rw [len_v1]; omega) rfl, ?_⟩
  refine ⟨_, _, rfl, _, rfl, _, rfl, l, _, _, k + 1, rfl, rfl, upd_same, ix_I (by rw [List.length_set, len_v1]; omega) (by omega), rfl, ?_⟩
  refine ⟨_, rfl, l, (swp o k).map v1, rfl, .inl ⟨.inl (.inl ?_), fun p ob hp hd => q _ p ?_ (Known.new hd)⟩⟩
  · rw [upd_same, swp_v1 hk]
  · refine Same.trans ?_ (same_new hp)
    refine same_lst (same_lst (s1.trans (same_new ht)) hl) hl
def sp_L_word_order : Sp := fun vs H Q _ => ∃ (a : Addr) (u : List Nat) (m : Nat), vs = [.ref a, .int m] ∧ Ls H a u ∧ IsWord m u ∧ m ≤ 9 ∧
  ∀ H' t r ro xs, Same H H' → H' t = some (.tup [.ref r, .ref ro]) → Tp H' r (ordW m u) → H ro = none → H' ro = some (.lst xs) → PLs H' xs (prs m u) → Q (.ref t) H'
theorem go_L_word_order (T : Tx K mg) : Go P w K mg base 2 "_law_word_order" ["_law_word_here", "_law_many"] sp_L_word_order := by
  refine go_mk 1 T.d_L_word_order sc_L_word_order (fun _ _ _ _ _ _ us hl => match us, hl with | [_, _], _ => rfl) (fun vs H Q E ⟨a, u, m, e, _⟩ => by rw [e]; rfl) fun f cdv A outer s H vs Q E hr h => ?_
  obtain ⟨a, u, m, rfl, ha, ⟨hu, hl40⟩, h9, q⟩ := h
  refine ⟨_, (pss_cons (ps_par (i := 2) (j := 3) (by rfl) sc_L_word_order.nd rfl rfl (by decide) rfl rfl (pa_cons (pe_tupRgK rfl (by rfl) T.b_tuple (prg_2 (by rfl) T.b_range pe_int (pe_op op_add (pv 1) pe_int))) (pa_cons (pe_lst pa_nil) pa_nil)) (by rfl))
 (pss_cons (ps_for PassesOwn.never rfl (pi_list (pv 0)) (pg_name (i := 4) sc_L_word_order.nd rfl (.inl rfl))
 (pss_cons (ps_expr (pe_bm PySem.F.plainAttrs_list PySem.F.slot_list_append PySem.F.type_list_append mt_append (pv 3) (pa_cons (pe_callB cr_sortedI (by rfl) T.b_sorted (by decide +kernel) (pa_cons (pe_lst (pa_cons (pe_ix ix_tup (pv 2) (pe_op op_sub (pv 4) pe_int) (fun _ _ => rfl)) (pa_cons (pe_ix ix_tup (pv 2) (pv 4) (fun _ _ => rfl)) pa_nil))) pa_nil)) pa_nil)))
 (pss_one (ps_set (i := 2) sc_L_word_order.nd rfl (.inl rfl) (pe_go (go_L_exchanged T) (hr.mono (by decide)) (by rfl) (pa_cons (pv 2) (pa_cons (pe_op op_sub (pv 4) pe_int) (pa_cons (pv 4) pa_nil))))))))
 (pss_one (ps_ret (pe_tup (pa_cons (pv 2) (pa_cons (pv 3) pa_nil))))))), ?_⟩
  refine ⟨_, rfl, _, _, rfl, rfl, _, _, rfl, rfl, small_rg h9, fun p0 ob hp0 hd0 => ?_⟩
  refine ⟨by show 0 ≤ sizeLine; decide, fun ro hro => ⟨_, _, rfl, ?_⟩⟩
  have s0 := same_new (o := .frz ob (.tup (rgV 1 ((m : Int) + 1)))) hp0
  have s1 := s0.trans (same_new (o := .lst []) hro)
  have hro0 : H ro = none := s0.free hro
  have t0 : Tp (upd (upd H p0 (.frz ob (.tup (rgV 1 ((m : Int) + 1))))) ro (.lst [])) p0 (ordW m []) := by
    refine Tp.mono (same_new hro) ?_
    unfold Tp
    rw [rg_v1]
    exact Known.new hd0
  refine ⟨_, rfl, a, rfl, ⟨_, Ls.sq (s1 _ _ ha)⟩, for_list (xs := u.map v1) (fun i σ H' => ∃ r xs t, σ = [some (.ref a), some (.int m), some (.ref r), some (.ref ro), t] ∧ Same H H' ∧ Tp H' r (ordW m (u.take i)) ∧ H' ro = some (.lst xs) ∧ PLs H' xs (prs m (u.take i)) ∧ xs.length = i) ⟨p0, [], none, rfl, s1, t0, upd_same, .nil, rfl⟩ (fun i σ H' _ ⟨r, xs, t, _, s2, _⟩ => Ls.sq (s2 _ _ ha)) (fun i x σ H' hx hP => ?_) fun σ H' hP => ?_⟩
  · obtain ⟨r, xs, t, rfl, s2, hr2, hx2, hps, hlx⟩ := hP
    obtain ⟨hi, rfl⟩ := at_v1' hx
    have hk : at0 u i + 1 < m := hu _ (by rw [at0_lt hi]; exact List.getElem_mem hi)
    have hol : (ordW m (u.take i)).length = m := ordW_length _ _
    refine ⟨_, rfl, .inl ⟨rfl, _, .inl (.inl hx2)⟩, ?_⟩
    refine ⟨_, rfl, _, rfl, _, _, rfl, rfl, r, _, _, _, rfl, rfl, Tp.sq hr2, at_I (k := at0 u i) (by omega) (by omega), ?_⟩
    refine ⟨_, rfl, _, rfl, r, _, _, _, rfl, rfl, Tp.sq hr2, at_I (k := at0 u i + 1) (by omega) (by omega), by show 2 ≤ sizeLine; decide, fun l hl => ?_⟩
    refine ⟨l, [(at0 (ordW m (u.take i)) (at0 u i) : Int) + 1, (at0 (ordW m (u.take i)) (at0 u i + 1) : Int) + 1], rfl, .inl (.inl upd_same), fun ns' d hp hs hd => ?_⟩
    rw [sorted2 hp hs]
    have s3 := (same_new hl).trans (same_new (o := .lst ((pI (srt2 (at0 (ordW m (u.take i)) (at0 u i)) (at0 (ordW m (u.take i)) (at0 u i + 1)))).map V.int)) hd)
    have hx3 := s3 _ _ hx2
    have hps3 := hps.mono s3
    refine ⟨ro, xs, _, rfl, rfl, hx3, small' (m := 40) (by omega), ?_⟩
    refine ⟨_, rfl, _, rfl, _, _, rfl, rfl, _, rfl, r, ordW m (u.take i), at0 u i, ?_, (hr2.mono s3).upd hx3, by omega, by omega, fun H5 t5 s5 ht5 => ?_⟩
    · show [V.ref r, V.int ((at0 u i : Int) + 1 - 1), V.int ((at0 u i : Int) + 1)] ++ [] = [V.ref r, V.int (at0 u i : Int), V.int ((at0 u i : Int) + 1)]
      rw [Int.add_sub_cancel, List.append_nil]
    · have hdro : d ≠ ro := fun e => by
        rw [e, same_new hl _ _ hx2] at hd
        cases hd
      refine ⟨t5, xs ++ [.ref d], _, rfl, (same_lst (s2.trans s3) hro0).trans s5, ?_, s5 _ _ upd_same, ?_, by rw [List.length_append]; show xs.length + 1 = i + 1; omega⟩
      · rw [List.take_add_one, List.getElem?_eq_getElem hi, ← at0_lt hi]
        show Tp H5 t5 (ordF (List.range m) (u.take i ++ [at0 u i]))
        rw [ordF_one]
        exact ht5
      · rw [List.take_add_one, List.getElem?_eq_getElem hi, ← at0_lt hi]
        show PLs H5 _ (prsF (List.range m) (u.take i ++ [at0 u i]))
        rw [prsF_snoc]
        refine PLs.mono s5 (PLs.snoc ⟨d, rfl, ?_⟩ (PLs.wr hx3 hps3.refs hps3))
        rw [upd_ne hdro]
        exact upd_same
  · obtain ⟨r, xs, t, rfl, s2, hr2, hx2, hps, hlx⟩ := hP
    rw [len_v1, List.take_length] at hr2 hps
    refine ⟨_, rfl, _, rfl, by show 2 ≤ sizeLine; decide, fun t5 ht5 => ?_⟩
    have s5 := same_new (o := .tup [V.ref r, V.ref ro]) ht5
    exact q _ t5 r ro xs (s2.trans s5) upd_same (hr2.mono s5) hro0 (s5 _ _ hx2) (hps.mono s5)
end
end K14
end

section
set_option maxHeartbeats 4000000
namespace K14
open PySem PySem.Spec PyProof.Rows L2
section
variable {P : Program} {w : World} {K : PySem.W.Frag} {mg : Str → Option Value} {base : Heap}
def sp_L_word : Sp := fun vs H Q _ => ∃ (p : Addr) (m L : Nat), vs = [.ref p, .int m, .int L] ∧ Pot H p ∧ 1 ≤ m ∧ m ≤ 9 ∧ L ≤ 40 ∧ ∀ u H' q, Lets m u → u.length ≤ L → Keep p H H' → Pot H' p → H q = none → Ls H' q u → Q (.ref q) H'
theorem go_L_word (T : Tx K mg) : Go P w K mg base 2 "_law_word" ["_law_pot_here", "_law_many", "_law_most"] sp_L_word := by
  refine go_mk 1 T.d_L_word sc_L_word (fun _ _ _ _ _ _ us hl => match us, hl with | [_, _, _], _ => rfl) (fun vs H Q E ⟨p, m, L, e, _⟩ => by rw [e]; rfl) fun f cdv A outer s H vs Q E hr h => ?_
  obtain ⟨p, m, L, rfl, hp, h1, h9, h40, q⟩ := h
  refine ⟨_, (pss_cons (ps_if (pt_cmpR op_eq (pv 1) pe_int (nomark _))
 (pss_one (ps_ret (pe_lst pa_nil))) pss_nil)
 (pss_one (ps_ret (pe_lc (own := [("_law_turn", 3)]) (g := gName 3) (by rfl) sc_L_word.nd (pi_range1 (by rfl) T.b_range (pa_cons (pe_go (go_L_draw T) (hr.mono (by decide)) (by rfl) (pa_cons (pv 0) (pa_cons (pe_op op_add (pv 2) pe_int) pa_nil))) pa_nil)) (blkOk_by (own := [("_law_turn", 3)]) (N := N_L_word) (sc := (defScope s_L_word)) (by decide +kernel)) (fun _ _ _ _ _ => pg_name (i := 3) sc_L_word.nd rfl (.inl rfl)) (fun _ _ _ _ _ => pts_nil) (fun _ _ _ _ _ => (pe_op op_add pe_int (pe_go (go_L_draw T) (hr.mono (by decide)) (by rfl) (pa_cons (pv 0) (pa_cons (pe_op op_sub (pv 1) pe_int) pa_nil))))))))), ?_⟩
  refine ⟨_, rfl, rfl, _, rfl, ite2 (fun h => ?_) (fun h => ?_)⟩
  · refine ⟨by show 0 ≤ sizeLine; decide, fun l hl => q [] _ l (fun _ h => absurd h (by simp)) (Nat.zero_le _) (Keep.new hl _) (hp.wr (hp.ne hl)) hl upd_same⟩
  · have hm : 2 ≤ m := by
      by_cases e : m = 1
      · subst e
        exact absurd (decide_eq_true rfl) h
      · omega
    refine ⟨_, rfl, _, rfl, _, _, rfl, rfl, p, L + 1, rfl, hp, by omega, by omega, fun n H1 hn kp hp1 => ?_⟩
    refine ⟨_, rfl, by omega, by omega, fun D hD => ?_⟩
    have hDp : D ≠ p := hp1.ne hD
    have hD0 : H D = none := kp.free hp1.some hD
    rw [show ((n : Int)).toNat = n by omega]
    refine it_range (fun i H' => ∃ u, Lets m u ∧ u.length = i ∧ Keep p H H' ∧ Pot H' p ∧ Ls H' D u) ⟨[], fun _ h => absurd h (by simp), rfl, kp.wr hD0 _, hp1.wr hDp, upd_same⟩ (fun i H2 hi ⟨u, hu, hul, kp2, hp2, hx⟩ => ?_) fun H2 ⟨u, hu, hul, kp2, hp2, hx⟩ => q u H2 D hu (by omega) kp2 hp2 hD0 hx
    refine ⟨rfl, yesT ?_⟩
    refine ⟨_, rfl, _, rfl, _, _, rfl, rfl, p, m - 1, ?_, hp2, by omega, by omega, fun d H3 hd kp3 hp3 => ?_⟩
    · show [V.ref p, V.int ((m : Int) - 1)] ++ [] = [V.ref p, V.int ((m - 1 : Nat) : Int)]
      rw [List.append_nil, show ((m - 1 : Nat) : Int) = (m : Int) - 1 by omega]
    · have hx3 : H3 D = some (.lst (u.map v1)) := kp3 _ _ hDp hx
      refine ⟨_, _, rfl, rfl, _, hx3, small' (m := 40) (by rw [len_v1]; omega), u ++ [d], fun k hk => ?_, by rw [List.length_append]; show u.length + 1 = i + 1; omega, (kp2.trans kp3).wr hD0 _, hp3.wr hDp, ?_⟩
      · rcases List.mem_append.mp hk with hk | hk
        · exact hu k hk
        · have e : k = d := by simpa using hk
          omega
      · unfold Ls
        rw [upd_same, List.map_append]
        show some (HO.lst (u.map v1 ++ [V.int (1 + (d : Int))])) = some (HO.lst (u.map v1 ++ [V.int ((d : Int) + 1)]))
        rw [Int.add_comm]
def sp_L_least_word : Sp := fun vs H Q _ => ∃ p a o, vs = [.ref p, .ref a] ∧ Pot H p ∧ Tp H a o ∧ IsOrd o ∧ ∀ u H' q, Least o u → Keep p H H' → Pot H' p → H q = none → Ls H' q u → Q (.ref q) H'
theorem go_L_least_word (T : Tx K mg) : Go P w K mg base 3 "_law_least_word" ["_law_pot_here", "_law_order_here"] sp_L_least_word := by
  refine go_mk 2 T.d_L_least_word sc_L_least_word (fun _ _ _ _ _ _ us hl => match us, hl with | [_, _], _ => rfl) (fun vs H Q E ⟨p, a, o, e, _⟩ => by rw [e]; rfl) fun f cdv A outer s H vs Q E hr h => ?_
  obtain ⟨p, a, o, rfl, hp, ha, ⟨hpm, h1, h9⟩, q⟩ := h
  have hu := hr.units
  refine ⟨_, (pss_cons (ps_set (i := 2) sc_L_least_word.nd rfl (.inl rfl) (pe_lst pa_nil))
 (pss_cons (ps_while PassesOwn.never (pt_cmpR (op_neD hu) (pe_go (go_L_wrong T) (hr.mono (by decide)) (by rfl) (pa_cons (pv 1) pa_nil)) (pe_lst pa_nil) (nomark _))
 (pss_cons (ps_set (i := 3) sc_L_least_word.nd rfl (.inl rfl) (pe_go (go_L_pick T) (hr.mono (by decide)) (by rfl) (pa_cons (pv 0) (pa_cons (pe_lc (own := [("_law_at", 3)]) (g := gName 3) (by rfl) sc_L_least_word.nd (pi_range1 (by rfl) T.b_range (pa_cons (pe_op op_sub (pe_callB call_len_seq (by rfl) T.b_len PySem.boot_len (pa_cons (pv 1) pa_nil)) pe_int) pa_nil)) (blkOk_by (own := [("_law_at", 3)]) (N := N_L_least_word) (sc := (defScope s_L_least_word)) (by decide +kernel)) (fun _ _ _ _ _ => pg_name (i := 3) sc_L_least_word.nd rfl (.inl rfl)) (fun _ _ _ _ _ => pts_one (pt_cmpR op_gt (pe_ix (ix_tupK K) (pv 1) (pv 3) (fun _ _ => rfl)) (pe_ix (ix_tupK K) (pv 1) (pe_op op_add (pv 3) pe_int) (fun _ _ => rfl)) (nomark _))) (fun _ _ _ _ _ => (pv 3))) pa_nil))))
 (pss_cons (ps_set (i := 1) sc_L_least_word.nd rfl (.inr rfl) (pe_go (go_L_exchanged T) (hr.mono (by decide)) (by rfl) (pa_cons (pv 1) (pa_cons (pv 3) (pa_cons (pe_op op_add (pv 3) pe_int) pa_nil)))))
 (pss_one (ps_set (i := 2) sc_L_least_word.nd rfl (.inl rfl) (pe_op op_cat (pe_lst (pa_cons (pe_op op_add (pv 3) pe_int) pa_nil)) (pv 2)))))))
 (pss_one (ps_ret (pv 2))))), ?_⟩
  refine ⟨by show 0 ≤ sizeLine; decide, fun f0 hf0 => ?_⟩
  refine ⟨fun n σ H' => ∃ r o' g fo t, n = (inv o').length ∧ σ = [some (.ref p), some (.ref r), some (.ref fo), t] ∧ Keep p H H' ∧ Pot H' p ∧ Tp H' r o' ∧ H fo = none ∧ H' fo = some (.lst (g.map v1)) ∧ Left o.length o o' g,
    ⟨_, a, o, [], f0, none, rfl, rfl, Keep.new hf0 _, hp.wr (hp.ne hf0), ha.mono (same_new hf0), hf0, upd_same, Left.start hpm⟩, ?_⟩
  rintro n σ H2 ⟨r, o', g, fo, t, rfl, rfl, kp, hp2, hr2, hfo, hg, L⟩
  have hlen := L.len
  have nfo : fo ≠ p := hp.ne hfo
  have hgl : g.length ≤ 36 := by
    have k1 := L.lev
    have k2 := inv_bound9 (o := o) h9
    omega
  refine ⟨_, rfl, r, o', rfl, hr2, by omega, fun H3 l xs s3 hl hx hw => ?_⟩
  refine ⟨by show 0 ≤ sizeLine; decide, fun e he => ?_⟩
  have s4 := s3.trans (same_new (o := .lst []) he)
  refine ⟨_, _, .lst (.inl (.inl (same_new he _ _ hx))) (WPs.dp (hw.mono fun b zs z => same_new he _ _ z)), .lst (.inl (.inl upd_same)) .nil, shaped_dW _, shaped_list [], _, rfl, ?_⟩
  rw [eqv_nil]
  by_cases hz : inv o' = []
  · have hw0 : wps o' = [] := List.length_eq_zero_iff.mp (by rw [wps_length, hz]; rfl)
    rw [hw0]
    refine iteF ?_
    obtain ⟨k1, k2, k3⟩ := L.fin hz
    exact ⟨_, rfl, q g _ fo ⟨k1, k2, k3⟩ (kp.same s4) (hp2.mono s4) hfo (s4 _ _ hg)⟩
  · have hw0 : (dW (wps o')).isEmpty = false := by
      cases hc : wps o' with
      | nil =>
        have := wps_length o'
        rw [hc] at this
        exact absurd (List.length_eq_zero_iff.mp this.symm) hz
      | cons x y => rfl
    rw [hw0]
    refine iteT ?_
    have hfn : fls o' ≠ [] := fun z => hz ((fls_nil_iff o').mp z)
    have hr4 := hr2.mono s4
    have hp4 := hp2.mono s4
    refine ⟨fun σ' H' => ∃ r k g fo t, k ∈ fls o' ∧ σ' = [some (.ref p), some (.ref r), some (.ref fo), t] ∧ Keep p H H' ∧ Pot H' p ∧ Tp H' r (swp o' k) ∧ H fo = none ∧ H' fo = some (.lst (g.map v1)) ∧ Left o.length o (swp o' k) g, fun σ' H' ⟨r, k, g, fo, t, hk, h1, h2, h3, h4, h5, h6, h7⟩ => ?_, ?_⟩
    · obtain ⟨hk1, hk2⟩ := mem_fls.mp hk
      have := level_down hk1 hk2
      exact ⟨_, by omega, r, swp o' k, g, fo, t, rfl, h1, h2, h3, h4, h5, h6, h7⟩
    -- the falls
    refine ⟨_, rfl, _, rfl, r, _, rfl, .inr (Tp.sq hr4), ?_⟩
    rw [len_v1]
    refine ⟨_, _, rfl, rfl, _, rfl, by omega, by omega, fun D hD => ?_⟩
    rw [show ((o'.length : Int) - 1).toNat = o'.length - 1 by omega]
    refine it_range (fun i H' => Same (upd H3 e (.lst [])) H' ∧ H' D = some (.lst (((List.range i).filter (fallAt o')).map v0))) ⟨same_new hD, upd_same⟩ (fun i H5 hi ⟨s5, hx5⟩ => ?_) fun H5 ⟨s5, hx5⟩ => ?_
    · have hr5 := hr4.mono s5
      refine ⟨rfl, _, rfl, _, rfl, r, _, _, _, rfl, rfl, Tp.sq hr5, at_I (k := i) (by omega) (by omega), ?_⟩
      refine ⟨_, rfl, _, rfl, _, _, rfl, rfl, r, _, _, _, rfl, rfl, Tp.sq hr5, at_I (k := i + 1) (by omega) (by omega), _, _, rfl, rfl, _, rfl, ?_⟩
      rw [List.range_succ, List.filter_append]
      by_cases hf : at0 o' (i + 1) < at0 o' i
      · rw [List.filter_cons_of_pos (by unfold fallAt; simpa using hf)]
        refine iteD (by omega) ⟨_, rfl, _, hx5, small' (m := 9) ?_, same_lst s5 hD, ?_⟩
        · rw [List.length_map]
          exact Nat.le_trans (List.length_filter_le _ _) (by rw [List.length_range]; omega)
        · rw [upd_same, List.map_append, show (0 : Int) + (i : Int) = (i : Int) by omega]
          rfl
      · rw [List.filter_cons_of_neg (by unfold fallAt; simpa using hf)]
        refine iteND (by omega) ⟨s5, ?_⟩
        rw [List.filter_nil, List.append_nil]
        exact hx5
    · -- the drawn one
      have hp5 := hp4.mono s5
      have hx5' : H5 D = some (.lst ((fls o').map v0)) := hx5
      have hfl : (fls o').length ≤ 9 := by
        refine Nat.le_trans (List.length_filter_le _ _) ?_
        rw [List.length_range]
        omega
      refine ⟨p, D, _, rfl, hp5, hp4.ne hD, hx5', ?_, by rw [List.length_map]; omega, fun x H6 hxm kp6 hp6 => ?_⟩
      · rw [List.length_map]
        exact List.length_pos_iff.mpr hfn
      · obtain ⟨k, hk, rfl⟩ := List.mem_map.mp hxm
        obtain ⟨hk1, hk2⟩ := mem_fls.mp hk
        have hr6 : Tp H6 r o' := (hr4.mono s5).keep kp6 hp5
        have hg6 : H6 fo = some (.lst (g.map v1)) := kp6 _ _ nfo (s5 _ _ (s4 _ _ hg))
        have kp7 : Keep p H H6 := ((kp.same s4).same s5).trans kp6
        refine ⟨_, rfl, _, rfl, _, rfl, _, _, rfl, rfl, r, o', k, rfl, hr6, hk1, by omega, fun H7 r7 s7 hr7 => ?_⟩
        refine ⟨_, rfl, _, _, rfl, rfl, by show 1 ≤ sizeLine; decide, fun l8 hl8 => ?_⟩
        refine ⟨_, rfl, l8, fo, _, _, rfl, rfl, upd_same, same_new hl8 _ _ (s7 _ _ hg6), small (m := 100) (by rw [len_v1]; show 1 + g.length ≤ 100; omega), fun f9 hf9 => ?_⟩
        have s9 := s7.trans ((same_new (o := .lst [V.int ((k : Int) + 1)]) hl8).trans (same_new (o := .lst ([V.int ((k : Int) + 1)] ++ g.map v1)) hf9))
        have hf90 : H f9 = none := by
          have k9 := kp7.same (s7.trans (same_new (o := .lst [V.int ((k : Int) + 1)]) hl8))
          exact k9.free (hp6.mono (s7.trans (same_new (o := .lst [V.int ((k : Int) + 1)]) hl8))).some hf9
        exact ⟨r7, k, k :: g, f9, _, hk, rfl, kp7.same s9, hp6.mono s9, hr7.mono ((same_new hl8).trans (same_new hf9)), hf90, upd_same, L.turn hk⟩
end
end K14
end

section
set_option maxHeartbeats 4000000
namespace K14
open PySem PySem.Spec PyProof.Rows L2
theorem ordW_ord {m : Nat} (u : List Nat) (h1 : 1 ≤ m) (h9 : m ≤ 9) : IsOrd (ordW m u) := ⟨by rw [ordW_length]; exact ordW_perm m u, by rw [ordW_length]; exact h1, by rw [ordW_length]; exact h9⟩
/-! ### texts of data -/
theorem tx_len : ∀ k : Nat, k < 10 → ((toString ((k : Int) + 1) : String) : Str).length ≤ 4 := by
  intro k hk
  have : ∀ k : Fin 10, ((toString ((k.val : Int) + 1) : String) : Str).length ≤ 4 := by decide +kernel
  exact this ⟨k, hk⟩
theorem shown_z1 : ∀ l : List Nat, (∀ k ∈ l, k < 10) → PyData.showableAll ((z1 l).map .int) = true ∧ PyData.hasDictAll ((z1 l).map .int) = false ∧ ((PyData.shownAll ((z1 l).map .int)).map (·.length)).sum ≤ 4 * l.length ∧ (PyData.shownAll ((z1 l).map .int)).length = l.length
  | [], _ => by simp [z1, PyData.showableAll, PyData.hasDictAll, PyData.shownAll]
  | k :: l, h => by
    obtain ⟨h1, h2, h3, h4⟩ := shown_z1 l fun j hj => h j (List.mem_cons_of_mem _ hj)
    have hk := h k List.mem_cons_self
    have ht := tx_len k hk
    refine ⟨?_, ?_, ?_, ?_⟩
    · show (PyData.showable (.int ((k : Int) + 1)) && PyData.showableAll ((z1 l).map .int)) = true
      rw [h1, Bool.and_true]
      show decide (((k : Int) + 1).natAbs.log2 < 1920) = true
      refine decide_eq_true (Nat.lt_of_le_of_lt (Nat.log2_le_self _) (by omega))
    · show (PyData.hasDict (.int ((k : Int) + 1)) || PyData.hasDictAll ((z1 l).map .int)) = false
      rw [h2, Bool.or_false]
      rfl
    · show ((toString ((k : Int) + 1) : String) : Str).length + ((PyData.shownAll ((z1 l).map .int)).map (·.length)).sum ≤ 4 * (l.length + 1)
      omega
    · show (PyData.shownAll ((z1 l).map .int)).length + 1 = l.length + 1
      rw [h4]
/-- data that repr tells -/
structure Tells (d : PyData) : Prop where
  sh : d.showable = true
  nd : d.hasDict = false
  dp : d.depth ≤ 8
  sz : d.shown.length ≤ sizeLine
theorem tellsL {l : List Nat} (h : ∀ k ∈ l, k < 10) (hl : l.length ≤ 40) : Tells (dL l) := by
  obtain ⟨h1, h2, h3, h4⟩ := shown_z1 l h
  refine ⟨h1, h2, ?_, ?_⟩
  · unfold dL
    simp only [PyData.depth, PySem.W.depth_ints]
    omega
  · refine Nat.le_trans (listText_len_le _) ?_
    rw [sizeLine_eq]
    omega
theorem tellsT {l : List Nat} (h : ∀ k ∈ l, k < 10) (hl : l.length ≤ 40) : Tells (dT l) := by
  obtain ⟨h1, h2, h3, h4⟩ := shown_z1 l h
  refine ⟨h1, h2, ?_, ?_⟩
  · unfold dT
    simp only [PyData.depth, PySem.W.depth_ints]
    omega
  · refine Nat.le_trans (tupleText_len_le _) ?_
    rw [sizeLine_eq]
    omega
theorem tells_ord {m : Nat} (u : List Nat) (h9 : m ≤ 9) : Tells (dT (ordW m u)) :=
  tellsT (fun k hk => by have := List.mem_range.mp ((ordW_perm m u).mem_iff.mp hk); omega) (by rw [ordW_length]; omega)
/-- a list or a tuple, with its data -/
def SqD (H : Hp) (p : Addr) (o : List Nat) (d : PyData) : Prop := (Ls H p o ∧ d = dL o) ∨ (Tp H p o ∧ d = dT o)
theorem Sq.data {H : Hp} {p : Addr} {o : List Nat} (h : Sq H p o) : ∃ d, SqD H p o d := h.elim (fun z => ⟨_, .inl ⟨z, rfl⟩⟩) fun z => ⟨_, .inr ⟨z, rfl⟩⟩
theorem SqD.sq {H : Hp} {p : Addr} {o : List Nat} {d : PyData} (h : SqD H p o d) : Sq H p o := h.elim (fun z => .inl z.1) fun z => .inr z.1
theorem SqD.mono {H H' : Hp} {p : Addr} {o : List Nat} {d : PyData} (s : Same H H') (h : SqD H p o d) : SqD H' p o d := h.elim (fun z => .inl ⟨s _ _ z.1, z.2⟩) fun z => .inr ⟨z.1.mono s, z.2⟩
theorem SqD.dp {K : PySem.W.Frag} {H : Hp} {p : Addr} {o : List Nat} {d : PyData} (h : SqD H p o d) : Dp K H (.ref p) d := by
  rcases h with ⟨h, e⟩ | ⟨h, e⟩
  · subst e
    exact Ls.dp h
  · subst e
    exact Tp.dp h
theorem SqD.tells {H : Hp} {p : Addr} {o : List Nat} {d : PyData} (h : SqD H p o d) (hk : ∀ k ∈ o, k < 10) (hl : o.length ≤ 40) : Tells d := by
  rcases h with ⟨h, e⟩ | ⟨h, e⟩
  · subst e
    exact tellsL hk hl
  · subst e
    exact tellsT hk hl
/-! ### pairs as data -/
def dP (p : NP) : PyData := .list ((pI p).map .int)
theorem eqvP (p q : NP) : PyData.eqv (dP p) (dP q) = decide (p = q) := by
  obtain ⟨a, b⟩ := p
  obtain ⟨c, d⟩ := q
  have e : PyData.eqv (dP (a, b)) (dP (c, d)) = (((a : Int) + 1 == (c : Int) + 1) && (((b : Int) + 1 == (d : Int) + 1) && true)) := by
    simp only [dP, pI, List.map_cons, List.map_nil, PyData.eqv, PyData.eqvAll]
  rw [e]
  by_cases h : ((a, b) : NP) = (c, d)
  · cases h
    simp
  · rw [decide_eq_false h]
    by_cases h1 : a = c
    · have h2 : b ≠ d := fun z => h (by rw [h1, z])
      have : ((b : Int) + 1 == (d : Int) + 1) = false := beq_eq_false_iff_ne.mpr (by omega)
      rw [this]
      simp
    · have : ((a : Int) + 1 == (c : Int) + 1) = false := beq_eq_false_iff_ne.mpr (by omega)
      rw [this]
      simp
theorem any_dP (p : NP) (ps : List NP) : ((ps.map dP).any fun z => PyData.eqv z (dP p)) = decide (p ∈ ps) := by
  rw [List.any_map, Bool.eq_iff_iff, List.any_eq_true, decide_eq_true_iff]
  constructor
  · rintro ⟨q, hq, e⟩
    have e' : PyData.eqv (dP q) (dP p) = true := e
    rw [eqvP] at e'
    rw [← of_decide_eq_true e']
    exact hq
  · intro h
    refine ⟨p, h, ?_⟩
    show PyData.eqv (dP p) (dP p) = true
    rw [eqvP]
    exact decide_eq_true rfl
theorem lay_dP : ∀ ps : List NP, PyData.canLayAll0 (ps.map dP) = true
  | [] => by simp [PyData.canLayAll0]
  | p :: ps => by simp [PyData.canLayAll0, dP, PyData.canLay0, lay_ints, lay_dP ps]
theorem depth_dP : ∀ ps : List NP, PyData.depthAll (ps.map dP) ≤ 1
  | [] => by simp [PyData.depthAll]
  | p :: ps => by
    have := depth_dP ps
    simp only [List.map_cons, PyData.depthAll]
    have e : (dP p).depth = 1 := by
      unfold dP
      simp only [PyData.depth, PySem.W.depth_ints]
    omega
theorem shaped_dPs (ps : List NP) : SeqAt.shaped (.list (ps.map dP)) = true := by
  show (PyData.canLay0 (.list (ps.map dP)) && decide (PyData.depth (.list (ps.map dP)) ≤ 64)) = true
  rw [Bool.and_eq_true]
  refine ⟨by simp only [PyData.canLay0]; exact lay_dP ps, decide_eq_true ?_⟩
  have := depth_dP ps
  simp only [PyData.depth]
  omega
theorem shaped_dP (p : NP) : SeqAt.shaped (dP p) = true := shaped_list _
theorem cut_take (xs : List V) (i : Nat) : cutV xs none (some (i : Int)) = xs.take i := by
  unfold cutV
  rw [HT.sIx_none, HT.sIx_nat, List.drop_zero, Nat.sub_zero]
  by_cases h : i ≤ xs.length
  · rw [Nat.min_eq_left h]
  · rw [Nat.min_eq_right (by omega), List.take_length, List.take_of_length_le (by omega)]
theorem PLs.take {H : Hp} : ∀ (n : Nat) {xs : List V} {ps : List NP}, PLs H xs ps → PLs H (xs.take n) (ps.take n)
  | 0, _, _, _ => .nil
  | n + 1, _, _, .nil => .nil
  | n + 1, _, _, .cons a r => .cons a (PLs.take n r)
theorem PLs.at {H : Hp} : ∀ {n : Nat} {xs : List V} {ps : List NP} {p : NP}, PLs H xs ps → ps[n]? = some p → ∃ t, xs[n]? = some (V.ref t) ∧ H t = some (.lst ((pI p).map V.int))
  | _, _, _, _, .nil, h => by simp at h
  | 0, _, _, _, .cons ⟨t, e, ht⟩ _, h => by
    have h' := Option.some.inj h
    subst h' e
    exact ⟨t, rfl, ht⟩
  | n + 1, _, _, _, .cons _ r, h => PLs.at (n := n) r h
theorem PLs.len {H : Hp} {xs : List V} {ps : List NP} (h : PLs H xs ps) : xs.length = ps.length := Paired.length h
section
variable {P : Program} {w : World} {K : PySem.W.Frag} {mg : Str → Option Value} {base : Heap}
/- _law_word_right: 0 _law_pot_here, 1 _law_word_here, 2 _law_many, 3 _law_passed_here, 4 _law_stay, 5 _law_order_here, 6 _law_pairs, 7 _law_due, 8 _law_letter, 9 _law_up, 10 _law_later, 11 _law_at -/
abbrev N_L_word_right : List Str := ["_law_pot_here", "_law_word_here", "_law_many", "_law_passed_here", "_law_stay", "_law_order_here", "_law_pairs", "_law_due", "_law_letter", "_law_up", "_law_later", "_law_at"]
theorem sc_L_word_right : FnScope N_L_word_right ["_law_pot_here", "_law_word_here", "_law_many"] (defScope s_L_word_right) := ⟨rfl, rfl, rfl, by decide +kernel, rfl, by decide +kernel, by decide +kernel⟩
/- _law_least_right: 0 _law_pot_here, 1 _law_order_here, 2 _law_many, 3 _law_drawn, 4 _law_told, 5 _law_things, 6 _law_near, 7 _law_far -/
abbrev N_L_least_right : List Str := ["_law_pot_here", "_law_order_here", "_law_many", "_law_drawn", "_law_told", "_law_things", "_law_near", "_law_far"]
theorem sc_L_least_right : FnScope N_L_least_right ["_law_pot_here", "_law_order_here"] (defScope s_L_least_right) := ⟨rfl, rfl, rfl, by decide +kernel, rfl, by decide +kernel, by decide +kernel⟩
/- _law_behind_right: 0 _law_pot_here, 1 _law_many, 2 _law_one, 3 _law_two, 4 _law_both -/
abbrev N_L_behind_right : List Str := ["_law_pot_here", "_law_many", "_law_one", "_law_two", "_law_both"]
theorem sc_L_behind_right : FnScope N_L_behind_right ["_law_pot_here", "_law_many"] (defScope s_L_behind_right) := ⟨rfl, rfl, rfl, by decide +kernel, rfl, by decide +kernel, by decide +kernel⟩
/- _law_right: 0 _law_pot_here, 1 _law_many, 2 _law_word_here, 3 _law_order_here -/
abbrev N_L_right : List Str := ["_law_pot_here", "_law_many", "_law_word_here", "_law_order_here"]
theorem sc_L_right : FnScope N_L_right ["_law_pot_here"] (defScope s_L_right) := ⟨rfl, rfl, rfl, by decide +kernel, rfl, by decide +kernel, by decide +kernel⟩
/- law: 0 _law_script, 1 _law_k -/
abbrev N_law : List Str := ["_law_script", "_law_k"]
theorem sc_law : FnScope N_law ["_law_script"] (defScope s_law) := ⟨rfl, rfl, rfl, by decide +kernel, rfl, by decide +kernel, by decide +kernel⟩

def sp_behind_right : Sp := fun vs H Q _ => ∃ (p : Addr) (m : Nat), vs = [.ref p, .int m] ∧ Pot H p ∧ 1 ≤ m ∧ m ≤ 9 ∧ ∀ H', Keep p H H' → Pot H' p → Q (.bl true) H'
theorem go_L_behind_right (T : Tx K mg) : Go P w K mg base 6 "_law_behind_right" ["_law_pot_here", "_law_many"] sp_behind_right := by
  refine go_mk 5 T.d_L_behind_right sc_L_behind_right (fun _ _ _ _ _ _ us hl => match us, hl with | [_, _], _ => rfl) (fun vs H Q E ⟨p, m, e, _⟩ => by rw [e]; rfl) fun f cdv A outer s H vs Q E hr h => ?_
  obtain ⟨p, m, rfl, hp, h1, h9, q⟩ := h
  have hu := hr.units
  refine ⟨_, (pss_cons (ps_par (i := 2) (j := 3) (by rfl) sc_L_behind_right.nd rfl rfl (by decide) rfl rfl (pa_cons (pe_go (go_L_word T) (hr.mono (by decide)) (by rfl) (pa_cons (pv 0) (pa_cons (pv 1) (pa_cons pe_int pa_nil)))) (pa_cons (pe_go (go_L_word T) (hr.mono (by decide)) (by rfl) (pa_cons (pv 0) (pa_cons (pv 1) (pa_cons pe_int pa_nil)))) pa_nil)) (by rfl))
 (pss_cons (ps_set (i := 4) sc_L_behind_right.nd rfl (.inl rfl) (pe_go (go_one_behind T) (hr.mono (by decide)) (by rfl) (pa_cons (pe_go (go_word_order T) (hr.mono (by decide)) (by rfl) (pa_cons (pv 2) (pa_cons (pv 1) pa_nil))) (pa_cons (pe_go (go_word_order T) (hr.mono (by decide)) (by rfl) (pa_cons (pv 3) (pa_cons (pv 1) pa_nil))) pa_nil))))
 (pss_one (ps_ret (pe_cmpR (op_eqD hu) (pe_go (go_word_order T) (hr.mono (by decide)) (by rfl) (pa_cons (pe_op op_cat (pv 2) (pv 3)) (pa_cons (pv 1) pa_nil))) (pv 4) (nomark _)))))), ?_⟩
  refine ⟨_, rfl, _, rfl, p, m, 20, rfl, hp, h1, h9, by decide, fun u H1 a hu1 hul k1 hp1 na ha => ?_⟩
  refine ⟨_, rfl, _, rfl, p, m, 20, rfl, hp1, h1, h9, by decide, fun u2 H2 b hu2 hul2 k2 hp2 nb hb => ⟨_, _, rfl, ?_⟩⟩
  have ha2 : Ls H2 a u := k2 _ _ (hp.ne na) ha
  refine ⟨_, rfl, _, rfl, a, u, m, rfl, .inl ha2, ⟨hu1, by omega⟩, h1, h9, fun H3 r3 s3 t3 => ?_⟩
  refine ⟨_, rfl, _, rfl, b, u2, m, rfl, .inl (s3 _ _ hb), ⟨hu2, by omega⟩, h1, h9, fun H4 r4 s4 t4 => ?_⟩
  refine ⟨r3, r4, _, _, rfl, .inr (t3.mono s4), .inr t4, ordW_ord u h1 h9, ordW_ord u2 h1 h9, by rw [ordW_length, ordW_length], fun H5 r5 s5 t5 => ?_⟩
  have s35 := (s3.trans s4).trans s5
  refine ⟨_, rfl, _, rfl, a, b, _, _, rfl, rfl, s35 _ _ ha2, s35 _ _ hb, small (m := 100) (by rw [len_v1, len_v1]; omega), fun c hc => ?_⟩
  have hcl : Ls (upd H5 c (.lst (u.map v1 ++ u2.map v1))) c (u ++ u2) := by
    unfold Ls
    rw [upd_same, List.map_append]
  have hw : IsWord m (u ++ u2) := ⟨fun k hk => (List.mem_append.mp hk).elim (hu1 k) (hu2 k), by rw [List.length_append]; omega⟩
  refine ⟨_, rfl, c, _, m, rfl, .inl hcl, hw, h1, h9, fun H6 r6 s6 t6 => ?_⟩
  have s56 := (same_new (o := .lst (u.map v1 ++ u2.map v1)) hc).trans s6
  refine ⟨_, rfl, _, _, Tp.dp t6, Tp.dp (t5.mono s56), shT _, shT _, ?_⟩
  rw [ordW_app, eqvT]
  have s26 := s35.trans s56
  exact q H6 ((k1.trans k2).same s26) (hp2.mono s26)
end
end K14
end

section
set_option maxHeartbeats 4000000
namespace K14
open PySem PySem.Spec PyProof.Rows L2
theorem lets10 {m : Nat} {u : List Nat} (h : Lets m u) (h9 : m ≤ 9) : ∀ k ∈ u, k < 10 := fun k hk => by
  have := h k hk
  omega
section
variable {P : Program} {w : World} {K : PySem.W.Frag} {mg : Str → Option Value} {base : Heap}
def sp_word_right : Sp := fun vs H Q _ => ∃ (p a : Addr) (u : List Nat) (m : Nat), vs = [.ref p, .ref a, .int m] ∧ Pot H p ∧ a ≠ p ∧ Ls H a u ∧ IsWord m u ∧ 1 ≤ m ∧ m ≤ 9 ∧ ∀ H', Keep p H H' → Pot H' p → Q (.bl true) H'
theorem go_L_word_right (T : Tx K mg) : GoG P w K mg base 7 "_law_word_right" ["_law_pot_here", "_law_word_here", "_law_many"] sp_word_right := by
  refine goG_mk 6 T.d_L_word_right sc_L_word_right (fun _ _ _ _ _ _ us hl => match us, hl with | [_, _, _], _ => rfl) (fun vs H Q E ⟨p, a, u, m, e, _⟩ => by rw [e]; rfl) fun f cdv A outer s H vs Q hgd hr h => ?_
  obtain ⟨p, a, u, m, rfl, hp, hne, ha, hw, h1, h9, q⟩ := h
  have hu := hr.units
  have hu65 : (A.deeper (envOfC ("_law_word_right" : Str) (defScope s_L_word_right) s.heap.objs.size f cdv)).units + 65 < cLine := by
    have := hr.un
    omega
  refine ⟨_, (pss_cons (ps_set (i := 3) sc_L_word_right.nd rfl (.inl rfl) (pe_go (go_L_passed T) (hr.mono (by decide)) (by rfl) (pa_cons (pv 0) (pa_cons (pv 1) pa_nil))))
 (pss_cons (ps_set (i := 4) sc_L_word_right.nd rfl (.inl rfl) (pe_callB (call_reprD hgd hu) (by rfl) T.b_repr (by decide +kernel) (pa_cons (pv 3) pa_nil)))
 (pss_cons (ps_asg (pe_go (go_L_word_order T) (hr.mono (by decide)) (by rfl) (pa_cons (pv 1) (pa_cons (pv 2) pa_nil))) (pg_tup (by rfl) (pgs_cons (pg_name (i := 5) sc_L_word_right.nd rfl (.inl rfl)) (pgs_cons (pg_name (i := 6) sc_L_word_right.nd rfl (.inr rfl)) pgs_nil))))
 (pss_cons (ps_if (PW.pt (pw_or (pt_cmpR op_ne (pe_callB (call_reprD hgd hu) (by rfl) T.b_repr (by decide +kernel) (pa_cons (pe_go (go_word_order T) (hr.mono (by decide)) (by rfl) (pa_cons (pv 3) (pa_cons (pv 2) pa_nil))) pa_nil)) (pe_callB (call_reprD hgd hu) (by rfl) T.b_repr (by decide +kernel) (pa_cons (pv 5) pa_nil)) (nomark _)) (pw_or1 (pt_cmpR op_ne (pe_callB (call_reprD hgd hu) (by rfl) T.b_repr (by decide +kernel) (pa_cons (pe_goK (gok_word_order T) (hr.mono (by decide)) (by rfl) (pk_cons (pv 2) (pk_cons (pv 1) pk_nil))) pa_nil)) (pe_callB (call_reprD hgd hu) (by rfl) T.b_repr (by decide +kernel) (pa_cons (pv 5) pa_nil)) (nomark _)))))
 (pss_one (ps_ret pe_bl)) pss_nil)
 (pss_cons (ps_set (i := 7) sc_L_word_right.nd rfl (.inl rfl) (pe_cmpR op_eq (pe_callB call_len_seq (by rfl) T.b_len PySem.boot_len (pa_cons (pv 1) pa_nil)) (pe_callB call_len_seq (by rfl) T.b_len PySem.boot_len (pa_cons (pe_go (go_L_wrong T) (hr.mono (by decide)) (by rfl) (pa_cons (pv 5) pa_nil)) pa_nil)) (nomark _)))
 (pss_cons (ps_if (PW.pt (pw_or (pt_cmpR op_ne (pe_callB call_reprB (by rfl) T.b_repr (by decide +kernel) (pa_cons (pe_go (go_is_least T) (hr.mono (by decide)) (by rfl) (pa_cons (pv 3) (pa_cons (pv 2) pa_nil))) pa_nil)) (pe_callB call_reprB (by rfl) T.b_repr (by decide +kernel) (pa_cons (pv 7) pa_nil)) (nomark _)) (pw_or1 (pt_cmpR op_ne (pe_callB call_reprB (by rfl) T.b_repr (by decide +kernel) (pa_cons (pe_goK (gok_is_least T) (hr.mono (by decide)) (by rfl) (pk_cons (pv 2) (pk_cons (pe_callTy call_tupK (by rfl) T.b_tuple (by decide +kernel) (pa_cons (pv 1) pa_nil)) pk_nil))) pa_nil)) (pe_callB call_reprB (by rfl) T.b_repr (by decide +kernel) (pa_cons (pv 7) pa_nil)) (nomark _)))))
 (pss_one (ps_ret pe_bl)) pss_nil)
 (pss_cons (ps_if (pt_cmpR op_ne (pv 7) (pe_cmpR op_eq (pe_callB call_len_seq (by rfl) T.b_len PySem.boot_len (pa_cons (pe_lc (own := [("_law_at", 11)]) (g := gName 11) (by rfl) sc_L_word_right.nd (pi_range1 (by rfl) T.b_range (pa_cons (pe_callB call_len_seq (by rfl) T.b_len PySem.boot_len (pa_cons (pv 6) pa_nil)) pa_nil)) (blkOk_by (own := [("_law_at", 11)]) (N := N_L_word_right) (sc := (defScope s_L_word_right)) (by decide +kernel)) (fun _ _ _ _ _ => pg_name (i := 11) sc_L_word_right.nd rfl (.inl rfl)) (fun _ _ _ _ _ => pts_one (pt_cmpR (op_inDK K hu65) (pe_ix (ix_listK K) (pv 6) (pv 11) (fun _ _ => rfl)) (pe_slice (sl_listK K) (pv 6) po_none (po_some (pv 11))) (by rfl))) (fun _ _ _ _ _ => (pv 11))) pa_nil)) pe_int (nomark _)) (nomark _))
 (pss_one (ps_ret pe_bl)) pss_nil)
 (pss_cons (ps_if (PW.pt (pw_or (pt_cmpR op_ne (pe_callB (call_reprD hgd hu) (by rfl) T.b_repr (by decide +kernel) (pa_cons (pv 3) pa_nil)) (pv 4) (nomark _)) (pw_or1 (pt_cmpR op_gt (pe_go (go_level T) (hr.mono (by decide)) (by rfl) (pa_cons (pv 5) pa_nil)) (pe_callB call_len_seq (by rfl) T.b_len PySem.boot_len (pa_cons (pv 1) pa_nil)) (nomark _)))))
 (pss_one (ps_ret pe_bl)) pss_nil)
 (pss_cons (ps_if (pt_cmpR (op_neD hu) (pe_go (go_word_order T) (hr.mono (by decide)) (by rfl) (pa_cons (pe_revL (pv 1)) (pa_cons (pv 2) pa_nil))) (pe_go (go_undone T) (hr.mono (by decide)) (by rfl) (pa_cons (pv 5) pa_nil)) (nomark _))
 (pss_one (ps_ret pe_bl)) pss_nil)
 (pss_cons (ps_if (PW.pt (pw_or (pt_cmpR op_eq (pv 2) pe_int (nomark _)) (pw_or1 (pt_cmpR op_eq (pe_callB call_len_seq (by rfl) T.b_len PySem.boot_len (pa_cons (pv 1) pa_nil)) pe_int (nomark _)))))
 (pss_one (ps_ret pe_bl)) pss_nil)
 (pss_cons (ps_set (i := 8) sc_L_word_right.nd rfl (.inl rfl) (pe_op op_add pe_int (pe_go (go_L_draw T) (hr.mono (by decide)) (by rfl) (pa_cons (pv 0) (pa_cons (pe_op op_sub (pv 2) pe_int) pa_nil)))))
 (pss_cons (ps_set (i := 9) sc_L_word_right.nd rfl (.inl rfl) (pe_cmpR op_lt (pe_ix ix_tup (pv 5) (pe_op op_sub (pv 8) pe_int) (fun _ _ => rfl)) (pe_ix ix_tup (pv 5) (pv 8) (fun _ _ => rfl)) (nomark _)))
 (pss_cons (ps_set (i := 10) sc_L_word_right.nd rfl (.inl rfl) (pe_go (go_word_order T) (hr.mono (by decide)) (by rfl) (pa_cons (pe_op op_cat (pe_callTy call_list_of (by rfl) T.b_list (by decide +kernel) (pa_cons (pv 1) pa_nil)) (pe_lst (pa_cons (pv 8) pa_nil))) (pa_cons (pv 2) pa_nil))))
 (pss_one (ps_ret (pe_and (pe_cmpR op_eq (pe_go (go_level T) (hr.mono (by decide)) (by rfl) (pa_cons (pv 10) pa_nil)) (pe_op op_add (pe_go (go_level T) (hr.mono (by decide)) (by rfl) (pa_cons (pv 5) pa_nil)) (pe_ifExp (pt_val (pv 9)) pe_int (pe_un un_neg pe_int))) (nomark _)) (pe_one (pe_or (pe_not (pv 7)) (pe_one (pe_cmpR op_eq (pe_go (go_is_least T) (hr.mono (by decide)) (by rfl) (pa_cons (pe_op op_cat (pv 1) (pe_lst (pa_cons (pv 8) pa_nil))) (pa_cons (pv 2) pa_nil))) (pv 9) (nomark _))))))))))))))))))))), ?_⟩
  -- passed, its text, the order and the pairs
  refine ⟨_, rfl, _, rfl, p, a, u, rfl, hp, hne, .inl ha, fun H1 b k1 hp1 hb hsb => ?_⟩
  obtain ⟨d, hd⟩ := hsb.data
  have ha1 : Ls H1 a u := k1 _ _ hne ha
  have htd := hd.tells (lets10 hw.1 h9) hw.2
  refine ⟨_, rfl, b, d, rfl, hd.dp, htd.sh, htd.nd, htd.dp, htd.sz, ?_⟩
  refine ⟨_, rfl, _, rfl, a, u, m, rfl, ha1, hw, h9, fun H2 t r ro xs s2 ht2 hr2 hro hx2 hps2 => ?_⟩
  refine ⟨t, _, rfl, .inl (.inl ht2), rfl, _, _, rfl, _, _, rfl, rfl, ?_⟩
  have TE := tells_ord u h9
  have hO : IsOrd (ordW m u) := ordW_ord u h1 h9
  have hOl : (ordW m u).length = m := ordW_length m u
  have hpl : (prs m u).length = u.length := prs_length m u
  have hxl : xs.length = (prs m u).length := hps2.len
  have hu40 := hw.2
  -- the order, told in two ways
  refine ⟨_, rfl, _, rfl, b, u, m, rfl, (hd.mono s2).sq, hw, h1, h9, fun H3 r3 s3 t3 => ?_⟩
  refine ⟨r3, _, rfl, t3.dp, TE.sh, TE.nd, TE.dp, TE.sz, ?_⟩
  refine ⟨_, rfl, r, _, rfl, (hr2.mono s3).dp, TE.sh, TE.nd, TE.dp, TE.sz, rfl, _, rfl, iteNS rfl ?_⟩
  refine ⟨_, rfl, _, rfl, rfl, rfl, a, u, m, rfl, .inl (s3 _ _ (s2 _ _ ha1)), hw, h1, h9, fun H4 r4 s4 t4 => ?_⟩
  refine ⟨r4, _, rfl, t4.dp, TE.sh, TE.nd, TE.dp, TE.sz, ?_⟩
  have c4 := s3.trans s4
  refine ⟨_, rfl, r, _, rfl, (hr2.mono c4).dp, TE.sh, TE.nd, TE.dp, TE.sz, rfl, _, rfl, iteNS rfl ?_⟩
  -- due
  refine ⟨_, rfl, a, _, rfl, .inl (Ls.sq (c4 _ _ (s2 _ _ ha1))), _, rfl, r, _, rfl, hr2.mono c4, by rw [hOl]; exact h9, fun H5 l ws s5 hl hws hwp => ⟨l, ws, rfl, .inl (.inl (.inl hws)), rfl, ?_⟩⟩
  have c5 := c4.trans s5
  have e5 : decide (V.int ((u.map v1).length : Nat) = V.int (ws.length : Nat)) = decide (u.length = (inv (ordW m u)).length) := by
    have e : ws.length = (inv (ordW m u)).length := by
      rw [← wps_length]
      exact Paired.length hwp
    rw [len_v1, e]
    refine decide_eq_decide.mpr ⟨fun z => ?_, fun z => by rw [z]⟩
    have := V.int.inj z
    omega
  rw [e5]
  generalize hdue : decide (u.length = (inv (ordW m u)).length) = due
  refine ⟨_, rfl, _, rfl, b, u, m, rfl, ((hd.mono s2).mono c5).sq, hw, h1, h9, fun H6 s6 => ?_⟩
  refine ⟨_, rfl, _, rfl, _, rfl, rfl, _, rfl, iteNS (by rw [hdue]) ?_⟩
  have c6 := c5.trans s6
  refine ⟨_, rfl, _, rfl, a, u.map v1, rfl, .inl ⟨Ls.sq (c6 _ _ (s2 _ _ ha1)), fun l2 ob hl2 hob => ?_⟩⟩
  refine ⟨rfl, rfl, l2, u, m, rfl, .inr (Known.new hob), hw, h1, h9, fun H7 s7 => ?_⟩
  refine ⟨_, rfl, _, rfl, _, rfl, rfl, _, rfl, iteNS (by rw [hdue]) ?_⟩
  have c7 := c6.trans ((same_new (o := .frz ob (.tup (u.map v1))) hl2).trans s7)
  have hx7 := c7 _ _ hx2
  have hps7 := hps2.mono c7
  -- the pairs met before
  refine ⟨_, rfl, _, rfl, ro, xs, rfl, .inl (.inl (.inl hx7)), _, rfl, by omega, by omega, fun D hD => ?_⟩
  rw [show ((xs.length : Int)).toNat = xs.length by omega, hxl]
  refine it_range (fun i H' => Same H7 H' ∧ H' D = some (.lst (((List.range i).filter (dupAt (prs m u))).map v0))) ⟨same_new hD, upd_same⟩ (fun i H8 hi ⟨s8, h8⟩ => ?_) fun H8 ⟨s8, h8⟩ => ?_
  · rw [Int.zero_add]
    have hpi : (prs m u)[i]? = some (prs m u)[i] := List.getElem?_eq_getElem hi
    obtain ⟨t8, hxt, ht8⟩ := hps7.at hpi
    refine ⟨rfl, _, rfl, _, rfl, ro, xs, _, _, rfl, rfl, .inl (.inl (s8 _ _ hx7)), atI_nat hxt, _, rfl, _, rfl, _, rfl, ro, xs, rfl, .inl (.inl (s8 _ _ hx7)), fun e he => ?_⟩
    rw [cut_take]
    have s9 := s8.trans (same_new (o := .lst (xs.take i)) he)
    refine ⟨dP (prs m u)[i], ((prs m u).take i).map dP, .lst (.inl (.inl (s9 _ _ ht8))) (dp_ints _), .lst (.inl (.inl upd_same)) (PLs.dp (PLs.take i (hps7.mono s9))), shaped_dP _, shaped_dPs _, _, rfl, ?_⟩
    rw [any_dP, List.range_succ, List.filter_append]
    by_cases hm : (prs m u)[i] ∈ (prs m u).take i
    · rw [List.filter_cons_of_pos ((dupAt_iff hpi).mpr hm)]
      refine iteD hm ⟨_, rfl, _, same_new he _ _ h8, small' (m := 40) ?_, same_lst s9 hD, ?_⟩
      · rw [List.length_map]
        exact Nat.le_trans (List.length_filter_le _ _) (by rw [List.length_range]; omega)
      · rw [upd_same, List.map_append]
        rfl
    · rw [List.filter_cons_of_neg (fun z => hm ((dupAt_iff hpi).mp z))]
      refine iteND hm ⟨s9, ?_⟩
      rw [List.filter_nil, List.append_nil]
      exact same_new he _ _ h8
  refine ⟨D, _, rfl, .inl (.inl (.inl h8)), rfl, rfl, _, rfl, iteNS ?_ ?_⟩
  · rw [← hdue]
    refine congrArg V.bl (decide_eq_decide.mpr ?_)
    rw [least_iff hw.1, ← dups_nil]
    show dups (prs m u) = [] ↔ V.int (((dups (prs m u)).map v0).length : Nat) = V.int 0
    rw [List.length_map]
    constructor
    · intro z
      rw [z]
      rfl
    · intro z
      have := V.int.inj z
      exact List.length_eq_zero_iff.mp (by omega)
  have c8 := c7.trans s8
  -- nothing has changed; the level
  refine ⟨_, rfl, b, d, rfl, ((hd.mono s2).mono c8).dp, htd.sh, htd.nd, htd.dp, htd.sz, _, rfl, rfl, _, rfl, iteNS rfl ?_⟩
  refine ⟨_, rfl, r, _, rfl, .inr (hr2.mono c8), hO, fun H9 s9 => ?_⟩
  have c9 := c8.trans s9
  refine ⟨_, rfl, a, _, rfl, .inl (Ls.sq (c9 _ _ (s2 _ _ ha1))), _, _, rfl, rfl, _, rfl, iteND (by have := inv_le hw.1; rw [len_v1]; omega) ?_⟩
  -- read from the end
  refine ⟨_, rfl, a, _, rfl, Ls.sq (c9 _ _ (s2 _ _ ha1)), fun l3 hl3 => ?_⟩
  have hrl : Ls (upd H9 l3 (.lst (u.map v1).reverse)) l3 u.reverse := by
    unfold Ls
    rw [upd_same, List.map_reverse]
  refine ⟨_, rfl, l3, u.reverse, m, rfl, .inl hrl, ⟨fun k hk => hw.1 k (List.mem_reverse.mp hk), by rw [List.length_reverse]; exact hu40⟩, h1, h9, fun H10 r10 s10 t10 => ?_⟩
  have c10 := c9.trans ((same_new (o := .lst (u.map v1).reverse) hl3).trans s10)
  refine ⟨_, rfl, r, _, rfl, .inr (hr2.mono c10), hO, fun H11 r11 s11 t11 => ?_⟩
  refine ⟨_, _, (t10.mono s11).dp, t11.dp, shT _, shT _, _, rfl, ?_⟩
  rw [ordW_rev, eqvT]
  refine iteF ?_
  have c11 := c10.trans s11
  have K11 : Keep p H H11 := (k1.same s2).same c11
  have P11 : Pot H11 p := (hp1.mono s2).mono c11
  -- one thing alone, forty letters
  refine ⟨_, rfl, rfl, _, rfl, ite2 (fun h => iteT (q H11 K11 P11)) (fun h => ?_)⟩
  refine ⟨_, rfl, a, _, rfl, .inl (Ls.sq (c11 _ _ (s2 _ _ ha1))), rfl, _, rfl, ite2 (fun h40 => q H11 K11 P11) (fun h40 => ?_)⟩
  have hm2 : 2 ≤ m := by
    by_cases e : m = 1
    · subst e
      exact absurd (decide_eq_true rfl) h
    · omega
  have hu39 : u.length ≤ 39 := by
    by_cases e : u.length = 40
    · rw [len_v1, e] at h40
      exact absurd (decide_eq_true rfl) h40
    · omega
  -- a letter more
  refine ⟨_, rfl, _, rfl, _, _, rfl, rfl, p, m - 1, ?_, P11, by omega, by omega, fun g H12 hg k12 hp12 => ⟨_, _, rfl, rfl, ?_⟩⟩
  · show [V.ref p, V.int ((m : Int) - 1)] ++ [] = [V.ref p, V.int ((m - 1 : Nat) : Int)]
    rw [List.append_nil, show ((m - 1 : Nat) : Int) = (m : Int) - 1 by omega]
  have ha12 : Ls H12 a u := k12 _ _ hne (c11 _ _ (s2 _ _ ha1))
  have hr12 : Tp H12 r (ordW m u) := (hr2.mono c11).keep k12 P11
  refine ⟨_, rfl, _, rfl, _, _, rfl, rfl, r, _, _, _, rfl, rfl, Tp.sq hr12, at_I (k := g) (by omega) (by omega), ?_⟩
  refine ⟨_, rfl, _, rfl, r, _, _, _, rfl, rfl, Tp.sq hr12, at_I (k := g + 1) (by omega) (by omega), _, _, rfl, rfl, ?_⟩
  refine ⟨_, rfl, a, _, rfl, .inl (Ls.sq ha12), fun l4 hl4 => ?_⟩
  refine ⟨_, rfl, by show 1 ≤ sizeLine; decide, fun l5 hl5 => ?_⟩
  refine ⟨l4, l5, _, _, rfl, rfl, same_new hl5 _ _ upd_same, upd_same, small (m := 100) (by rw [len_v1]; show u.length + 1 ≤ 100; omega), fun l6 hl6 => ?_⟩
  have s13 := (same_new (o := .lst (u.map v1)) hl4).trans ((same_new (o := .lst [V.int (1 + (g : Int))]) hl5).trans (same_new (o := .lst (u.map v1 ++ [V.int (1 + (g : Int))])) hl6))
  have hug : (u ++ [g]).map v1 = u.map v1 ++ [V.int (1 + (g : Int))] := by
    rw [List.map_append, Int.add_comm]
    rfl
  have hwg : IsWord m (u ++ [g]) := ⟨fun k hk => (List.mem_append.mp hk).elim (hw.1 k) fun hk => by
    have e : k = g := by simpa using hk
    omega, by rw [List.length_append]; show u.length + 1 ≤ 40; omega⟩
  have hOg : ordW m (u ++ [g]) = swp (ordW m u) g := ordF_one _ _ _
  refine ⟨_, rfl, l6, u ++ [g], m, rfl, .inl (by unfold Ls; rw [upd_same, hug]), hwg, h1, h9, fun H14 r14 s14 t14 => ?_⟩
  have c14 := s13.trans s14
  have hOg2 : IsOrd (ordW m (u ++ [g])) := ordW_ord _ h1 h9
  refine ⟨_, rfl, r14, _, rfl, .inr t14, hOg2, fun H15 s15 => ?_⟩
  refine ⟨_, rfl, r, _, rfl, .inr (hr12.mono (c14.trans s15)), hO, fun H16 s16 => ?_⟩
  have c16 := (c14.trans s15).trans s16
  have ha16 : Ls H16 a u := c16 _ _ ha12
  have K16 : ∀ {H'}, Same H16 H' → Keep p H H' := fun z => ((K11.trans k12).same c16).same z
  have P16 : ∀ {H'}, Same H16 H' → Pot H' p := fun z => (hp12.mono c16).mono z
  have hlt : ∀ x y : Nat, ((x : Int) + 1 < (y : Int) + 1) ↔ x < y := fun x y => by omega
  -- up or down
  have fin : ∀ up : Bool, ((inv (ordW m (u ++ [g]))).length : Int) = ((inv (ordW m u)).length : Int) + (if up = true then 1 else -1) → ∀ H', Same H16 H' →
      (Q (.bl (decide (V.bl (decide ((u ++ [g]).length = (inv (ordW m (u ++ [g]))).length)) = V.bl up))) H' ∨ due = false) := by
    intro up hup H' hH'
    cases hdd : due with
    | false => exact .inr rfl
    | true =>
      refine .inl ?_
      rw [hdd] at hdue
      have hl := of_decide_eq_true hdue
      have e : decide (V.bl (decide ((u ++ [g]).length = (inv (ordW m (u ++ [g]))).length)) = V.bl up) = true := by
        refine decide_eq_true (congrArg V.bl ?_)
        rw [List.length_append]
        show decide (u.length + 1 = _) = up
        cases up with
        | true =>
          rw [if_pos rfl] at hup
          exact decide_eq_true (by omega)
        | false =>
          rw [if_neg Bool.false_ne_true] at hup
          exact decide_eq_false (by omega)
      rw [e]
      exact q H' (K16 hH') (P16 hH')
  have hne' := at0_ne (ordW_nodup m u) (i := g) (j := g + 1) (by omega) (by omega) (by omega)
  have hb9 : (u ++ [g]).length ≤ 100 := by
    rw [List.length_append]
    show u.length + 1 ≤ 100
    omega
  rcases Nat.lt_or_gt_of_ne hne' with hup | hup
  · have hlev := level_up (o := ordW m u) (k := g) (by omega) hup
    rw [← hOg] at hlev
    refine ⟨_, rfl, _, rfl, iteD ((hlt _ _).mpr hup) ⟨_, _, rfl, rfl, rfl, _, rfl, iteD (congrArg V.int (by omega)) ?_⟩⟩
    refine ⟨_, rfl, _, rfl, _, rfl, ?_⟩
    cases hdd : due with
    | false => exact iteT (q H16 (K16 (Same.refl _)) (P16 (Same.refl _)))
    | true =>
      refine iteF ?_
      refine ⟨_, rfl, _, rfl, by show 1 ≤ sizeLine; decide, fun l7 hl7 => ?_⟩
      refine ⟨a, l7, _, _, rfl, rfl, same_new hl7 _ _ ha16, upd_same, small (m := 100) (by rw [len_v1]; show u.length + 1 ≤ 100; omega), fun l8 hl8 => ?_⟩
      refine ⟨_, rfl, l8, u ++ [g], m, rfl, .inl (by unfold Ls; rw [upd_same, hug]), hwg, h1, h9, fun H17 s17 => ⟨_, rfl, rfl, ?_⟩⟩
      have s18 := (same_new (o := .lst [V.int (1 + (g : Int))]) hl7).trans ((same_new (o := .lst (u.map v1 ++ [V.int (1 + (g : Int))])) hl8).trans s17)
      have ed : decide ((at0 (ordW m u) g : Int) + 1 < (at0 (ordW m u) (g + 1) : Int) + 1) = true := decide_eq_true ((hlt _ _).mpr hup)
      rcases fin true (by rw [if_pos rfl]; omega) H17 s18 with z | z
      · show Q (.bl (decide (V.bl (decide ((u ++ [g]).length = (inv (ordW m (u ++ [g]))).length)) = V.bl (decide ((at0 (ordW m u) g : Int) + 1 < (at0 (ordW m u) (g + 1) : Int) + 1))))) H17
        rw [ed]
        exact z
      · rw [hdd] at z
        cases z
  · have hlev := level_down (o := ordW m u) (k := g) (by omega) hup
    rw [← hOg] at hlev
    refine ⟨_, rfl, _, rfl, iteND (fun z => by have := (hlt _ _).mp z; omega) ⟨_, rfl, _, _, rfl, rfl, rfl, _, rfl, iteD (congrArg V.int (by omega)) ?_⟩⟩
    refine ⟨_, rfl, _, rfl, _, rfl, ?_⟩
    cases hdd : due with
    | false => exact iteT (q H16 (K16 (Same.refl _)) (P16 (Same.refl _)))
    | true =>
      refine iteF ?_
      refine ⟨_, rfl, _, rfl, by show 1 ≤ sizeLine; decide, fun l7 hl7 => ?_⟩
      refine ⟨a, l7, _, _, rfl, rfl, same_new hl7 _ _ ha16, upd_same, small (m := 100) (by rw [len_v1]; show u.length + 1 ≤ 100; omega), fun l8 hl8 => ?_⟩
      refine ⟨_, rfl, l8, u ++ [g], m, rfl, .inl (by unfold Ls; rw [upd_same, hug]), hwg, h1, h9, fun H17 s17 => ⟨_, rfl, rfl, ?_⟩⟩
      have s18 := (same_new (o := .lst [V.int (1 + (g : Int))]) hl7).trans ((same_new (o := .lst (u.map v1 ++ [V.int (1 + (g : Int))])) hl8).trans s17)
      have ed : decide ((at0 (ordW m u) g : Int) + 1 < (at0 (ordW m u) (g + 1) : Int) + 1) = false := decide_eq_false (fun z => by have := (hlt _ _).mp z; omega)
      rcases fin false (by rw [if_neg Bool.false_ne_true]; omega) H17 s18 with z | z
      · show Q (.bl (decide (V.bl (decide ((u ++ [g]).length = (inv (ordW m (u ++ [g]))).length)) = V.bl (decide ((at0 (ordW m u) g : Int) + 1 < (at0 (ordW m u) (g + 1) : Int) + 1))))) H17
        rw [ed]
        exact z
      · rw [hdd] at z
        cases z
end
end K14
end

section
set_option maxHeartbeats 4000000
namespace K14
open PySem PySem.Spec PyProof.Rows L2
theorem Tp.ne {H : Hp} {p a : Addr} {o : List Nat} (h : Tp H a o) (hp : Pot H p) : a ≠ p := by
  obtain ⟨ob, d, e⟩ := h
  obtain ⟨x, y, z, _⟩ := hp
  exact ne_of e z (by intro w; cases w)
theorem Ls.ne_pot {H : Hp} {p a : Addr} (h : H a = none) (hp : Pot H p) : a ≠ p := hp.ne h
theorem WPs.at {H : Hp} : ∀ {n : Nat} {xs : List V} {ps : List NP} {x : V}, WPs H xs ps → xs[n]? = some x → ∃ p t, ps[n]? = some p ∧ x = V.ref t ∧ H t = some (.tup [v0 p.1, v0 p.2])
  | _, _, _, _, .nil, h => by simp at h
  | 0, _, _, _, .cons ⟨t, e, ht⟩ _, h => by
    have h' := Option.some.inj h
    subst h'
    exact ⟨_, t, rfl, e, ht⟩
  | n + 1, _, _, _, .cons _ r, h => WPs.at (n := n) r h
theorem leP_anti (p q : NP) (h1 : leP p q = true) (h2 : leP q p = true) : p = q := by
  have a1 := of_decide_eq_true h1
  have a2 := of_decide_eq_true h2
  have e : pI p = pI q := List.le_antisymm a1 a2
  obtain ⟨a, b⟩ := p
  obtain ⟨c, d⟩ := q
  have e1 : (a : Int) + 1 = (c : Int) + 1 := (List.cons.inj e).1
  have e2 : (b : Int) + 1 = (d : Int) + 1 := (List.cons.inj (List.cons.inj e).2).1
  rw [show a = c by omega, show b = d by omega]
theorem sort_eq {l₁ l₂ : List NP} (h : l₁.Perm l₂) : l₁.mergeSort leP = l₂.mergeSort leP := by
  have tr : ∀ a b c : NP, leP a b = true → leP b c = true → leP a c = true := fun a b c h1 h2 => decide_eq_true (List.le_trans (of_decide_eq_true h1) (of_decide_eq_true h2))
  have to : ∀ a b : NP, (leP a b || leP b a) = true := fun a b => by
    rw [Bool.or_eq_true]
    rcases List.le_total (pI a) (pI b) with h | h
    · exact .inl (decide_eq_true h)
    · exact .inr (decide_eq_true h)
  refine eq_of_sorted_perm (le := fun a b => leP a b = true) leP_anti ?_ (List.pairwise_mergeSort tr to l₁) (List.pairwise_mergeSort tr to l₂)
  exact (List.mergeSort_perm l₁ leP).trans (h.trans (List.mergeSort_perm l₂ leP).symm)
theorem eqv_dPs (ps : List NP) : PyData.eqv (.list (ps.map dP)) (.list (ps.map dP)) = true := PySem.SeqAt.eqv_refl _ (by simp only [PyData.canLay0]; exact lay_dP ps)
theorem Least.word {o u : List Nat} (h : Least o u) (h9 : o.length ≤ 9) : IsWord o.length u ∧ u.length ≤ 36 := by
  have := inv_bound9 h9
  have e := h.2.2
  exact ⟨⟨h.2.1, by omega⟩, by omega⟩
theorem inv_at {o : List Nat} {i : Nat} {p : NP} (h : (wps o)[i]? = some p) : (inv o)[i]? = some (thing o p) ∧ p.1 < o.length ∧ p.2 < o.length ∧ srt2 (at0 o p.1) (at0 o p.2) = thing o p := by
  obtain ⟨h1, h2, h3⟩ := mem_wps (List.mem_of_getElem? h)
  refine ⟨?_, by omega, h2, srt2_gt h3⟩
  rw [← wps_thing, List.getElem?_map, h]
  rfl
section
variable {P : Program} {w : World} {K : PySem.W.Frag} {mg : Str → Option Value} {base : Heap}
def sp_least_right : Sp := fun vs H Q _ => ∃ p a o, vs = [.ref p, .ref a] ∧ Pot H p ∧ Tp H a o ∧ IsOrd o ∧ ∀ H', Keep p H H' → Pot H' p → Q (.bl true) H'
theorem go_L_least_right (T : Tx K mg) : Go P w K mg base 6 "_law_least_right" ["_law_pot_here", "_law_order_here"] sp_least_right := by
  refine go_mk 5 T.d_L_least_right sc_L_least_right (fun _ _ _ _ _ _ us hl => match us, hl with | [_, _], _ => rfl) (fun vs H Q E ⟨p, a, o, e, _⟩ => by rw [e]; rfl) fun f cdv A outer s H vs Q E hr h => ?_
  obtain ⟨p, a, o, rfl, hp, ha, ho, q⟩ := h
  obtain ⟨hpm, h1, h9⟩ := id ho
  have hu := hr.units
  refine ⟨_, (pss_cons (ps_set (i := 2) sc_L_least_right.nd rfl (.inl rfl) (pe_callB call_len_seq (by rfl) T.b_len PySem.boot_len (pa_cons (pv 1) pa_nil)))
 (pss_cons (ps_par (i := 3) (j := 4) (by rfl) sc_L_least_right.nd rfl rfl (by decide) rfl rfl (pa_cons (pe_go (go_L_least_word T) (hr.mono (by decide)) (by rfl) (pa_cons (pv 0) (pa_cons (pv 1) pa_nil))) (pa_cons (pe_go (go_a_word T) (hr.mono (by decide)) (by rfl) (pa_cons (pe_go (go_L_passed T) (hr.mono (by decide)) (by rfl) (pa_cons (pv 0) (pa_cons (pv 1) pa_nil))) pa_nil)) pa_nil)) (by rfl))
 (pss_cons (ps_if (PW.pt (pw_or (pt_not (pt_val (pe_callB call_isi (by rfl) T.b_isinstance (by decide +kernel) (pa_cons (pv 4) (pa_cons (pe_bltn (v := .ty "list") (by rfl) T.b_list (by decide +kernel) rfl) pa_nil))))) (pw_or (pt_cmpR op_ne (pe_callB call_len_seq (by rfl) T.b_len PySem.boot_len (pa_cons (pv 4) pa_nil)) (pe_callB call_len_seq (by rfl) T.b_len PySem.boot_len (pa_cons (pe_go (go_L_wrong T) (hr.mono (by decide)) (by rfl) (pa_cons (pv 1) pa_nil)) pa_nil)) (nomark _)) (pw_or1 (pt_cmpR (op_neD hu) (pe_ix ix_tup (pe_go (go_L_word_order T) (hr.mono (by decide)) (by rfl) (pa_cons (pv 4) (pa_cons (pv 2) pa_nil))) pe_int (fun _ _ => rfl)) (pv 1) (nomark _))))))
 (pss_one (ps_ret pe_bl)) pss_nil)
 (pss_cons (ps_if (PW.pt (pw_or (pt_cmpR op_notBl (pe_go (go_is_least T) (hr.mono (by decide)) (by rfl) (pa_cons (pv 3) (pa_cons (pv 2) pa_nil))) pe_bl (nomark _)) (pw_or (pt_cmpR op_notBl (pe_go (go_is_least T) (hr.mono (by decide)) (by rfl) (pa_cons (pv 4) (pa_cons (pv 2) pa_nil))) pe_bl (nomark _)) (pw_or1 (pt_cmpR (op_neD hu) (pe_go (go_word_order T) (hr.mono (by decide)) (by rfl) (pa_cons (pv 3) (pa_cons (pv 2) pa_nil))) (pv 1) (nomark _))))))
 (pss_one (ps_ret pe_bl)) pss_nil)
 (pss_cons (ps_set (i := 5) sc_L_least_right.nd rfl (.inl rfl) (pe_callB (cr_sortedPL hu) (by rfl) T.b_sorted (by decide +kernel) (pa_cons (pe_lc (own := [("_law_near", 6), ("_law_far", 7)]) (g := gTup K 2 (gCons (gName 6) (gCons (gName 7) gNil))) (by rfl) sc_L_least_right.nd (pi_list (pe_go (go_wrong_pairs T) (hr.mono (by decide)) (by rfl) (pa_cons (pv 1) pa_nil))) (blkOk_by (own := [("_law_near", 6), ("_law_far", 7)]) (N := N_L_least_right) (sc := (defScope s_L_least_right)) (by decide +kernel)) (fun _ _ _ _ _ => pg_tup (by rfl) (pgs_cons (pg_name (i := 6) sc_L_least_right.nd rfl (.inl rfl)) (pgs_cons (pg_name (i := 7) sc_L_least_right.nd rfl (.inl rfl)) pgs_nil))) (fun _ _ _ _ _ => pts_nil) (fun _ _ _ _ _ => (pe_callB (cr_sortedK K) (by rfl) T.b_sorted (by decide +kernel) (pa_cons (pe_lst (pa_cons (pe_ix (ix_tupK K) (pv 1) (pv 6) (fun _ _ => rfl)) (pa_cons (pe_ix (ix_tupK K) (pv 1) (pv 7) (fun _ _ => rfl)) pa_nil))) pa_nil)))) pa_nil)))
 (pss_cons (ps_if (pt_cmpR (op_neD hu) (pe_callB (cr_sortedPL hu) (by rfl) T.b_sorted (by decide +kernel) (pa_cons (pe_ix ix_tup (pe_go (go_L_word_order T) (hr.mono (by decide)) (by rfl) (pa_cons (pv 3) (pa_cons (pv 2) pa_nil))) pe_int (fun _ _ => rfl)) pa_nil)) (pv 5) (nomark _))
 (pss_one (ps_ret pe_bl)) pss_nil)
 (pss_cons (ps_if (PW.pt (pw_and (pt_cmpR op_gt (pv 2) pe_int (nomark _)) (pw_and (pt_cmpR op_lt (pe_callB call_len_seq (by rfl) T.b_len PySem.boot_len (pa_cons (pv 3) pa_nil)) pe_int (nomark _)) (pw_and1 (pt_cmpR op_notBl (pe_go (go_is_least T) (hr.mono (by decide)) (by rfl) (pa_cons (pe_op op_cat (pv 3) (pe_lst (pa_cons pe_int (pa_cons pe_int pa_nil)))) (pa_cons (pv 2) pa_nil))) pe_bl (nomark _))))))
 (pss_one (ps_ret pe_bl)) pss_nil)
 (pss_cons (ps_set (i := 4) sc_L_least_right.nd rfl (.inl rfl) (pe_goK (gok_a_word T) (hr.mono (by decide)) (by rfl) (pk_cons (pv 1) pk_nil)))
 (pss_one (ps_ret (pe_and (pe_cmpR (op_eqD hu) (pe_go (go_word_order T) (hr.mono (by decide)) (by rfl) (pa_cons (pv 4) (pa_cons (pv 2) pa_nil))) (pv 1) (nomark _)) (pe_one (pe_cmpR (op_eqD hu) (pe_ix ix_tup (pe_go (go_L_word_order T) (hr.mono (by decide)) (by rfl) (pa_cons (pv 4) (pa_cons (pv 2) pa_nil))) pe_int (fun _ _ => rfl)) (pv 1) (nomark _)))))))))))))), ?_⟩
  have hap : a ≠ p := ha.ne hp
  refine ⟨_, rfl, a, _, rfl, .inr (Tp.sq ha), ?_⟩
  rw [len_v1]
  refine ⟨_, rfl, _, rfl, p, a, o, rfl, hp, ha, ho, fun u H1 d1 hL k1 hp1 nd1 hd1 => ?_⟩
  have ha1 := ha.keep k1 hp
  refine ⟨_, rfl, _, rfl, p, a, o, rfl, hp1, hap, .inr ha1, fun H2 b k2 hp2 hbp hb => ?_⟩
  refine ⟨b, o, rfl, hb, ho, fun t H3 d2 hL2 s3 nd2 hd2 => ⟨_, _, rfl, ?_⟩⟩
  have hdp1 : d1 ≠ p := hp.ne nd1
  have ha3 : Tp H3 a o := (ha1.keep k2 hp1).mono s3
  have hd13 : Ls H3 d1 u := s3 _ _ (k2 _ _ hdp1 hd1)
  obtain ⟨hw1, hu36⟩ := hL.word h9
  obtain ⟨hw2, ht36⟩ := hL2.word h9
  have K3 : Keep p H H3 := (k1.trans k2).same s3
  have P3 : Pot H3 p := hp2.mono s3
  -- what is told
  refine ⟨_, rfl, _, _, _, _, _, rfl, .ty _, .base (.lst hd2), kit_list_list, _, rfl, iteF ?_⟩
  refine ⟨_, rfl, d2, _, rfl, .inl (Ls.sq hd2), _, rfl, a, o, rfl, ha3, h9, fun H4 l ws s4 hl hws hwp => ⟨l, ws, rfl, .inl (.inl (.inl hws)), rfl, _, rfl, iteNS ?_ ?_⟩⟩
  · have e : ws.length = (inv o).length := by
      rw [← wps_length]
      exact Paired.length hwp
    rw [len_v1, e, hL2.2.2]
  refine ⟨_, rfl, _, rfl, d2, t, o.length, rfl, s4 _ _ hd2, hw2, h9, fun H5 tt r ro xs s5 ht hr5 _ hx hps => ?_⟩
  rw [hL2.1] at hr5
  have c5 := s4.trans s5
  refine ⟨tt, _, 0, _, rfl, rfl, .inl (.inl ht), atI_nat (j := 0) rfl, _, rfl, _, _, hr5.dp, (ha3.mono c5).dp, shT _, shT _, _, rfl, ?_⟩
  rw [eqvT]
  refine iteF ?_
  -- both are least; the drawn one's order
  have hle : ∀ v, Least o v → decide (v.length = (inv (ordW o.length v)).length) = true := fun v hv => decide_eq_true (by rw [hv.1]; exact hv.2.2)
  refine ⟨_, rfl, _, rfl, d1, u, o.length, rfl, .inl (c5 _ _ hd13), hw1, h1, h9, fun H6 s6 => ⟨_, _, rfl, rfl, _, rfl, iteNS (hle u hL) ?_⟩⟩
  have c6 := c5.trans s6
  refine ⟨_, rfl, _, rfl, d2, t, o.length, rfl, .inl (c6 _ _ hd2), hw2, h1, h9, fun H7 s7 => ⟨_, _, rfl, rfl, _, rfl, iteNS (hle t hL2) ?_⟩⟩
  have c7 := c6.trans s7
  refine ⟨_, rfl, _, rfl, d1, u, o.length, rfl, .inl (c7 _ _ hd13), hw1, h1, h9, fun H8 r8 s8 t8 => ?_⟩
  rw [hL.1] at t8
  have c8 := c7.trans s8
  refine ⟨_, rfl, _, _, t8.dp, (ha3.mono c8).dp, shT _, shT _, _, rfl, ?_⟩
  rw [eqvT]
  refine iteF ?_
  -- the wrong pairs of things
  refine ⟨_, rfl, a, o, rfl, .inr (ha3.mono c8), ho, fun H9 l9 ws9 s9 hws9 hwp9 => ?_⟩
  have c9 := c8.trans s9
  refine ⟨l9, rfl, ⟨_, .inl (.inl hws9)⟩, fun D hD => ?_⟩
  have hil : ws9.length = (inv o).length := by
    rw [← wps_length]
    exact Paired.length hwp9
  have hi36 := inv_bound9 h9
  refine it_list (xs := ws9) (fun i H' => ∃ ys, Same H9 H' ∧ H' D = some (.lst ys) ∧ PLs H' ys ((inv o).take i) ∧ ys.length = i) ⟨[], same_new hD, upd_same, .nil, rfl⟩ (fun i H' ⟨ys, s, _⟩ => .inl (.inl (s _ _ hws9))) (fun i x H' hx ⟨ys, s10, hy, hps, hyl⟩ => ?_) fun H' ⟨ys, s10, hy, hps, hyl⟩ => ?_
  · obtain ⟨pr, tp, hpr, rfl, htp⟩ := hwp9.at hx
    obtain ⟨hiv, hp1', hp2', hsr⟩ := inv_at hpr
    have hi : i < ws9.length := (List.getElem?_eq_some_iff.mp hx).1
    refine ⟨tp, _, rfl, .inl (.inl (s10 _ _ htp)), rfl, _, _, rfl, _, _, rfl, rfl, rfl, yesT ?_⟩
    have ha10 := (ha3.mono c9).mono s10
    refine ⟨_, rfl, _, rfl, a, _, _, _, rfl, rfl, Tp.sq ha10, at_I (k := pr.1) hp1' rfl, ?_⟩
    refine ⟨_, rfl, _, rfl, a, _, _, _, rfl, rfl, Tp.sq ha10, at_I (k := pr.2) hp2' rfl, by show 2 ≤ sizeLine; decide, fun e he => ?_⟩
    refine ⟨e, [(at0 o pr.1 : Int) + 1, (at0 o pr.2 : Int) + 1], rfl, .inl (.inl upd_same), fun ns' d hp hs hd => ?_⟩
    rw [sorted2 hp hs, hsr]
    have s11 := (same_new (o := .lst [v1 (at0 o pr.1), v1 (at0 o pr.2)]) he).trans (same_new (o := .lst ((pI (thing o pr)).map V.int)) hd)
    have hy11 := s11 _ _ hy
    have hps11 := hps.mono s11
    have hdD : d ≠ D := fun z => by
      rw [z, same_new he _ _ hy] at hd
      cases hd
    refine ⟨ys, hy11, small' (m := 40) (by omega), ys ++ [.ref d], same_lst (s10.trans s11) hD, upd_same, ?_, by rw [List.length_append]; show ys.length + 1 = i + 1; omega⟩
    rw [List.take_add_one, hiv]
    refine PLs.snoc ⟨d, rfl, ?_⟩ (PLs.wr hy11 hps11.refs hps11)
    rw [upd_ne hdD]
    exact upd_same
  rw [hil, List.take_length] at hps
  have c10 := c9.trans s10
  refine ⟨D, ys, inv o, rfl, hy, hps, fun zs e hzs he => ?_⟩
  have c11 := c10.trans (same_new (o := .lst zs) he)
  -- the pairs of the drawn word
  refine ⟨_, rfl, _, rfl, d1, u, o.length, rfl, c11 _ _ hd13, hw1, h9, fun H12 tt2 r2 ro2 xs2 s12 ht2 hr2 _ hx2 hps2 => ?_⟩
  have c12 := c11.trans s12
  refine ⟨tt2, _, 1, _, rfl, rfl, .inl (.inl ht2), atI_nat (j := 1) rfl, ?_⟩
  refine ⟨ro2, xs2, prs o.length u, rfl, hx2, hps2, fun zs2 e2 hzs2 he2 => ?_⟩
  have s13 := same_new (o := .lst zs2) he2
  have hsort : (prs o.length u).mergeSort leP = (inv o).mergeSort leP := by
    have hp := least_perm hL.2.1 (by rw [hL.1]; exact hL.2.2)
    rw [hL.1] at hp
    exact sort_eq hp.symm
  rw [hsort] at hzs2
  refine ⟨_, rfl, _, _, .lst (.inl (.inl upd_same)) (PLs.dp (hzs2.mono s13)), .lst (.inl (.inl (s13 _ _ (s12 _ _ upd_same)))) (PLs.dp ((hzs.mono (same_new he)).mono (s12.trans s13))), shaped_dPs _, shaped_dPs _, _, rfl, ?_⟩
  show if (!PyData.eqv (.list (((inv o).mergeSort leP).map dP)) (.list (((inv o).mergeSort leP).map dP))) = true then _ else _
  rw [eqv_dPs]
  refine iteF ?_
  have c13 := c12.trans s13
  -- two letters more that undo one another
  refine ⟨_, rfl, _, _, rfl, rfl, _, rfl, ite2 (fun hm => ?_) (fun hm => ?_)⟩
  case' refine_1 =>
    have hm2 : 1 < o.length := by
      have := of_decide_eq_true hm
      omega
    refine ⟨_, rfl, d1, _, rfl, .inl (Ls.sq (c13 _ _ hd13)), _, _, rfl, rfl, _, rfl, iteD (by rw [len_v1]; omega) ?_⟩
    refine ⟨_, rfl, by show 2 ≤ sizeLine; decide, fun l14 hl14 => ?_⟩
    refine ⟨d1, l14, _, _, rfl, rfl, same_new hl14 _ _ (c13 _ _ hd13), upd_same, small (m := 100) (by rw [len_v1]; show u.length + 2 ≤ 100; omega), fun l15 hl15 => ?_⟩
    have h00 : ordW o.length (u ++ [0, 0]) = o := by
      show ordF _ (u ++ [0, 0]) = o
      rw [ordF_app]
      show swp (swp (ordW o.length u) 0) 0 = o
      rw [swp_swp]
      exact hL.1
    have hw00 : IsWord o.length (u ++ [0, 0]) := ⟨fun k hk => (List.mem_append.mp hk).elim (hw1.1 k) fun hk => by
      have e : k = 0 := by simpa using hk
      omega, by rw [List.length_append]; show u.length + 2 ≤ 40; omega⟩
    refine ⟨_, rfl, l15, u ++ [0, 0], o.length, rfl, .inl (by unfold Ls; rw [upd_same, List.map_append]; rfl), hw00, h1, h9, fun H14 s14 => ⟨_, _, rfl, rfl, _, rfl, iteNS ?_ ?_⟩⟩
    case' refine_1 =>
      refine decide_eq_false ?_
      rw [h00, List.length_append]
      have := hL.2.2
      show ¬ u.length + 2 = _
      omega
    have c14 := c13.trans ((same_new (o := .lst [V.int 1, V.int 1]) hl14).trans ((same_new (o := .lst (u.map v1 ++ [V.int 1, V.int 1])) hl15).trans s14))
  case' refine_2 =>
    refine iteF ?_
    have c14 := c13
  all_goals
    refine ⟨_, rfl, rfl, rfl, a, o, rfl, .inr (ha3.mono c14), ho, fun t2 H15 d3 hL3 s15 nd3 hd3 => ?_⟩
    have c15 := c14.trans s15
    obtain ⟨hw3, ht3⟩ := hL3.word h9
    refine ⟨_, rfl, _, rfl, d3, t2, o.length, rfl, .inl hd3, hw3, h1, h9, fun H16 r16 s16 t16 => ?_⟩
    rw [hL3.1] at t16
    have c16 := c15.trans s16
    refine ⟨_, rfl, _, _, t16.dp, (ha3.mono c16).dp, shT _, shT _, _, rfl, ?_⟩
    rw [eqvT]
    refine iteT ?_
    refine ⟨_, rfl, _, rfl, d3, t2, o.length, rfl, s16 _ _ hd3, hw3, h9, fun H17 tt3 r3 ro3 xs3 s17 ht3' hr3 _ _ _ => ?_⟩
    rw [hL3.1] at hr3
    have c17 := c16.trans s17
    refine ⟨tt3, _, 0, _, rfl, rfl, .inl (.inl ht3'), atI_nat (j := 0) rfl, _, rfl, _, _, hr3.dp, (ha3.mono c17).dp, shT _, shT _, ?_⟩
    rw [eqvT]
    exact q H17 (K3.same c17) (P3.mono c17)
end
end K14
end

section
set_option maxHeartbeats 4000000
namespace K14
open PySem PySem.Spec PyProof.Rows L2
section
variable {P : Program} {w : World} {K : PySem.W.Frag} {mg : Str → Option Value} {base : Heap}
def sp_right : Sp := fun vs H Q _ => ∃ p, vs = [.ref p] ∧ Pot H p ∧ ∀ H', Keep p H H' → Q (.bl true) H'
theorem go_L_right (T : Tx K mg) : GoG P w K mg base 8 "_law_right" ["_law_pot_here"] sp_right := by
  refine goG_mk 7 T.d_L_right sc_L_right (fun _ _ _ _ _ _ us hl => match us, hl with | [_], _ => rfl) (fun vs H Q E ⟨p, e, _⟩ => by rw [e]; rfl) fun f cdv A outer s H vs Q hgd hr h => ?_
  obtain ⟨p, rfl, hp, q⟩ := h
  refine ⟨_, (pss_cons (ps_set (i := 1) sc_L_right.nd rfl (.inl rfl) (pe_op op_add pe_int (pe_go (go_L_draw T) (hr.mono (by decide)) (by rfl) (pa_cons (pv 0) (pa_cons pe_int pa_nil)))))
 (pss_cons (ps_par (i := 2) (j := 3) (by rfl) sc_L_right.nd rfl rfl (by decide) rfl rfl (pa_cons (pe_go (go_L_word T) (hr.mono (by decide)) (by rfl) (pa_cons (pv 0) (pa_cons (pv 1) (pa_cons pe_int pa_nil)))) (pa_cons (pe_go (go_L_order T) (hr.mono (by decide)) (by rfl) (pa_cons (pv 0) (pa_cons (pv 1) pa_nil))) pa_nil)) (by rfl))
 (pss_cons (ps_if (PW.pt (pw_or (pt_not (pt_val (pe_goG (go_L_word_right T) hgd (hr.mono (by decide)) (by rfl) (pa_cons (pv 0) (pa_cons (pv 2) (pa_cons (pv 1) pa_nil)))))) (pw_or1 (pt_not (pt_val (pe_goG (go_L_word_right T) hgd (hr.mono (by decide)) (by rfl) (pa_cons (pv 0) (pa_cons (pe_go (go_L_least_word T) (hr.mono (by decide)) (by rfl) (pa_cons (pv 0) (pa_cons (pv 3) pa_nil))) (pa_cons (pv 1) pa_nil)))))))))
 (pss_one (ps_ret pe_bl)) pss_nil)
 (pss_one (ps_ret (pe_and (pe_go (go_L_least_right T) (hr.mono (by decide)) (by rfl) (pa_cons (pv 0) (pa_cons (pv 3) pa_nil))) (pe_one (pe_go (go_L_behind_right T) (hr.mono (by decide)) (by rfl) (pa_cons (pv 0) (pa_cons (pv 1) pa_nil)))))))))), ?_⟩
  refine ⟨_, rfl, p, 9, rfl, hp, by decide, by decide, fun d H1 hd k1 hp1 => ⟨_, _, rfl, rfl, ?_⟩⟩
  show gName 1 (V.int (1 + (d : Int))) _ _ _
  rw [show (1 : Int) + (d : Int) = ((d + 1 : Nat) : Int) by omega]
  generalize hm : d + 1 = m
  have h1 : 1 ≤ m := by omega
  have h9 : m ≤ 9 := by omega
  refine ⟨_, rfl, _, rfl, p, m, 40, rfl, hp1, h1, h9, by decide, fun u H2 a hu hul k2 hp2 na ha => ?_⟩
  refine ⟨_, rfl, _, rfl, p, m, rfl, hp2, h1, h9, fun o H3 r hpo k3 hp3 hr3 => ⟨_, _, rfl, ?_⟩⟩
  have hol : o.length = m := by
    rw [hpo.length_eq, List.length_range]
  subst hol
  have ho : IsOrd o := ⟨hpo, h1, h9⟩
  have hap : a ≠ p := hp1.ne na
  have ha3 := k3 _ _ hap ha
  refine ⟨_, rfl, _, rfl, _, rfl, p, a, u, o.length, rfl, hp3, hap, ha3, ⟨hu, hul⟩, h1, h9, fun H4 k4 hp4 => ⟨true, rfl, iteF ?_⟩⟩
  have hr4 := hr3.keep k4 hp3
  refine ⟨_, rfl, _, rfl, _, rfl, p, r, o, rfl, hp4, hr4, ho, fun t H5 b hL k5 hp5 nb hb => ?_⟩
  have hw := (hL.word h9).1
  refine ⟨_, rfl, p, b, t, o.length, rfl, hp5, hp4.ne nb, hb, hw, h1, h9, fun H6 k6 hp6 => ⟨true, rfl, iteF ?_⟩⟩
  have hr6 := (hr4.keep k5 hp4).keep k6 hp5
  refine ⟨_, rfl, _, rfl, p, r, o, rfl, hp6, hr6, ho, fun H7 k7 hp7 => ⟨true, rfl, iteT ?_⟩⟩
  exact ⟨_, rfl, _, rfl, p, o.length, rfl, hp7, h1, h9, fun H8 k8 _ => q H8 (((((((k1.trans k2).trans k3).trans k4).trans k5).trans k6).trans k7).trans k8)⟩
def sp_law (K : PySem.W.Frag) : Sp := fun vs H Q _ => ∃ (a : Addr) (ns : List Int), vs = [.ref a] ∧ SqL K H a (ns.map V.int) ∧ ns.length ≤ 63 ∧ ∀ H', Q (.bl true) H'
theorem ok_law (T : Tx K mg) {f : Addr} {fd : FuncData} (F : FnP K "law" s_law f fd) : FnG P w K mg base 9 f fd ["_law_script"] (sp_law K) := by
  refine FunD.okG (k := 8) F sc_law (fun vs H Q E ⟨a, ns, e, _⟩ => by rw [e]; rfl) fun cdv A outer s H vs Q hgd hr h => ?_
  obtain ⟨a, ns, rfl, hS, hl, q⟩ := h
  refine ⟨_, PSs.nox (pss_one (ps_ret (pe_callB (cr_all rfl) (by rfl) T.b_all (by decide +kernel) (pa_cons (pe_lc (own := [("_law_k", 1)]) (g := gName 1) (by rfl) sc_law.nd (pi_range1 (by rfl) T.b_range (pa_cons (pe_callB (call_max2 rfl) (by rfl) T.b_max (by decide +kernel) (pa_cons pe_int (pa_cons (pe_callB (call_min2 rfl) (by rfl) T.b_min (by decide +kernel) (pa_cons pe_int (pa_cons (pe_callB call_len_seq (by rfl) T.b_len PySem.boot_len (pa_cons (pv 0) pa_nil)) pa_nil))) pa_nil))) pa_nil)) (blkOk_by (own := [("_law_k", 1)]) (N := N_law) (sc := (defScope s_law)) (by decide +kernel)) (fun _ _ _ _ _ => pg_name (i := 1) sc_law.nd rfl (.inl rfl)) (fun _ _ _ _ _ => pts_nil) (fun _ _ _ _ _ => (pe_goG (go_L_right T) hgd (hr.mono (by decide)) (by rfl) (pa_cons (pe_go (go_L_pot T) (hr.mono (by decide)) (by rfl) (pa_cons (pv 0) (pa_cons (pv 1) pa_nil))) pa_nil)))) pa_nil)))), ?_⟩
  refine ⟨_, rfl, a, _, rfl, .inl hS, _, _, rfl, _, _, rfl, ?_⟩
  generalize hn : (if (if ((ns.map V.int).length : Int) < 3 then ((ns.map V.int).length : Int) else 3) > 1 then (if ((ns.map V.int).length : Int) < 3 then ((ns.map V.int).length : Int) else 3) else 1) = n
  have hn0 : 1 ≤ n ∧ n ≤ 3 := by
    rw [← hn]
    split <;> split <;> omega
  refine ⟨n, rfl, by omega, by omega, fun D hD => ?_⟩
  refine it_range (fun i H' => Same H H' ∧ H' D = some (.lst ((List.replicate i true).map V.bl))) ⟨same_new hD, upd_same⟩ (fun i H1 hi ⟨s1, h1⟩ => ?_) fun H1 ⟨s1, h1⟩ => ?_
  · rw [Int.zero_add]
    refine ⟨rfl, yesT ?_⟩
    refine ⟨_, rfl, _, rfl, a, ns, i, rfl, s1.seq hS, hl, by omega, fun H2 p s2 np hp => ?_⟩
    refine ⟨p, rfl, hp, fun H3 k3 => ?_⟩
    have s3 : Same H1 H3 := fun b o e => k3 b o (ne_of_none e np) (s2 b o e)
    refine ⟨_, s3 _ _ h1, ?_, same_lst (s1.trans s3) hD, ?_⟩
    · rw [rep_len]
      exact small' (m := 9) (by omega)
    · rw [upd_same, rep_succ]
  · refine ⟨D, _, rfl, .inl (.inl h1), ?_⟩
    rw [rep_all]
    exact q H1
end
end K14
end

section
set_option maxHeartbeats 0
namespace K14
open PySem PySem.Spec PyProof.Rows L2
/-! ### the head: facts by names, the run (printed by gen_head.py) -/
def dd (n : String) (st : Stmt) : He.DefD := ⟨(n, none), n, n, defArgs st, defBody st, defScope st, [], []⟩
def d_is_integer : He.DefD := ⟨("is_integer", none), "is_integer", "is_integer", defArgs s_is_integer, defBody s_is_integer, defScope s_is_integer, [], []⟩
def d_is_count : He.DefD := ⟨("is_count", none), "is_count", "is_count", defArgs s_is_count, defBody s_is_count, defScope s_is_count, [], []⟩
def d_is_list : He.DefD := ⟨("is_list", none), "is_list", "is_list", defArgs s_is_list, defBody s_is_list, defScope s_is_list, [], []⟩
def d_is_order : He.DefD := ⟨("is_order", none), "is_order", "is_order", defArgs s_is_order, defBody s_is_order, defScope s_is_order, [], []⟩
def d_want_many : He.DefD := ⟨("want_many", none), "want_many", "want_many", defArgs s_want_many, defBody s_want_many, defScope s_want_many, [], []⟩
def d_want_order : He.DefD := ⟨("want_order", none), "want_order", "want_order", defArgs s_want_order, defBody s_want_order, defScope s_want_order, [], []⟩
def d_want_alike : He.DefD := ⟨("want_alike", none), "want_alike", "want_alike", defArgs s_want_alike, defBody s_want_alike, defScope s_want_alike, [], []⟩
def d_sorted_order : He.DefD := ⟨("sorted_order", none), "sorted_order", "sorted_order", defArgs s_sorted_order, defBody s_sorted_order, defScope s_sorted_order, [], []⟩
def d_pairs_of_places : He.DefD := ⟨("pairs_of_places", none), "pairs_of_places", "pairs_of_places", defArgs s_pairs_of_places, defBody s_pairs_of_places, defScope s_pairs_of_places, [], []⟩
def d_level_of : He.DefD := ⟨("level_of", none), "level_of", "level_of", defArgs s_level_of, defBody s_level_of, defScope s_level_of, [], []⟩
def d_undone_of : He.DefD := ⟨("undone_of", none), "undone_of", "undone_of", defArgs s_undone_of, defBody s_undone_of, defScope s_undone_of, [], []⟩
def d_behind_of : He.DefD := ⟨("behind_of", none), "behind_of", "behind_of", defArgs s_behind_of, defBody s_behind_of, defScope s_behind_of, [], []⟩
def d_exchanged_in : He.DefD := ⟨("exchanged_in", none), "exchanged_in", "exchanged_in", defArgs s_exchanged_in, defBody s_exchanged_in, defScope s_exchanged_in, [], []⟩
def d_falls_in : He.DefD := ⟨("falls_in", none), "falls_in", "falls_in", defArgs s_falls_in, defBody s_falls_in, defScope s_falls_in, [], []⟩
def d_wrong_pairs : He.DefD := ⟨("wrong_pairs", none), "wrong_pairs", "wrong_pairs", defArgs s_wrong_pairs, defBody s_wrong_pairs, defScope s_wrong_pairs, [], []⟩
def d_level : He.DefD := ⟨("level", none), "level", "level", defArgs s_level, defBody s_level, defScope s_level, [], []⟩
def d_undone : He.DefD := ⟨("undone", none), "undone", "undone", defArgs s_undone, defBody s_undone, defScope s_undone, [], []⟩
def d_one_behind : He.DefD := ⟨("one_behind", none), "one_behind", "one_behind", defArgs s_one_behind, defBody s_one_behind, defScope s_one_behind, [], []⟩
def d_is_letter : He.DefD := ⟨("is_letter", none), "is_letter", "is_letter", defArgs s_is_letter, defBody s_is_letter, defScope s_is_letter, [], []⟩
def d_is_word : He.DefD := ⟨("is_word", none), "is_word", "is_word", defArgs s_is_word, defBody s_is_word, defScope s_is_word, [], []⟩
def d_want_word : He.DefD := ⟨("want_word", none), "want_word", "want_word", defArgs s_want_word, defBody s_want_word, defScope s_want_word, [], []⟩
def d_order_by : He.DefD := ⟨("order_by", none), "order_by", "order_by", defArgs s_order_by, defBody s_order_by, defScope s_order_by, [], []⟩
def d_is_least_in : He.DefD := ⟨("is_least_in", none), "is_least_in", "is_least_in", defArgs s_is_least_in, defBody s_is_least_in, defScope s_is_least_in, [], []⟩
def d_word_of : He.DefD := ⟨("word_of", none), "word_of", "word_of", defArgs s_word_of, defBody s_word_of, defScope s_word_of, [], []⟩
def d_word_order : He.DefD := ⟨("word_order", none), "word_order", "word_order", defArgs s_word_order, defBody s_word_order, defScope s_word_order, [], []⟩
def d_is_least : He.DefD := ⟨("is_least", none), "is_least", "is_least", defArgs s_is_least, defBody s_is_least, defScope s_is_least, [], []⟩
def d_a_word : He.DefD := ⟨("a_word", none), "a_word", "a_word", defArgs s_a_word, defBody s_a_word, defScope s_a_word, [], []⟩
def d_L_pot : He.DefD := ⟨("_law_pot", none), "_law_pot", "_law_pot", defArgs s_L_pot, defBody s_L_pot, defScope s_L_pot, [], []⟩
def d_L_draw : He.DefD := ⟨("_law_draw", none), "_law_draw", "_law_draw", defArgs s_L_draw, defBody s_L_draw, defScope s_L_draw, [], []⟩
def d_L_pick : He.DefD := ⟨("_law_pick", none), "_law_pick", "_law_pick", defArgs s_L_pick, defBody s_L_pick, defScope s_L_pick, [], []⟩
def d_L_order : He.DefD := ⟨("_law_order", none), "_law_order", "_law_order", defArgs s_L_order, defBody s_L_order, defScope s_L_order, [], []⟩
def d_L_passed : He.DefD := ⟨("_law_passed", none), "_law_passed", "_law_passed", defArgs s_L_passed, defBody s_L_passed, defScope s_L_passed, [], []⟩
def d_L_wrong : He.DefD := ⟨("_law_wrong", none), "_law_wrong", "_law_wrong", defArgs s_L_wrong, defBody s_L_wrong, defScope s_L_wrong, [], []⟩
def d_L_exchanged : He.DefD := ⟨("_law_exchanged", none), "_law_exchanged", "_law_exchanged", defArgs s_L_exchanged, defBody s_L_exchanged, defScope s_L_exchanged, [], []⟩
def d_L_word_order : He.DefD := ⟨("_law_word_order", none), "_law_word_order", "_law_word_order", defArgs s_L_word_order, defBody s_L_word_order, defScope s_L_word_order, [], []⟩
def d_L_word : He.DefD := ⟨("_law_word", none), "_law_word", "_law_word", defArgs s_L_word, defBody s_L_word, defScope s_L_word, [], []⟩
def d_L_least_word : He.DefD := ⟨("_law_least_word", none), "_law_least_word", "_law_least_word", defArgs s_L_least_word, defBody s_L_least_word, defScope s_L_least_word, [], []⟩
def d_L_word_right : He.DefD := ⟨("_law_word_right", none), "_law_word_right", "_law_word_right", defArgs s_L_word_right, defBody s_L_word_right, defScope s_L_word_right, [], []⟩
def d_L_least_right : He.DefD := ⟨("_law_least_right", none), "_law_least_right", "_law_least_right", defArgs s_L_least_right, defBody s_L_least_right, defScope s_L_least_right, [], []⟩
def d_L_behind_right : He.DefD := ⟨("_law_behind_right", none), "_law_behind_right", "_law_behind_right", defArgs s_L_behind_right, defBody s_L_behind_right, defScope s_L_behind_right, [], []⟩
def d_L_right : He.DefD := ⟨("_law_right", none), "_law_right", "_law_right", defArgs s_L_right, defBody s_L_right, defScope s_L_right, [], []⟩
def d_law : He.DefD := ⟨("law", none), "law", "law", defArgs s_law, defBody s_law, defScope s_law, [], []⟩
def fnA : List He.DefD := [d_is_integer, d_is_count, d_is_list, d_is_order, d_want_many, d_want_order, d_want_alike, d_sorted_order, d_pairs_of_places, d_level_of, d_undone_of, d_behind_of, d_exchanged_in, d_falls_in, d_wrong_pairs, d_level, d_undone, d_one_behind, d_is_letter, d_is_word, d_want_word, d_order_by, d_is_least_in, d_word_of, d_word_order]
def fnB : List He.DefD := [d_is_least, d_a_word, d_L_pot, d_L_draw, d_L_pick, d_L_order, d_L_passed, d_L_wrong, d_L_exchanged, d_L_word_order, d_L_word, d_L_least_word, d_L_word_right, d_L_least_right, d_L_behind_right, d_L_right, d_law]
def fn : List He.DefD := fnA ++ fnB
def faA : List He.Fa := [.glo "is_integer", .glo "is_count", .glo "is_list", .glo "is_order", .glo "want_many", .glo "want_order", .glo "want_alike", .glo "sorted_order", .glo "pairs_of_places", .glo "level_of", .glo "undone_of", .glo "behind_of", .glo "exchanged_in", .glo "falls_in", .glo "wrong_pairs", .glo "level", .glo "undone", .glo "one_behind", .glo "is_letter", .glo "is_word", .glo "want_word", .glo "order_by", .glo "is_least_in", .glo "word_of", .glo "word_order", .glo "is_least", .glo "a_word", .glo "_law_pot", .glo "_law_draw", .glo "_law_pick"]
def faB : List He.Fa := [.glo "_law_order", .glo "_law_passed", .glo "_law_wrong", .glo "_law_exchanged", .glo "_law_word_order", .glo "_law_word", .glo "_law_least_word", .glo "_law_word_right", .glo "_law_least_right", .glo "_law_behind_right", .glo "_law_right", .glo "law", .int "MOST_THINGS" 9, .int "MOST_LETTERS" 40, .free "isinstance", .free "int", .free "bool", .free "list", .free "tuple", .free "len", .free "all", .free "sorted", .free "range", .free "abs", .free "max", .free "min", .free "divmod", .free "repr"]
def fa : List He.Fa := faA ++ faB
def looseA : List PySem.Str := ["ShelfError", "StateError", "InvalidMany", "InvalidOrder", "InvalidWord", "UnlikeSizes", "MOST_THINGS", "is_integer", "is_count", "is_list", "is_order", "want_many", "want_order", "want_alike", "sorted_order", "pairs_of_places", "level_of", "undone_of", "behind_of", "exchanged_in", "falls_in", "wrong_pairs", "level", "undone", "one_behind", "MOST_LETTERS", "is_letter", "is_word"]
def looseB : List PySem.Str := ["want_word", "order_by", "is_least_in", "word_of", "word_order", "is_least", "a_word", "_law_pot", "_law_draw", "_law_pick", "_law_order", "_law_passed", "_law_wrong", "_law_exchanged", "_law_word_order", "_law_word", "_law_least_word", "_law_word_right", "_law_least_right", "_law_behind_right", "_law_right"]
def loose : List PySem.Str := looseA ++ looseB
abbrev R : PySem.W.OpenRow := PySem.W.OpenLaw.row PySem.Challenge.rw_lowerboards_k14_whole_words_and_their_or
abbrev hk : PySem.W.Hook := He.hookD 4 fa fn
def ob (s : PySem.W.SharedT) : He.AlD := He.obsDG 4 fa fn (HandSHeadRun.getT s)
theorem ob_eq (s : PySem.W.SharedT) : ob s = hk.obs s.abs := He.obsDG_eq (HandSHeadRun.getT_eq s)
theorem run (w : World) : HandSHeadRun.RunEq R (PySem.W.view R.prog [54]) hk ob 4000 loose w := by
  intro os
  kernel_rfl
end K14
end

section
set_option maxHeartbeats 0
namespace K14
open PySem PySem.Spec PyProof.Rows L2
theorem tx_of {K : PySem.W.Frag} {h : Heap} {mg : Str → Option Value} (X : K.In h) (G : h.Ns mainGlobals mg) (c : He.SaysD fa fn K) : Tx K mg where
  d_is_integer := by
    obtain ⟨fd, F⟩ := c.def_ 0 (d := d_is_integer) rfl
    exact ⟨_, fd, F, He.glo_ok X G (c.fact 0 (f := .glo "is_integer") rfl)⟩
  d_is_count := by
    obtain ⟨fd, F⟩ := c.def_ 1 (d := d_is_count) rfl
    exact ⟨_, fd, F, He.glo_ok X G (c.fact 1 (f := .glo "is_count") rfl)⟩
  d_is_list := by
    obtain ⟨fd, F⟩ := c.def_ 2 (d := d_is_list) rfl
    exact ⟨_, fd, F, He.glo_ok X G (c.fact 2 (f := .glo "is_list") rfl)⟩
  d_is_order := by
    obtain ⟨fd, F⟩ := c.def_ 3 (d := d_is_order) rfl
    exact ⟨_, fd, F, He.glo_ok X G (c.fact 3 (f := .glo "is_order") rfl)⟩
  d_want_many := by
    obtain ⟨fd, F⟩ := c.def_ 4 (d := d_want_many) rfl
    exact ⟨_, fd, F, He.glo_ok X G (c.fact 4 (f := .glo "want_many") rfl)⟩
  d_want_order := by
    obtain ⟨fd, F⟩ := c.def_ 5 (d := d_want_order) rfl
    exact ⟨_, fd, F, He.glo_ok X G (c.fact 5 (f := .glo "want_order") rfl)⟩
  d_want_alike := by
    obtain ⟨fd, F⟩ := c.def_ 6 (d := d_want_alike) rfl
    exact ⟨_, fd, F, He.glo_ok X G (c.fact 6 (f := .glo "want_alike") rfl)⟩
  d_sorted_order := by
    obtain ⟨fd, F⟩ := c.def_ 7 (d := d_sorted_order) rfl
    exact ⟨_, fd, F, He.glo_ok X G (c.fact 7 (f := .glo "sorted_order") rfl)⟩
  d_pairs_of_places := by
    obtain ⟨fd, F⟩ := c.def_ 8 (d := d_pairs_of_places) rfl
    exact ⟨_, fd, F, He.glo_ok X G (c.fact 8 (f := .glo "pairs_of_places") rfl)⟩
  d_level_of := by
    obtain ⟨fd, F⟩ := c.def_ 9 (d := d_level_of) rfl
    exact ⟨_, fd, F, He.glo_ok X G (c.fact 9 (f := .glo "level_of") rfl)⟩
  d_undone_of := by
    obtain ⟨fd, F⟩ := c.def_ 10 (d := d_undone_of) rfl
    exact ⟨_, fd, F, He.glo_ok X G (c.fact 10 (f := .glo "undone_of") rfl)⟩
  d_behind_of := by
    obtain ⟨fd, F⟩ := c.def_ 11 (d := d_behind_of) rfl
    exact ⟨_, fd, F, He.glo_ok X G (c.fact 11 (f := .glo "behind_of") rfl)⟩
  d_exchanged_in := by
    obtain ⟨fd, F⟩ := c.def_ 12 (d := d_exchanged_in) rfl
    exact ⟨_, fd, F, He.glo_ok X G (c.fact 12 (f := .glo "exchanged_in") rfl)⟩
  d_falls_in := by
    obtain ⟨fd, F⟩ := c.def_ 13 (d := d_falls_in) rfl
    exact ⟨_, fd, F, He.glo_ok X G (c.fact 13 (f := .glo "falls_in") rfl)⟩
  d_wrong_pairs := by
    obtain ⟨fd, F⟩ := c.def_ 14 (d := d_wrong_pairs) rfl
    exact ⟨_, fd, F, He.glo_ok X G (c.fact 14 (f := .glo "wrong_pairs") rfl)⟩
  d_level := by
    obtain ⟨fd, F⟩ := c.def_ 15 (d := d_level) rfl
    exact ⟨_, fd, F, He.glo_ok X G (c.fact 15 (f := .glo "level") rfl)⟩
  d_undone := by
    obtain ⟨fd, F⟩ := c.def_ 16 (d := d_undone) rfl
    exact ⟨_, fd, F, He.glo_ok X G (c.fact 16 (f := .glo "undone") rfl)⟩
  d_one_behind := by
    obtain ⟨fd, F⟩ := c.def_ 17 (d := d_one_behind) rfl
    exact ⟨_, fd, F, He.glo_ok X G (c.fact 17 (f := .glo "one_behind") rfl)⟩
  d_is_letter := by
    obtain ⟨fd, F⟩ := c.def_ 18 (d := d_is_letter) rfl
    exact ⟨_, fd, F, He.glo_ok X G (c.fact 18 (f := .glo "is_letter") rfl)⟩
  d_is_word := by
    obtain ⟨fd, F⟩ := c.def_ 19 (d := d_is_word) rfl
    exact ⟨_, fd, F, He.glo_ok X G (c.fact 19 (f := .glo "is_word") rfl)⟩
  d_want_word := by
    obtain ⟨fd, F⟩ := c.def_ 20 (d := d_want_word) rfl
    exact ⟨_, fd, F, He.glo_ok X G (c.fact 20 (f := .glo "want_word") rfl)⟩
  d_order_by := by
    obtain ⟨fd, F⟩ := c.def_ 21 (d := d_order_by) rfl
    exact ⟨_, fd, F, He.glo_ok X G (c.fact 21 (f := .glo "order_by") rfl)⟩
  d_is_least_in := by
    obtain ⟨fd, F⟩ := c.def_ 22 (d := d_is_least_in) rfl
    exact ⟨_, fd, F, He.glo_ok X G (c.fact 22 (f := .glo "is_least_in") rfl)⟩
  d_word_of := by
    obtain ⟨fd, F⟩ := c.def_ 23 (d := d_word_of) rfl
    exact ⟨_, fd, F, He.glo_ok X G (c.fact 23 (f := .glo "word_of") rfl)⟩
  d_word_order := by
    obtain ⟨fd, F⟩ := c.def_ 24 (d := d_word_order) rfl
    exact ⟨_, fd, F, He.glo_ok X G (c.fact 24 (f := .glo "word_order") rfl)⟩
  d_is_least := by
    obtain ⟨fd, F⟩ := c.def_ 25 (d := d_is_least) rfl
    exact ⟨_, fd, F, He.glo_ok X G (c.fact 25 (f := .glo "is_least") rfl)⟩
  d_a_word := by
    obtain ⟨fd, F⟩ := c.def_ 26 (d := d_a_word) rfl
    exact ⟨_, fd, F, He.glo_ok X G (c.fact 26 (f := .glo "a_word") rfl)⟩
  d_L_pot := by
    obtain ⟨fd, F⟩ := c.def_ 27 (d := d_L_pot) rfl
    exact ⟨_, fd, F, He.glo_ok X G (c.fact 27 (f := .glo "_law_pot") rfl)⟩
  d_L_draw := by
    obtain ⟨fd, F⟩ := c.def_ 28 (d := d_L_draw) rfl
    exact ⟨_, fd, F, He.glo_ok X G (c.fact 28 (f := .glo "_law_draw") rfl)⟩
  d_L_pick := by
    obtain ⟨fd, F⟩ := c.def_ 29 (d := d_L_pick) rfl
    exact ⟨_, fd, F, He.glo_ok X G (c.fact 29 (f := .glo "_law_pick") rfl)⟩
  d_L_order := by
    obtain ⟨fd, F⟩ := c.def_ 30 (d := d_L_order) rfl
    exact ⟨_, fd, F, He.glo_ok X G (c.fact 30 (f := .glo "_law_order") rfl)⟩
  d_L_passed := by
    obtain ⟨fd, F⟩ := c.def_ 31 (d := d_L_passed) rfl
    exact ⟨_, fd, F, He.glo_ok X G (c.fact 31 (f := .glo "_law_passed") rfl)⟩
  d_L_wrong := by
    obtain ⟨fd, F⟩ := c.def_ 32 (d := d_L_wrong) rfl
    exact ⟨_, fd, F, He.glo_ok X G (c.fact 32 (f := .glo "_law_wrong") rfl)⟩
  d_L_exchanged := by
    obtain ⟨fd, F⟩ := c.def_ 33 (d := d_L_exchanged) rfl
    exact ⟨_, fd, F, He.glo_ok X G (c.fact 33 (f := .glo "_law_exchanged") rfl)⟩
  d_L_word_order := by
    obtain ⟨fd, F⟩ := c.def_ 34 (d := d_L_word_order) rfl
    exact ⟨_, fd, F, He.glo_ok X G (c.fact 34 (f := .glo "_law_word_order") rfl)⟩
  d_L_word := by
    obtain ⟨fd, F⟩ := c.def_ 35 (d := d_L_word) rfl
    exact ⟨_, fd, F, He.glo_ok X G (c.fact 35 (f := .glo "_law_word") rfl)⟩
  d_L_least_word := by
    obtain ⟨fd, F⟩ := c.def_ 36 (d := d_L_least_word) rfl
    exact ⟨_, fd, F, He.glo_ok X G (c.fact 36 (f := .glo "_law_least_word") rfl)⟩
  d_L_word_right := by
    obtain ⟨fd, F⟩ := c.def_ 37 (d := d_L_word_right) rfl
    exact ⟨_, fd, F, He.glo_ok X G (c.fact 37 (f := .glo "_law_word_right") rfl)⟩
  d_L_least_right := by
    obtain ⟨fd, F⟩ := c.def_ 38 (d := d_L_least_right) rfl
    exact ⟨_, fd, F, He.glo_ok X G (c.fact 38 (f := .glo "_law_least_right") rfl)⟩
  d_L_behind_right := by
    obtain ⟨fd, F⟩ := c.def_ 39 (d := d_L_behind_right) rfl
    exact ⟨_, fd, F, He.glo_ok X G (c.fact 39 (f := .glo "_law_behind_right") rfl)⟩
  d_L_right := by
    obtain ⟨fd, F⟩ := c.def_ 40 (d := d_L_right) rfl
    exact ⟨_, fd, F, He.glo_ok X G (c.fact 40 (f := .glo "_law_right") rfl)⟩
  i_things := He.int_ok X G (c.fact 42 (f := .int "MOST_THINGS" 9) rfl)
  i_letters := He.int_ok X G (c.fact 43 (f := .int "MOST_LETTERS" 40) rfl)
  b_isinstance := He.free_ok X G (c.fact 44 (f := .free "isinstance") rfl)
  b_int := He.free_ok X G (c.fact 45 (f := .free "int") rfl)
  b_bool := He.free_ok X G (c.fact 46 (f := .free "bool") rfl)
  b_list := He.free_ok X G (c.fact 47 (f := .free "list") rfl)
  b_tuple := He.free_ok X G (c.fact 48 (f := .free "tuple") rfl)
  b_len := He.free_ok X G (c.fact 49 (f := .free "len") rfl)
  b_all := He.free_ok X G (c.fact 50 (f := .free "all") rfl)
  b_sorted := He.free_ok X G (c.fact 51 (f := .free "sorted") rfl)
  b_range := He.free_ok X G (c.fact 52 (f := .free "range") rfl)
  b_abs := He.free_ok X G (c.fact 53 (f := .free "abs") rfl)
  b_max := He.free_ok X G (c.fact 54 (f := .free "max") rfl)
  b_min := He.free_ok X G (c.fact 55 (f := .free "min") rfl)
  b_divmod := He.free_ok X G (c.fact 56 (f := .free "divmod") rfl)
  b_repr := He.free_ok X G (c.fact 57 (f := .free "repr") rfl)
def lawIx : Nat := 41
theorem facts {P : Program} {w : World} {K : PySem.W.Frag} {h : Heap} {mg : Str → Option Value} {f : Addr} (X : K.In h) (G : h.Ns mainGlobals mg) (hfa : mg ("law" : Str) = some (.ref f)) (c : He.SaysD fa fn K) :
    ∃ fd : FuncData, (∀ (s : Shared) (v : Value), BindsTo s fd ⟨[v], []⟩ [("_law_script", v)]) ∧ ∀ base : Heap, K.In base → base.Ns mainGlobals mg → FnG P w K mg base 9 f fd ["_law_script"] (sp_law K) := by
  obtain ⟨fd, F⟩ := c.def_ lawIx (d := d_law) rfl
  have e := hfa.symm.trans (He.glo_ok X G (c.fact lawIx (f := .glo "law") rfl))
  cases e
  have b := FunD.bindsA (ps := ["_law_script"]) F fun _ _ _ _ _ _ us hl => match us, hl with | [_], _ => rfl
  exact ⟨fd, fun s v => b s [v] rfl, fun base _ _ => ok_law (tx_of X G c) F⟩
end K14
open PySem PySem.W PySem.Calls PyProof.Rows
theorem PySem.Challenge.cw_lowerboards_k14_whole_words_and_their_or_holds : PySem.Challenge.rw_lowerboards_k14_whole_words_and_their_or.Holds := by
  w_on; o_law
  refine HandSHeadRun.head_any (r := K14.R) (q := view K14.R.prog [54]) (H := K14.hk) (ob := K14.ob) (M := 4000) (loose := K14.loose) (d := HandSHeadRun.topDef K14.R.prog 54) (kwd := []) K14.ob_eq
    (by kernel_rfl) (fun s => by kernel_rfl) K14.run (by kernel_rfl) (by kernel_rfl) (by kernel_rfl) (by rfl) (by first | assumption | decide +kernel) (by decide +kernel) ⟨rfl, rfl, rfl, rfl, rfl, by decide +kernel⟩ ?hw ?hc
  case hw => w_witness2
  case hc =>
    refine K14.walk_ofG (l := PySem.Challenge.rw_lowerboards_k14_whole_words_and_their_or) (n := 63) (k := 9) (x := "_law_script") rfl (by decide) (by kernel_rfl) ⟨rfl, by decide, by decide⟩ ?F
    intro w mg fa h Y G hmg0
    obtain ⟨K, KX, c⟩ := Y
    have hmg : mg ("law" : PySem.Str) = some (.ref fa) := by
      have e : (HandSHeadRun.topDef K14.R.prog 54).name = ("law" : PySem.Str) := by kernel_rfl
      rw [← e]
      exact hmg0
    obtain ⟨fd, hb, hF⟩ := K14.facts (P := (PySem.Challenge.rw_lowerboards_k14_whole_words_and_their_or).prog) (w := w) KX G hmg c
    exact ⟨K, fd, K14.sp_law K, KX, hb, fun H a ns hl hS => ⟨a, ns, rfl, hS, hl, fun _ => rfl⟩, hF⟩
end
