import PyProof.Rows.All
import HandS.ForMost
import HandS.Defaults
import HandS.NestedK
import HandS.Flow
import HandS.IsInst
import HandS.Deep
import HandS.SetKeys
import HandS.SetFor
import HandS.TupSets
import HandS.SortKw
import HandS.Conv
import HandS.SortInts
import HandS.More
import HandS.Walk
import KE.KSortTupG
import PySem.Challenge.RW_triesgrow_k44_whole_rounds_laid_again
import KE.KeyNested
import HandS.SetTxt0
import HandS.WideBits
import Wide.All
import OpenK.AllK
import Wide.FinOn
import KE.KStateDown
import Lean
import HandS.EndTab
import HandS.Head0
import HandS.Head1
import HandS.Head2
import HandS.HeadEnd
import HandS.HeadHook4
import HandS.HeadWalk
set_option Elab.async false
set_option linter.all false
set_option maxHeartbeats 4000000
namespace K44
/-! ### words, reach, the words in their order -/
section
variable {α : Type}
def RW (g : α → Nat → α → Prop) : α → List Nat → α → Prop
  | a, [], b => a = b
  | a, s :: w, b => ∃ c, g a s c ∧ RW g c w b
theorem RW.snoc {g : α → Nat → α → Prop} : ∀ {w : List Nat} {a b c : α} {s : Nat}, RW g a w b → g b s c → RW g a (w ++ [s]) c
  | [], a, b, c, s, h, k => by
    have e : a = b := h
    subst e
    exact ⟨c, k, rfl⟩
  | t :: w, a, b, c, s, h, k => by
    obtain ⟨d, h1, h2⟩ := h
    exact ⟨d, h1, RW.snoc h2 k⟩
theorem RW.unsnoc {g : α → Nat → α → Prop} : ∀ {w : List Nat} {a c : α} {s : Nat}, RW g a (w ++ [s]) c → ∃ b, RW g a w b ∧ g b s c
  | [], a, c, s, h => by
    obtain ⟨d, h1, h2⟩ := h
    have e : d = c := h2
    subst e
    exact ⟨a, rfl, h1⟩
  | t :: w, a, c, s, h => by
    obtain ⟨d, h1, h2⟩ := h
    obtain ⟨b, h3, h4⟩ := RW.unsnoc h2
    exact ⟨b, ⟨d, h1, h3⟩, h4⟩
theorem RW.map {β : Type} {g : α → Nat → α → Prop} {g' : β → Nat → β → Prop} (f : α → β) (hg : ∀ a s b, g a s b → g' (f a) s (f b)) : ∀ {w : List Nat} {a b : α}, RW g a w b → RW g' (f a) w (f b)
  | [], a, b, h => congrArg f h
  | s :: w, a, b, h => by
    obtain ⟨c, h1, h2⟩ := h
    exact ⟨f c, hg _ _ _ h1, RW.map f hg h2⟩
theorem RW.rev {β : Type} {g : α → Nat → α → Prop} {g' : β → Nat → β → Prop} (f : α → β) (hg : ∀ a s b, g a s b → g' (f b) s (f a)) : ∀ {w : List Nat} {a b : α}, RW g a w b → RW g' (f b) w.reverse (f a)
  | [], a, b, h => by
    have e : a = b := h
    subst e
    exact rfl
  | s :: w, a, b, h => by
    obtain ⟨c, h1, h2⟩ := h
    rw [List.reverse_cons]
    exact RW.snoc (RW.rev f hg h2) (hg _ _ _ h1)
theorem RW.signs {g : α → Nat → α → Prop} {ss : List Nat} (hg : ∀ a s b, g a s b → s ∈ ss) : ∀ {w : List Nat} {a b : α}, RW g a w b → ∀ s ∈ w, s ∈ ss
  | [], _, _, _, s, hs => by cases hs
  | t :: w, a, b, h, s, hs => by
    obtain ⟨c, h1, h2⟩ := h
    rcases List.mem_cons.mp hs with e | hs
    · rw [e]
      exact hg _ _ _ h1
    · exact RW.signs hg h2 s hs
end
def wd (ss : List Nat) (n : Nat) : List Nat := if h : n = 0 then [] else wd ss ((n - 1) / ss.length) ++ [ss.getD ((n - 1) % ss.length) 0]
termination_by n
decreasing_by exact Nat.lt_of_le_of_lt (Nat.div_le_self _ _) (by omega)
theorem wd_zero (ss : List Nat) : wd ss 0 = [] := by
  rw [wd, dif_pos rfl]
theorem wd_pos {ss : List Nat} {n : Nat} (h : 1 ≤ n) : wd ss n = wd ss ((n - 1) / ss.length) ++ [ss.getD ((n - 1) % ss.length) 0] := by
  rw [wd, dif_neg (by omega)]
theorem wd_step {ss : List Nat} {p i : Nat} (hi : i < ss.length) : wd ss (ss.length * p + i + 1) = wd ss p ++ [ss.getD i 0] := by
  rw [wd_pos (by omega), Nat.add_sub_cancel, Nat.mul_add_div (by omega), Nat.mul_add_mod, Nat.div_eq_of_lt hi, Nat.mod_eq_of_lt hi, Nat.add_zero]
theorem wd_all (ss : List Nat) : ∀ w : List Nat, (∀ s ∈ w, s ∈ ss) → ∃ n, wd ss n = w.reverse ∧ (w ≠ [] → 1 ≤ n)
  | [], _ => ⟨0, wd_zero ss, fun h => absurd rfl h⟩
  | s :: w, h => by
    obtain ⟨n, e, _⟩ := wd_all ss w fun t ht => h t (List.mem_cons_of_mem _ ht)
    obtain ⟨i, hi, es⟩ := List.mem_iff_getElem.mp (h s List.mem_cons_self)
    refine ⟨ss.length * n + i + 1, ?_, fun _ => by omega⟩
    rw [wd_step hi, e, List.reverse_cons]
    rw [List.getD_eq_getElem?_getD, List.getElem?_eq_getElem hi, es]
    rfl
theorem wd_word (ss : List Nat) (w : List Nat) (h : ∀ s ∈ w, s ∈ ss) : ∃ n, wd ss n = w ∧ (w ≠ [] → 1 ≤ n) := by
  obtain ⟨n, e, q⟩ := wd_all ss w.reverse fun s hs => h s (List.mem_reverse.mp hs)
  rw [List.reverse_reverse] at e
  exact ⟨n, e, fun hw => q fun z => hw (by rw [← List.reverse_reverse w, z]; rfl)⟩
theorem wd_len_mono (ss : List Nat) : ∀ (n' n : Nat), n ≤ n' → (wd ss n).length ≤ (wd ss n').length := by
  intro n'
  induction n' using Nat.strongRecOn with
  | ind n' ih =>
    intro n hn
    by_cases h0 : n = 0
    · subst h0
      rw [wd_zero]
      exact Nat.zero_le _
    · have h1 : 1 ≤ n := by omega
      have h2 : 1 ≤ n' := by omega
      rw [wd_pos h1, wd_pos h2, List.length_append, List.length_append]
      have := ih ((n' - 1) / ss.length) (Nat.lt_of_le_of_lt (Nat.div_le_self _ _) (by omega)) ((n - 1) / ss.length) (Nat.div_le_div_right (by omega))
      simp only [List.length_cons, List.length_nil]
      omega
theorem wd_ne {ss : List Nat} {n : Nat} (h : 1 ≤ n) : wd ss n ≠ [] := by
  rw [wd_pos h]
  simp
theorem least_ex {P : Nat → Prop} (h : ∃ n, P n) : ∃ n, P n ∧ ∀ k, k < n → ¬ P k := by
  obtain ⟨n, hn⟩ := h
  induction n using Nat.strongRecOn with
  | ind n ih =>
    by_cases hk : ∃ k, k < n ∧ P k
    · obtain ⟨k, h1, h2⟩ := hk
      exact ih k h1 h2
    · exact ⟨n, hn, fun k h1 h2 => hk ⟨k, h1, h2⟩⟩
section
variable {α : Type}
open Classical in
noncomputable def firstW (ss : List Nat) (g : α → Nat → α → Prop) (start goal : α) : Option (List Nat) :=
  if h : ∃ n, 1 ≤ n ∧ RW g start (wd ss n) goal then some (wd ss (Classical.choose (least_ex h))) else none
variable {ss : List Nat} {g : α → Nat → α → Prop} {start goal : α}
theorem firstW_spec {w : List Nat} (h : firstW ss g start goal = some w) : ∃ n, 1 ≤ n ∧ w = wd ss n ∧ RW g start (wd ss n) goal ∧ ∀ k, 1 ≤ k → k < n → ¬ RW g start (wd ss k) goal := by
  unfold firstW at h
  split at h
  · rename_i hx
    have q := Classical.choose_spec (least_ex hx)
    exact ⟨_, q.1.1, (Option.some.inj h).symm, q.1.2, fun k h1 h2 h3 => q.2 k h2 ⟨h1, h3⟩⟩
  · cases h
theorem firstW_some {n : Nat} (h1 : 1 ≤ n) (h2 : RW g start (wd ss n) goal) (h3 : ∀ k, 1 ≤ k → k < n → ¬ RW g start (wd ss k) goal) : firstW ss g start goal = some (wd ss n) := by
  have hx : ∃ n, 1 ≤ n ∧ RW g start (wd ss n) goal := ⟨n, h1, h2⟩
  unfold firstW
  rw [dif_pos hx]
  have q := Classical.choose_spec (least_ex hx)
  have e : Classical.choose (least_ex hx) = n := by
    rcases Nat.lt_trichotomy (Classical.choose (least_ex hx)) n with l | l | l
    · exact absurd q.1.2 (h3 _ q.1.1 l)
    · exact l
    · exact absurd ⟨h1, h2⟩ (q.2 n l)
  rw [e]
theorem firstW_none (h : ∀ n, 1 ≤ n → ¬ RW g start (wd ss n) goal) : firstW ss g start goal = none := by
  unfold firstW
  exact dif_neg fun ⟨n, h1, h2⟩ => h n h1 h2
theorem firstW_none_iff (hg : ∀ a s b, g a s b → s ∈ ss) : firstW ss g start goal = none ↔ ∀ w, w ≠ [] → ¬ RW g start w goal := by
  constructor
  · intro h w hw hr
    obtain ⟨n, e, q⟩ := wd_word ss w (RW.signs hg hr)
    unfold firstW at h
    rw [dif_pos ⟨n, q hw, by rw [e]; exact hr⟩] at h
    cases h
  · intro h
    exact firstW_none fun n hn => h _ (wd_ne hn)
theorem firstW_reach {w : List Nat} (h : firstW ss g start goal = some w) : w ≠ [] ∧ RW g start w goal := by
  obtain ⟨n, h1, e, h2, _⟩ := firstW_spec h
  rw [e]
  exact ⟨wd_ne h1, h2⟩
theorem firstW_short (hg : ∀ a s b, g a s b → s ∈ ss) {w : List Nat} (h : firstW ss g start goal = some w) {w' : List Nat} (hw : w' ≠ []) (hr : RW g start w' goal) : w.length ≤ w'.length := by
  obtain ⟨n, h1, e, h2, h3⟩ := firstW_spec h
  obtain ⟨k, ek, q⟩ := wd_word ss w' (RW.signs hg hr)
  rw [e, ← ek]
  refine wd_len_mono ss _ _ (Nat.le_of_not_lt fun l => h3 k (q hw) l ?_)
  rw [ek]
  exact hr
/-- the same words lead: the same first word -/
theorem firstW_congr {β : Type} {g' : β → Nat → β → Prop} {start' goal' : β} (h : ∀ w, RW g start w goal ↔ RW g' start' w goal') : firstW ss g start goal = firstW ss g' start' goal' := by
  cases e : firstW ss g start goal with
  | none =>
    refine (firstW_none fun n hn hr => ?_).symm
    unfold firstW at e
    rw [dif_pos ⟨n, hn, (h _).mpr hr⟩] at e
    cases e
  | some w =>
    obtain ⟨n, h1, ew, h2, h3⟩ := firstW_spec e
    rw [ew]
    exact (firstW_some h1 ((h _).mp h2) fun k k1 k2 k3 => h3 k k1 k2 ((h _).mpr k3)).symm
/-- turned words lead: a first word as long -/
theorem firstW_rev {β : Type} {g' : β → Nat → β → Prop} {start' goal' : β} (hg : ∀ a s b, g a s b → s ∈ ss) (hg' : ∀ a s b, g' a s b → s ∈ ss) (h : ∀ w, RW g start w goal → RW g' start' w.reverse goal')
    (h' : ∀ w, RW g' start' w goal' → RW g start w.reverse goal) : (firstW ss g' start' goal').map List.length = (firstW ss g start goal).map List.length := by
  have ne : ∀ w : List Nat, w ≠ [] → w.reverse ≠ [] := fun w hw z => hw (by rw [← List.reverse_reverse w, z]; rfl)
  cases e : firstW ss g start goal with
  | none =>
    have q : firstW ss g' start' goal' = none := (firstW_none_iff hg').mpr fun w hw hr => (firstW_none_iff hg).mp e _ (ne w hw) (h' w hr)
    rw [q]
  | some w =>
    obtain ⟨hw, hr⟩ := firstW_reach e
    cases e' : firstW ss g' start' goal' with
    | none => exact absurd (h w hr) ((firstW_none_iff hg').mp e' _ (ne w hw))
    | some w' =>
      obtain ⟨hw', hr'⟩ := firstW_reach e'
      have l1 := firstW_short hg e (ne w' hw') (h' w' hr')
      have l2 := firstW_short hg' e' (ne w hw) (h w hr)
      rw [List.length_reverse] at l1 l2
      show some w'.length = some w.length
      rw [show w'.length = w.length by omega]
end
/-! ### the search, set by set -/
section
variable {α : Type} (ss : List Nat) (g : α → Nat → α → Prop) (start goal : α)
def Rn (n : Nat) (x : α) : Prop := RW g start (wd ss n) x
def Fn (p : Nat) (x : α) : Prop := Rn ss g start p x ∧ ∀ k, 1 ≤ k → k < p → ¬ Rn ss g start k x
structure BInv (ks : List α) (wt : List (List α × Nat)) (q : Nat) : Prop where
  kn : ∀ x, x ∈ ks ↔ ∃ n, 1 ≤ n ∧ n < ss.length * q + 1 ∧ Rn ss g start n x
  ns : ∀ e ∈ wt, ∀ x, x ∈ e.1 ↔ Fn ss g start e.2 x
  inc : wt.Pairwise fun a b => a.2 < b.2
  cov : ∀ j, q ≤ j → j < ss.length * q + 1 → (∃ x, Fn ss g start j x) → ∃ e ∈ wt, e.2 = j
  bd : ∀ e ∈ wt, q ≤ e.2 ∧ e.2 < ss.length * q + 1
  ng : goal ∉ ks
  len : ∀ e ∈ wt, (wd ss e.2).length ≤ ks.length
structure SInv (ks : List α) (wt : List (List α × Nat)) (p i : Nat) : Prop where
  kn : ∀ x, x ∈ ks ↔ ∃ n, 1 ≤ n ∧ n < ss.length * p + i + 1 ∧ Rn ss g start n x
  ns : ∀ e ∈ wt, ∀ x, x ∈ e.1 ↔ Fn ss g start e.2 x
  inc : wt.Pairwise fun a b => a.2 < b.2
  cov : ∀ j, p < j → j < ss.length * p + i + 1 → (∃ x, Fn ss g start j x) → ∃ e ∈ wt, e.2 = j
  bd : ∀ e ∈ wt, p < e.2 ∧ e.2 < ss.length * p + i + 1
  ng : goal ∉ ks
  len : ∀ e ∈ wt, (wd ss e.2).length ≤ ks.length
end
section
variable {α : Type} {ss : List Nat} {g : α → Nat → α → Prop} {start goal : α}
theorem Rn.pred (hg : ∀ a s b, g a s b → s ∈ ss) {n : Nat} {x : α} (h1 : 1 ≤ n) (h : Rn ss g start n x) : 1 ≤ ss.length ∧ ∃ y, Rn ss g start ((n - 1) / ss.length) y ∧ g y (ss.getD ((n - 1) % ss.length) 0) x := by
  unfold Rn at h
  rw [wd_pos h1] at h
  obtain ⟨y, h2, h3⟩ := RW.unsnoc h
  exact ⟨List.length_pos_of_mem (hg _ _ _ h3), y, h2, h3⟩
theorem Rn.succ {j i : Nat} {x y : α} (h : Rn ss g start j y) (hi : i < ss.length) (hs : g y (ss.getD i 0) x) : Rn ss g start (ss.length * j + i + 1) x := by
  unfold Rn
  rw [wd_step hi]
  exact RW.snoc h hs
theorem Fn.not {p : Nat} {x : α} (h : Rn ss g start p x) (h2 : ¬ Fn ss g start p x) : ∃ k, 1 ≤ k ∧ k < p ∧ Rn ss g start k x := by
  refine Classical.byContradiction fun z => h2 ⟨h, fun k h3 h4 h5 => z ⟨k, h3, h4, h5⟩⟩
/-- n = m j + i + 1 by division -/
theorem div_parts {m n : Nat} (hm : 1 ≤ m) (h1 : 1 ≤ n) : n = m * ((n - 1) / m) + (n - 1) % m + 1 ∧ (n - 1) % m < m := by
  have e := Nat.div_add_mod (n - 1) m
  have l := Nat.mod_lt (n - 1) (show m > 0 from hm)
  exact ⟨by omega, l⟩
theorem bfs_shift (hg : ∀ a s b, g a s b → s ∈ ss) {q p : Nat} (he : ∀ j, q ≤ j → j < p → ¬ ∃ x, Fn ss g start j x) :
    ∀ n x, 1 ≤ n → n < ss.length * p + 1 → Rn ss g start n x → ∃ n', 1 ≤ n' ∧ n' < ss.length * q + 1 ∧ Rn ss g start n' x := by
  intro n
  induction n using Nat.strongRecOn with
  | ind n ih =>
    intro x h1 hn hr
    by_cases hq : n < ss.length * q + 1
    · exact ⟨n, h1, hq, hr⟩
    · obtain ⟨hm, y, hy, hs⟩ := Rn.pred hg h1 hr
      obtain ⟨e, l⟩ := div_parts hm h1
      have jq : q ≤ (n - 1) / ss.length := (Nat.le_div_iff_mul_le hm).mpr (by rw [Nat.mul_comm]; omega)
      have jp : (n - 1) / ss.length < p := (Nat.div_lt_iff_lt_mul hm).mpr (by rw [Nat.mul_comm]; omega)
      obtain ⟨k, k1, k2, k3⟩ := Fn.not hy fun z => he _ jq jp ⟨y, z⟩
      have hk := Rn.succ k3 l hs
      have lt : ss.length * k < ss.length * ((n - 1) / ss.length) := Nat.mul_lt_mul_of_pos_left k2 hm
      exact ih _ (by omega) x (by omega) (by omega) hk
theorem bfs_init : BInv ss g start goal [] [([start], 0)] 0 where
  kn := fun x => ⟨fun h => (by cases h), fun ⟨n, h1, h2, _⟩ => by
    rw [Nat.mul_zero] at h2
    omega⟩
  ns := fun e he x => by
    rw [List.mem_singleton.mp he]
    constructor
    · intro h
      rw [List.mem_singleton.mp h]
      exact ⟨by unfold Rn; rw [wd_zero]; exact rfl, fun k h1 h2 => absurd h2 (Nat.not_lt_zero _)⟩
    · intro h
      have h1 := h.1
      unfold Rn at h1
      rw [wd_zero] at h1
      have e : start = x := h1
      rw [e]
      exact List.mem_singleton.mpr rfl
  inc := List.pairwise_singleton _ _
  cov := fun j h1 h2 _ => ⟨_, List.mem_singleton.mpr rfl, by
    rw [Nat.mul_zero] at h2
    show 0 = j
    omega⟩
  bd := fun e he => by
    rw [List.mem_singleton.mp he]
    exact ⟨Nat.le_refl _, by show 0 < _; omega⟩
  ng := fun h => by cases h
  len := fun e he => by
    rw [List.mem_singleton.mp he]
    show (wd ss 0).length ≤ _
    rw [wd_zero]
    exact Nat.le_refl _
theorem bfs_pop (hg : ∀ a s b, g a s b → s ∈ ss) {ks : List α} {N : List α} {p q : Nat} {rest : List (List α × Nat)} (B : BInv ss g start goal ks ((N, p) :: rest) q) :
    SInv ss g start goal ks rest p 0 ∧ (∀ x, x ∈ N ↔ Fn ss g start p x) ∧ (wd ss p).length ≤ ks.length := by
  obtain ⟨pi, pr⟩ := List.pairwise_cons.mp B.inc
  obtain ⟨b1, b2⟩ := B.bd (N, p) List.mem_cons_self
  have b1 : q ≤ p := b1
  have b2 : p < ss.length * q + 1 := b2
  have he : ∀ j, q ≤ j → j < p → ¬ ∃ x, Fn ss g start j x := fun j h1 h2 hx => by
    obtain ⟨e, hm, e2⟩ := B.cov j h1 (by omega) hx
    rcases List.mem_cons.mp hm with z | z
    · rw [z] at e2
      have e2 : p = j := e2
      omega
    · have := pi e z
      have : p < e.2 := this
      omega
  have qp : ss.length * q ≤ ss.length * p := Nat.mul_le_mul_left _ b1
  refine ⟨⟨fun x => ?_, fun e h => B.ns e (List.mem_cons_of_mem _ h), pr, fun j h1 h2 hx => ?_, fun e h => ⟨pi e h, ?_⟩, B.ng, fun e h => B.len e (List.mem_cons_of_mem _ h)⟩, B.ns (N, p) List.mem_cons_self, B.len (N, p) List.mem_cons_self⟩
  · rw [B.kn x]
    constructor
    · rintro ⟨n, h1, h2, h3⟩
      exact ⟨n, h1, by omega, h3⟩
    · rintro ⟨n, h1, h2, h3⟩
      exact bfs_shift hg he n x h1 (by omega) h3
  · by_cases hj : j < ss.length * q + 1
    · obtain ⟨e, hm, e2⟩ := B.cov j (by omega) hj hx
      rcases List.mem_cons.mp hm with z | z
      · rw [z] at e2
        have e2 : p = j := e2
        omega
      · exact ⟨e, z, e2⟩
    · obtain ⟨x, hx⟩ := hx
      obtain ⟨n', n1, n2, n3⟩ := bfs_shift hg he j x (by omega) (by omega) hx.1
      exact absurd n3 (hx.2 n' n1 (by omega))
  · have := (B.bd e (List.mem_cons_of_mem _ h)).2
    omega
section
variable {ks N fd : List α} {wt : List (List α × Nat)} {p i : Nat}
theorem bfs_new (hg : ∀ a s b, g a s b → s ∈ ss) (S : SInv ss g start goal ks wt p i) (hi : i < ss.length) (hN : ∀ x, x ∈ N ↔ Fn ss g start p x) (hf : ∀ x, x ∈ fd ↔ x ∉ ks ∧ ∃ y ∈ N, g y (ss.getD i 0) x) (x : α) :
    x ∈ fd ↔ Fn ss g start (ss.length * p + i + 1) x := by
  rw [hf x]
  constructor
  · rintro ⟨nk, y, hy, hs⟩
    refine ⟨Rn.succ ((hN y).mp hy).1 hi hs, fun k k1 k2 k3 => nk ((S.kn x).mpr ⟨k, k1, k2, k3⟩)⟩
  · rintro ⟨hr, hno⟩
    refine ⟨fun hk => ?_, ?_⟩
    · obtain ⟨n, n1, n2, n3⟩ := (S.kn x).mp hk
      exact hno n n1 n2 n3
    · obtain ⟨hm, y, hy, hs⟩ := Rn.pred hg (by omega) hr
      rw [Nat.add_sub_cancel, Nat.mul_add_div (by omega), Nat.div_eq_of_lt hi, Nat.add_zero] at hy
      rw [Nat.add_sub_cancel, Nat.mul_add_mod, Nat.mod_eq_of_lt hi] at hs
      refine ⟨y, (hN y).mpr ⟨hy, fun k k1 k2 k3 => ?_⟩, hs⟩
      have lt : ss.length * k < ss.length * p := Nat.mul_lt_mul_of_pos_left k2 hm
      exact hno (ss.length * k + i + 1) (by omega) (by omega) (Rn.succ k3 hi hs)
theorem bfs_hit (hg : ∀ a s b, g a s b → s ∈ ss) (S : SInv ss g start goal ks wt p i) (hi : i < ss.length) (hN : ∀ x, x ∈ N ↔ Fn ss g start p x) (hf : ∀ x, x ∈ fd ↔ x ∉ ks ∧ ∃ y ∈ N, g y (ss.getD i 0) x) (hq : goal ∈ fd) :
    firstW ss g start goal = some (wd ss p ++ [ss.getD i 0]) := by
  have q := (bfs_new hg S hi hN hf goal).mp hq
  rw [← wd_step hi]
  exact firstW_some (by omega) q.1 q.2
theorem bfs_step (hg : ∀ a s b, g a s b → s ∈ ss) (S : SInv ss g start goal ks wt p i) (hi : i < ss.length) (hN : ∀ x, x ∈ N ↔ Fn ss g start p x) (hf : ∀ x, x ∈ fd ↔ x ∉ ks ∧ ∃ y ∈ N, g y (ss.getD i 0) x) (hq : goal ∉ fd)
    (hl : (wd ss p).length ≤ ks.length) : SInv ss g start goal (ks ++ fd) (if fd = [] then wt else wt ++ [(fd, ss.length * p + i + 1)]) p (i + 1) := by
  have new := bfs_new hg S hi hN hf
  have kn : ∀ x, x ∈ ks ++ fd ↔ ∃ n, 1 ≤ n ∧ n < ss.length * p + (i + 1) + 1 ∧ Rn ss g start n x := fun x => by
    rw [List.mem_append, S.kn x, new x]
    constructor
    · rintro (⟨n, h1, h2, h3⟩ | h)
      · exact ⟨n, h1, by omega, h3⟩
      · exact ⟨_, by omega, by omega, h.1⟩
    · rintro ⟨n, h1, h2, h3⟩
      by_cases hk : ∃ n, 1 ≤ n ∧ n < ss.length * p + i + 1 ∧ Rn ss g start n x
      · exact .inl hk
      · have e : n = ss.length * p + i + 1 := by
          refine Classical.byContradiction fun z => hk ⟨n, h1, by omega, h3⟩
        subst e
        exact .inr ⟨h3, fun k k1 k2 k3 => hk ⟨k, k1, k2, k3⟩⟩
  have ng : goal ∉ ks ++ fd := fun z => (List.mem_append.mp z).elim S.ng hq
  have pm : p < ss.length * p + i + 1 := by
    have : 1 * p ≤ ss.length * p := Nat.mul_le_mul_right _ (by omega)
    omega
  by_cases h0 : fd = []
  · rw [if_pos h0]
    refine ⟨kn, S.ns, S.inc, fun j h1 h2 hx => ?_, fun e he => ?_, ng, fun e he => ?_⟩
    · by_cases hj : j = ss.length * p + i + 1
      · subst hj
        obtain ⟨x, hx⟩ := hx
        have := (new x).mpr hx
        rw [h0] at this
        cases this
      · exact S.cov j h1 (by omega) hx
    · have := S.bd e he
      exact ⟨this.1, by omega⟩
    · have := S.len e he
      rw [List.length_append]
      omega
  · rw [if_neg h0]
    have lf : 1 ≤ fd.length := List.length_pos_iff.mpr h0
    refine ⟨kn, fun e he x => ?_, ?_, fun j h1 h2 hx => ?_, fun e he => ?_, ng, fun e he => ?_⟩
    · rcases List.mem_append.mp he with z | z
      · exact S.ns e z x
      · rw [List.mem_singleton.mp z]
        exact new x
    · refine List.pairwise_append.mpr ⟨S.inc, List.pairwise_singleton _ _, fun a ha b hb => ?_⟩
      rw [List.mem_singleton.mp hb]
      exact (S.bd a ha).2
    · by_cases hj : j = ss.length * p + i + 1
      · exact ⟨_, List.mem_append_right _ (List.mem_singleton.mpr rfl), hj.symm⟩
      · obtain ⟨e, he, e2⟩ := S.cov j h1 (by omega) hx
        exact ⟨e, List.mem_append_left _ he, e2⟩
    · rcases List.mem_append.mp he with z | z
      · have := S.bd e z
        exact ⟨this.1, by omega⟩
      · rw [List.mem_singleton.mp z]
        exact ⟨pm, by show ss.length * p + i + 1 < _; omega⟩
    · rw [List.length_append]
      rcases List.mem_append.mp he with z | z
      · have := S.len e z
        omega
      · rw [List.mem_singleton.mp z]
        show (wd ss (ss.length * p + i + 1)).length ≤ _
        rw [wd_step hi, List.length_append]
        simp only [List.length_cons, List.length_nil]
        omega
end
theorem bfs_done {ks : List α} {wt : List (List α × Nat)} {p : Nat} (S : SInv ss g start goal ks wt p ss.length) : BInv ss g start goal ks wt (p + 1) := by
  have e : ss.length * (p + 1) = ss.length * p + ss.length := Nat.mul_succ _ _
  refine ⟨fun x => ?_, S.ns, S.inc, fun j h1 h2 hx => ?_, fun e' he => ?_, S.ng, S.len⟩
  · rw [e]
    exact S.kn x
  · rw [e] at h2
    exact S.cov j (by omega) h2 hx
  · have := S.bd e' he
    rw [e]
    exact ⟨by omega, this.2⟩
theorem bfs_end (hg : ∀ a s b, g a s b → s ∈ ss) {ks : List α} {q : Nat} (B : BInv ss g start goal ks [] q) : firstW ss g start goal = none := by
  have he : ∀ j, q ≤ j → j < ss.length * q + 1 → ¬ ∃ x, Fn ss g start j x := fun j h1 h2 hx => by
    obtain ⟨e, hm, _⟩ := B.cov j h1 h2 hx
    cases hm
  have key : ∀ n x, 1 ≤ n → Rn ss g start n x → ∃ n', 1 ≤ n' ∧ n' < ss.length * q + 1 ∧ Rn ss g start n' x := by
    intro n
    induction n using Nat.strongRecOn with
    | ind n ih =>
      intro x h1 hr
      by_cases hq : n < ss.length * q + 1
      · exact ⟨n, h1, hq, hr⟩
      · obtain ⟨hm, y, hy, hs⟩ := Rn.pred hg h1 hr
        obtain ⟨e, l⟩ := div_parts hm h1
        have jq : q ≤ (n - 1) / ss.length := (Nat.le_div_iff_mul_le hm).mpr (by rw [Nat.mul_comm]; omega)
        have go : ∀ k, 1 ≤ k → k < (n - 1) / ss.length → Rn ss g start k y → ∃ n', 1 ≤ n' ∧ n' < ss.length * q + 1 ∧ Rn ss g start n' x := fun k k1 k2 k3 => by
          have hk := Rn.succ k3 l hs
          have lt : ss.length * k < ss.length * ((n - 1) / ss.length) := Nat.mul_lt_mul_of_pos_left k2 hm
          exact ih _ (by omega) x (by omega) hk
        by_cases hj : (n - 1) / ss.length < ss.length * q + 1
        · obtain ⟨k, k1, k2, k3⟩ := Fn.not hy fun z => he _ jq hj ⟨y, z⟩
          exact go k k1 k2 k3
        · obtain ⟨k, k1, k2, k3⟩ := ih ((n - 1) / ss.length) (Nat.lt_of_le_of_lt (Nat.div_le_self _ _) (by omega)) y (by omega) hy
          exact go k k1 (by omega) k3
  refine firstW_none fun n h1 hr => ?_
  exact B.ng ((B.kn goal).mpr (key n goal h1 hr))
end
end K44

set_option Elab.async false
set_option linter.all false
set_option maxHeartbeats 4000000
namespace K44
/-! ### lists in order -/
theorem srt_unique {α : Type} {lt : α → α → Prop} (asym : ∀ a b, lt a b → ¬ lt b a) : ∀ {l1 l2 : List α}, l1.Pairwise lt → l2.Pairwise lt → (∀ x, x ∈ l1 ↔ x ∈ l2) → l1 = l2
  | [], [], _, _, _ => rfl
  | [], b :: l2, _, _, h => by
    have := (h b).mpr List.mem_cons_self
    cases this
  | a :: l1, [], _, _, h => by
    have := (h a).mp List.mem_cons_self
    cases this
  | a :: l1, b :: l2, p1, p2, h => by
    obtain ⟨q1, r1⟩ := List.pairwise_cons.mp p1
    obtain ⟨q2, r2⟩ := List.pairwise_cons.mp p2
    have e : a = b := by
      rcases List.mem_cons.mp ((h a).mp List.mem_cons_self) with e | h1
      · exact e
      · rcases List.mem_cons.mp ((h b).mpr List.mem_cons_self) with e | h2
        · exact e.symm
        · exact absurd (q1 b h2) (asym _ _ (q2 a h1))
    subst e
    have irr : ∀ x, ¬ lt x x := fun x hx => asym x x hx hx
    rw [srt_unique asym r1 r2 fun x => ?_]
    constructor
    · intro hx
      rcases List.mem_cons.mp ((h x).mp (List.mem_cons_of_mem _ hx)) with e | h1
      · subst e
        exact absurd (q1 x hx) (irr x)
      · exact h1
    · intro hx
      rcases List.mem_cons.mp ((h x).mpr (List.mem_cons_of_mem _ hx)) with e | h1
      · subst e
        exact absurd (q2 x hx) (irr x)
      · exact h1
theorem range_inc (n : Nat) : (List.range n).Pairwise (· < ·) := List.pairwise_lt_range
/-! ### machines -/
structure Mach where
  many : Nat
  firsts : List Nat
  lasts : List Nat
  steps : List (Nat × Nat × Nat)
structure MOk (m : Mach) : Prop where
  pos : 1 ≤ m.many
  top : m.many ≤ 12
  fi : m.firsts.Pairwise (· < ·)
  fb : ∀ r ∈ m.firsts, r < m.many
  li : m.lasts.Pairwise (· < ·)
  lb : ∀ r ∈ m.lasts, r < m.many
  sb : ∀ t ∈ m.steps, t.1 < m.many ∧ (97 ≤ t.2.1 ∧ t.2.1 ≤ 122) ∧ t.2.2 < m.many
  sn : m.steps.Nodup
  sl : m.steps.length ≤ 200
inductive Conn (es : List (Nat × Nat)) : Nat → Nat → Prop
  | refl (a : Nat) : Conn es a a
  | step {a b c : Nat} : Conn es a b → (b, c) ∈ es → Conn es a c
theorem Conn.map {es es' : List (Nat × Nat)} (f : Nat → Nat) (h : ∀ a b, (a, b) ∈ es → (f a, f b) ∈ es') {a b : Nat} (c : Conn es a b) : Conn es' (f a) (f b) := by
  induction c with
  | refl => exact .refl _
  | step _ q ih => exact .step ih (h _ _ q)
def From (es : List (Nat × Nat)) (rs : List Nat) (x : Nat) : Prop := ∃ r ∈ rs, Conn es r x
def edges (m : Mach) : List (Nat × Nat) := m.steps.map fun t => (t.1, t.2.2)
def redges (m : Mach) : List (Nat × Nat) := m.steps.map fun t => (t.2.2, t.1)
def Use (m : Mach) (r : Nat) : Prop := From (edges m) m.firsts r ∧ From (redges m) m.lasts r
open Classical in
noncomputable def usefulL (m : Mach) : List Nat := (List.range m.many).filter fun r => decide (Use m r)
open Classical in
theorem mem_useful {m : Mach} {r : Nat} : r ∈ usefulL m ↔ r < m.many ∧ Use m r := by
  unfold usefulL
  rw [List.mem_filter, List.mem_range, decide_eq_true_iff]
theorem useful_inc (m : Mach) : (usefulL m).Pairwise (· < ·) := (range_inc _).sublist List.filter_sublist
theorem useful_nodup (m : Mach) : (usefulL m).Nodup := (useful_inc m).imp fun h => Nat.ne_of_lt h
noncomputable def trimM (m : Mach) : Mach := ⟨m.many, m.firsts.filter fun r => decide (r ∈ usefulL m), m.lasts.filter fun r => decide (r ∈ usefulL m), m.steps.filter fun t => decide (t.1 ∈ usefulL m) && decide (t.2.2 ∈ usefulL m)⟩
def TP (m : Mach) (x s y : Nat) : Prop := (x, s, y) ∈ m.steps ∧ x ∈ usefulL m ∧ y ∈ usefulL m
theorem mem_trim {m : Mach} {x s y : Nat} : (x, s, y) ∈ (trimM m).steps ↔ TP m x s y := by
  unfold trimM TP
  rw [List.mem_filter]
  simp
def signsL (m : Mach) : List Nat := ((List.range 26).map (97 + ·)).filter fun c => m.steps.any fun t => t.2.1 == c
theorem signs_inc (m : Mach) : (signsL m).Pairwise (· < ·) := by
  refine List.Pairwise.sublist List.filter_sublist ?_
  rw [List.pairwise_map]
  exact (range_inc 26).imp fun h => by omega
theorem mem_signs {m : Mach} {c : Nat} : c ∈ signsL m ↔ (97 ≤ c ∧ c ≤ 122) ∧ ∃ t ∈ m.steps, t.2.1 = c := by
  unfold signsL
  rw [List.mem_filter, List.mem_map, List.any_eq_true]
  constructor
  · rintro ⟨⟨a, h1, h2⟩, t, h3, h4⟩
    have := List.mem_range.mp h1
    exact ⟨by omega, t, h3, eq_of_beq h4⟩
  · rintro ⟨h1, t, h3, h4⟩
    exact ⟨⟨c - 97, List.mem_range.mpr (by omega), by omega⟩, t, h3, by rw [h4]; exact beq_self_eq_true c⟩
theorem signs_of_step {m : Mach} (ok : MOk m) {x s y : Nat} (h : (x, s, y) ∈ m.steps) : s ∈ signsL m := mem_signs.mpr ⟨(ok.sb _ h).2.1, _, h, rfl⟩
abbrev Nd : Type := Nat × Nat × Nat
def gD (m : Mach) (a : Nd) (s : Nat) (b : Nd) : Prop := TP m a.1 s b.1 ∧ TP m a.2.1 s b.2.1 ∧ b.2.2 = if a.2.2 = 1 ∨ b.1 ≠ b.2.1 then 1 else 0
def gL (m : Mach) (a : Nd) (s : Nat) (b : Nd) : Prop := TP m a.1 s b.1 ∧ TP m a.2.1 s b.2.1 ∧ TP m a.2.2 s b.2.2
theorem gD_signs {m : Mach} (ok : MOk m) (a : Nd) (s : Nat) (b : Nd) (h : gD m a s b) : s ∈ signsL m := signs_of_step ok h.1.1
theorem gL_signs {m : Mach} (ok : MOk m) (a : Nd) (s : Nat) (b : Nd) (h : gL m a s b) : s ∈ signsL m := signs_of_step ok h.1.1
noncomputable def dW (m : Mach) (r : Nat) : Option (List Nat) := firstW (signsL m) (gD m) (r, r, 0) (r, r, 1)
noncomputable def lW (m : Mach) (r o : Nat) : Option (List Nat) := firstW (signsL m) (gL m) (r, r, o) (r, o, o)
noncomputable def doubles (m : Mach) : List (Nat × List Nat) := (usefulL m).filterMap fun r => (dW m r).map fun w => (r, w)
noncomputable def pairs (m : Mach) : List (Nat × Nat × List Nat) := (usefulL m).flatMap fun r => (usefulL m).filterMap fun o => if r = o then none else (lW m r o).map fun w => (r, o, w)
theorem mem_doubles {m : Mach} {p : Nat × List Nat} : p ∈ doubles m ↔ p.1 ∈ usefulL m ∧ dW m p.1 = some p.2 := by
  unfold doubles
  rw [List.mem_filterMap]
  constructor
  · rintro ⟨r, h1, h2⟩
    obtain ⟨w, e, e2⟩ := Option.map_eq_some_iff.mp h2
    subst e2
    exact ⟨h1, e⟩
  · rintro ⟨h1, h2⟩
    exact ⟨p.1, h1, by rw [h2]; rfl⟩
theorem mem_pairs {m : Mach} {p : Nat × Nat × List Nat} : p ∈ pairs m ↔ p.1 ∈ usefulL m ∧ p.2.1 ∈ usefulL m ∧ p.1 ≠ p.2.1 ∧ lW m p.1 p.2.1 = some p.2.2 := by
  unfold pairs
  rw [List.mem_flatMap]
  constructor
  · rintro ⟨r, h1, h2⟩
    obtain ⟨o, h3, h4⟩ := List.mem_filterMap.mp h2
    split at h4
    · cases h4
    · rename_i ne
      obtain ⟨w, e, e2⟩ := Option.map_eq_some_iff.mp h4
      subst e2
      exact ⟨h1, h3, ne, e⟩
  · rintro ⟨h1, h2, h3, h4⟩
    exact ⟨p.1, h1, List.mem_filterMap.mpr ⟨p.2.1, h2, by rw [if_neg h3, h4]; rfl⟩⟩
def ltA {γ : Type} (a b : Nat × γ) : Prop := a.1 < b.1
def ltB {γ : Type} (a b : Nat × Nat × γ) : Prop := a.1 < b.1 ∨ (a.1 = b.1 ∧ a.2.1 < b.2.1)
theorem ltA_asym {γ : Type} (a b : Nat × γ) (h : ltA a b) : ¬ ltA b a := by
  unfold ltA at *
  omega
theorem ltB_asym {γ : Type} (a b : Nat × Nat × γ) (h : ltB a b) : ¬ ltB b a := by
  unfold ltB at *
  omega
theorem doubles_inc (m : Mach) : (doubles m).Pairwise ltA := by
  unfold doubles
  rw [List.pairwise_filterMap]
  refine (useful_inc m).imp fun {a b} h x hx y hy => ?_
  obtain ⟨w, _, e⟩ := Option.map_eq_some_iff.mp hx
  obtain ⟨w', _, e'⟩ := Option.map_eq_some_iff.mp hy
  rw [← e, ← e']
  exact h
theorem pairs_inc (m : Mach) : (pairs m).Pairwise ltB := by
  unfold pairs
  rw [List.pairwise_flatMap]
  refine ⟨fun r _ => ?_, ?_⟩
  · rw [List.pairwise_filterMap]
    refine (useful_inc m).imp fun {a b} h x hx y hy => ?_
    split at hx
    · cases hx
    · split at hy
      · cases hy
      · obtain ⟨w, _, e⟩ := Option.map_eq_some_iff.mp hx
        obtain ⟨w', _, e'⟩ := Option.map_eq_some_iff.mp hy
        rw [← e, ← e']
        exact .inr ⟨rfl, h⟩
  · refine (useful_inc m).imp fun {a b} h x hx y hy => ?_
    obtain ⟨o, _, e⟩ := List.mem_filterMap.mp hx
    obtain ⟨o', _, e'⟩ := List.mem_filterMap.mp hy
    split at e
    · cases e
    · split at e'
      · cases e'
      · obtain ⟨w, _, e⟩ := Option.map_eq_some_iff.mp e
        obtain ⟨w', _, e'⟩ := Option.map_eq_some_iff.mp e'
        rw [← e, ← e']
        exact .inl h
/-! ### turned about -/
def turnM (m : Mach) : Mach := ⟨m.many, m.lasts, m.firsts, m.steps.map fun t => (t.2.2, t.2.1, t.1)⟩
theorem turn_steps {m : Mach} {x s y : Nat} : (x, s, y) ∈ (turnM m).steps ↔ (y, s, x) ∈ m.steps := by
  unfold turnM
  rw [List.mem_map]
  constructor
  · rintro ⟨t, h, e⟩
    cases e
    exact h
  · intro h
    exact ⟨_, h, rfl⟩
theorem turn_edges (m : Mach) : edges (turnM m) = redges m := by
  unfold edges redges turnM
  rw [List.map_map]
  rfl
theorem turn_redges (m : Mach) : redges (turnM m) = edges m := by
  unfold edges redges turnM
  rw [List.map_map]
  rfl
theorem turn_use {m : Mach} {r : Nat} : Use (turnM m) r ↔ Use m r := by
  unfold Use
  rw [turn_edges, turn_redges]
  exact And.comm
theorem turn_useful (m : Mach) : usefulL (turnM m) = usefulL m := by
  refine srt_unique (lt := (· < ·)) (fun a b h => Nat.not_lt.mpr (Nat.le_of_lt h)) (useful_inc _) (useful_inc _) fun x => ?_
  rw [mem_useful, mem_useful, turn_use]
  exact Iff.rfl
theorem turn_TP {m : Mach} {x s y : Nat} : TP (turnM m) x s y ↔ TP m y s x := by
  unfold TP
  rw [turn_steps, turn_useful]
  constructor
  · rintro ⟨a, b, c⟩
    exact ⟨a, c, b⟩
  · rintro ⟨a, b, c⟩
    exact ⟨a, c, b⟩
theorem turn_signs (m : Mach) : signsL (turnM m) = signsL m := by
  refine srt_unique (lt := (· < ·)) (fun a b h => Nat.not_lt.mpr (Nat.le_of_lt h)) (signs_inc _) (signs_inc _) fun c => ?_
  rw [mem_signs, mem_signs]
  refine and_congr Iff.rfl ⟨fun ⟨t, h1, h2⟩ => ⟨(t.2.2, t.2.1, t.1), turn_steps.mp h1, h2⟩, fun ⟨t, h1, h2⟩ => ⟨(t.2.2, t.2.1, t.1), turn_steps.mpr h1, h2⟩⟩
theorem turn_ok {m : Mach} (ok : MOk m) : MOk (turnM m) where
  pos := ok.pos
  top := ok.top
  fi := ok.li
  fb := ok.lb
  li := ok.fi
  lb := ok.fb
  sb := fun t h => by
    obtain ⟨x, s, y⟩ := t
    have := ok.sb _ (turn_steps.mp h)
    exact ⟨this.2.2, this.2.1, this.1⟩
  sn := by
    unfold turnM
    refine List.Pairwise.map _ (fun a b h z => ?_) ok.sn
    apply h
    injection z with z1 z2
    injection z2 with z2 z3
    exact Prod.ext z3 (Prod.ext z2 z1)
  sl := by
    unfold turnM
    show (m.steps.map _).length ≤ 200
    rw [List.length_map]
    exact ok.sl
/-- two ways abreast -/
def g2 (m : Mach) (p : Nat × Nat) (s : Nat) (q : Nat × Nat) : Prop := TP m p.1 s q.1 ∧ TP m p.2 s q.2
theorem RW.app {α : Type} {g : α → Nat → α → Prop} : ∀ {u v : List Nat} {a b c : α}, RW g a u b → RW g b v c → RW g a (u ++ v) c
  | [], v, a, b, c, h, k => by
    have e : a = b := h
    subst e
    exact k
  | s :: u, v, a, b, c, h, k => by
    obtain ⟨d, h1, h2⟩ := h
    exact ⟨d, h1, RW.app h2 k⟩
theorem gD_one {m : Mach} : ∀ {w : List Nat} {p q : Nat × Nat}, RW (g2 m) p w q → RW (gD m) (p.1, p.2, 1) w (q.1, q.2, 1)
  | [], p, q, h => by
    have e : p = q := h
    subst e
    exact rfl
  | s :: w, p, q, h => by
    obtain ⟨c, h1, h2⟩ := h
    exact ⟨(c.1, c.2, 1), ⟨h1.1, h1.2, (if_pos (.inl rfl)).symm⟩, gD_one h2⟩
theorem gD_g2 {m : Mach} : ∀ {w : List Nat} {a b : Nd}, RW (gD m) a w b → RW (g2 m) (a.1, a.2.1) w (b.1, b.2.1)
  | [], a, b, h => by
    have e : a = b := h
    subst e
    exact rfl
  | s :: w, a, b, h => by
    obtain ⟨c, h1, h2⟩ := h
    exact ⟨(c.1, c.2.1), ⟨h1.1, h1.2.1⟩, gD_g2 h2⟩
theorem gD_parts {m : Mach} : ∀ {w : List Nat} {p : Nat × Nat} {b : Nd}, RW (gD m) (p.1, p.2, 0) w b → b.2.2 = 1 → ∃ u v c, w = u ++ v ∧ c.1 ≠ c.2 ∧ RW (g2 m) p u c ∧ RW (g2 m) c v (b.1, b.2.1)
  | [], p, b, h, hb => by
    have e : (p.1, p.2, 0) = b := h
    rw [← e] at hb
    cases hb
  | s :: w, p, b, h, hb => by
    obtain ⟨c, h1, h2⟩ := h
    obtain ⟨t1, t2, t3⟩ := h1
    have t3 : c.2.2 = if (0 = 1) ∨ c.1 ≠ c.2.1 then 1 else 0 := t3
    by_cases hc : c.1 ≠ c.2.1
    · exact ⟨[s], w, (c.1, c.2.1), rfl, hc, ⟨(c.1, c.2.1), ⟨t1, t2⟩, rfl⟩, gD_g2 h2⟩
    · rw [if_neg (fun z => z.elim (fun y => by cases y) hc)] at t3
      have e : c = (c.1, c.2.1, 0) := Prod.ext rfl (Prod.ext rfl t3)
      rw [e] at h2
      obtain ⟨u, v, d, e1, e2, e3, e4⟩ := gD_parts (p := (c.1, c.2.1)) h2 hb
      exact ⟨s :: u, v, d, by rw [e1]; rfl, e2, ⟨(c.1, c.2.1), ⟨t1, t2⟩, e3⟩, e4⟩
theorem parts_gD {m : Mach} : ∀ {u v : List Nat} {p c q : Nat × Nat}, p.1 = p.2 → RW (g2 m) p u c → c.1 ≠ c.2 → RW (g2 m) c v q → RW (gD m) (p.1, p.2, 0) (u ++ v) (q.1, q.2, 1)
  | [], v, p, c, q, hp, h, hc, k => by
    have e : p = c := h
    subst e
    exact absurd hp hc
  | s :: u, v, p, c, q, hp, h, hc, k => by
    obtain ⟨d, h1, h2⟩ := h
    by_cases hd : d.1 = d.2
    · exact ⟨(d.1, d.2, 0), ⟨h1.1, h1.2, (if_neg (fun z => z.elim (fun y => by cases y) (fun y => y hd))).symm⟩, parts_gD hd h2 hc k⟩
    · exact ⟨(d.1, d.2, 1), ⟨h1.1, h1.2, (if_pos (.inr hd)).symm⟩, gD_one (RW.app h2 k)⟩
theorem gD_turn {m : Mach} {w : List Nat} {r : Nat} (h : RW (gD m) (r, r, 0) w (r, r, 1)) : RW (gD (turnM m)) (r, r, 0) w.reverse (r, r, 1) := by
  obtain ⟨u, v, c, e, hc, h1, h2⟩ := gD_parts (p := (r, r)) h rfl
  have back : ∀ (a : Nat × Nat) (s : Nat) (b : Nat × Nat), g2 m a s b → g2 (turnM m) b s a := fun a s b h => ⟨turn_TP.mpr h.1, turn_TP.mpr h.2⟩
  rw [e, List.reverse_append]
  exact parts_gD (p := (r, r)) (q := (r, r)) rfl (RW.rev id back h2) hc (RW.rev id back h1)
theorem turn_turn (m : Mach) : turnM (turnM m) = m := by
  obtain ⟨a, b, c, d⟩ := m
  unfold turnM
  simp [List.map_map, Function.comp_def]
theorem gL_turn {m : Mach} {w : List Nat} {r o : Nat} (h : RW (gL m) (r, r, o) w (r, o, o)) : RW (gL (turnM m)) (o, o, r) w.reverse (o, r, r) :=
  RW.rev (g' := gL (turnM m)) (fun a : Nd => (a.2.2, a.2.1, a.1)) (fun a s b h => ⟨turn_TP.mpr h.2.2, turn_TP.mpr h.2.1, turn_TP.mpr h.1⟩) h
theorem turn_dW {m : Mach} (ok : MOk m) (r : Nat) : (dW (turnM m) r).map List.length = (dW m r).map List.length := by
  unfold dW
  rw [turn_signs]
  refine firstW_rev (gD_signs ok) (fun a s b h => ?_) (fun w h => gD_turn h) (fun w h => ?_)
  · have := gD_signs (turn_ok ok) a s b h
    rw [turn_signs] at this
    exact this
  · have := gD_turn h
    rw [turn_turn] at this
    exact this
theorem turn_lW {m : Mach} (ok : MOk m) (r o : Nat) : (lW (turnM m) o r).map List.length = (lW m r o).map List.length := by
  unfold lW
  rw [turn_signs]
  refine firstW_rev (gL_signs ok) (fun a s b h => ?_) (fun w h => gL_turn h) (fun w h => ?_)
  · have := gL_signs (turn_ok ok) a s b h
    rw [turn_signs] at this
    exact this
  · have := gL_turn h
    rw [turn_turn] at this
    exact this
theorem turn_doubles {m : Mach} (ok : MOk m) : (doubles (turnM m)).map (fun p => (p.1, p.2.length)) = (doubles m).map (fun p => (p.1, p.2.length)) := by
  unfold doubles
  rw [turn_useful, List.map_filterMap, List.map_filterMap]
  congr 1
  funext r
  have h := turn_dW ok r
  cases e : dW (turnM m) r with
  | none =>
    rw [e] at h
    cases e' : dW m r with
    | none => rfl
    | some w => rw [e'] at h; cases h
  | some w' =>
    rw [e] at h
    cases e' : dW m r with
    | none => rw [e'] at h; cases h
    | some w =>
      rw [e'] at h
      show some (r, w'.length) = some (r, w.length)
      rw [Option.some.inj h]
/-- rows of a word's length, in the order of their first two -/
def leB {γ : Type} (a b : Nat × Nat × γ) : Prop := a.1 < b.1 ∨ (a.1 = b.1 ∧ a.2.1 ≤ b.2.1)
theorem strict_of_perm {γ : Type} {S L : List (Nat × Nat × γ)} (hp : S.Perm L) (hs : S.Pairwise leB) (hn : L.Pairwise fun a b => (a.1, a.2.1) ≠ (b.1, b.2.1)) : S.Pairwise ltB := by
  have hn' : S.Pairwise fun a b => (a.1, a.2.1) ≠ (b.1, b.2.1) := (hp.pairwise_iff fun {x y} h => Ne.symm h).mpr hn
  refine (hs.and hn').imp fun {a b} h => ?_
  obtain ⟨h1, h2⟩ := h
  rcases h1 with h1 | ⟨h1, h3⟩
  · exact .inl h1
  · refine .inr ⟨h1, Nat.lt_of_le_of_ne h3 fun z => h2 ?_⟩
    rw [h1, z]
theorem strict_of_permA {γ : Type} {S L : List (Nat × γ)} (hp : S.Perm L) (hs : S.Pairwise fun a b => a.1 ≤ b.1) (hn : L.Pairwise fun a b => a.1 ≠ b.1) : S.Pairwise ltA := by
  have hn' : S.Pairwise fun a b => a.1 ≠ b.1 := (hp.pairwise_iff fun {x y} h => Ne.symm h).mpr hn
  exact (hs.and hn').imp fun {a b} h => Nat.lt_of_le_of_ne h.1 h.2
theorem ltB_ne {γ : Type} {a b : Nat × Nat × γ} (h : ltB a b) : (a.1, a.2.1) ≠ (b.1, b.2.1) := fun z => by
  injection z with z1 z2
  unfold ltB at h
  omega
theorem turn_pairs {m : Mach} (ok : MOk m) {S : List (Nat × Nat × Nat)} (hp : S.Perm ((pairs m).map fun p => (p.2.1, p.1, p.2.2.length))) (hs : S.Pairwise leB) : (pairs (turnM m)).map (fun p => (p.1, p.2.1, p.2.2.length)) = S := by
  refine srt_unique (lt := ltB) ltB_asym ?_ ?_ fun x => ?_
  · rw [List.pairwise_map]
    exact (pairs_inc _).imp fun h => h
  · refine strict_of_perm hp hs ?_
    rw [List.pairwise_map]
    refine (pairs_inc m).imp ?_
    intro a b h z
    injection z with z1 z2
    exact ltB_ne h (by rw [z1, z2])
  · rw [hp.mem_iff, List.mem_map, List.mem_map]
    constructor
    · rintro ⟨p, h1, e⟩
      obtain ⟨q1, q2, q3, q4⟩ := mem_pairs.mp h1
      rw [turn_useful] at q1 q2
      have h := turn_lW ok p.2.1 p.1
      rw [q4] at h
      cases e' : lW m p.2.1 p.1 with
      | none => rw [e'] at h; cases h
      | some w =>
        rw [e'] at h
        refine ⟨(p.2.1, p.1, w), mem_pairs.mpr ⟨q2, q1, Ne.symm q3, e'⟩, ?_⟩
        rw [← e]
        show (p.1, p.2.1, w.length) = _
        rw [← Option.some.inj h]
    · rintro ⟨p, h1, e⟩
      obtain ⟨q1, q2, q3, q4⟩ := mem_pairs.mp h1
      have h := turn_lW ok p.1 p.2.1
      rw [q4] at h
      cases e' : lW (turnM m) p.2.1 p.1 with
      | none => rw [e'] at h; cases h
      | some w =>
        rw [e'] at h
        refine ⟨(p.2.1, p.1, w), mem_pairs.mpr ⟨by rw [turn_useful]; exact q2, by rw [turn_useful]; exact q1, Ne.symm q3, e'⟩, ?_⟩
        rw [← e]
        show (p.2.1, p.1, w.length) = _
        rw [Option.some.inj h]
/-! ### called otherwise -/
def piN (L : List Nat) (r : Nat) : Nat := L.getD r 0
def callM (m : Mach) (L : List Nat) : Mach :=
  ⟨m.many, (List.range m.many).filter fun r => (m.firsts.map (piN L)).contains r, (List.range m.many).filter fun r => (m.lasts.map (piN L)).contains r, m.steps.map fun t => (piN L t.1, t.2.1, piN L t.2.2)⟩
section
variable {L : List Nat} {n : Nat} (hL : L.Perm (List.range n))
include hL
theorem pi_len : L.length = n := by
  rw [hL.length_eq, List.length_range]
theorem pi_nd : L.Nodup := hL.nodup_iff.mpr List.nodup_range
theorem pi_at {r : Nat} (h : r < n) : L[r]? = some (piN L r) := by
  have hl : r < L.length := by
    rw [pi_len hL]
    exact h
  unfold piN
  rw [List.getD_eq_getElem?_getD, List.getElem?_eq_getElem hl]
  rfl
theorem pi_lt {r : Nat} (h : r < n) : piN L r < n := List.mem_range.mp (hL.mem_iff.mp (List.mem_of_getElem? (pi_at hL h)))
theorem pi_inj {r o : Nat} (h : r < n) (h' : o < n) (e : piN L r = piN L o) : r = o := by
  have h1 := pi_at hL h
  have h2 := pi_at hL h'
  rw [e] at h1
  obtain ⟨l1, e1⟩ := List.getElem?_eq_some_iff.mp h1
  obtain ⟨l2, e2⟩ := List.getElem?_eq_some_iff.mp h2
  exact (List.getElem_inj (pi_nd hL)).mp (e1.trans e2.symm)
theorem pi_inv : ∃ inv : Nat → Nat, (∀ r, r < n → inv (piN L r) = r) ∧ ∀ u, u < n → inv u < n ∧ piN L (inv u) = u := by
  have ex : ∀ u, u < n → ∃ r, r < n ∧ piN L r = u := fun u hu => by
    obtain ⟨i, hi⟩ := List.mem_iff_getElem?.mp (hL.mem_iff.mpr (List.mem_range.mpr hu))
    obtain ⟨l, _⟩ := List.getElem?_eq_some_iff.mp hi
    rw [pi_len hL] at l
    have := pi_at hL l
    rw [hi] at this
    exact ⟨i, l, (Option.some.inj this).symm⟩
  refine ⟨fun u => if h : u < n then Classical.choose (ex u h) else 0, fun r hr => ?_, fun u hu => ?_⟩
  · have hl := pi_lt hL hr
    show (if h : piN L r < n then Classical.choose (ex _ h) else 0) = r
    rw [dif_pos hl]
    have q := Classical.choose_spec (ex _ hl)
    exact pi_inj hL q.1 hr q.2
  · show (if h : u < n then Classical.choose (ex _ h) else 0) < n ∧ piN L (if h : u < n then Classical.choose (ex _ h) else 0) = u
    rw [dif_pos hu]
    exact Classical.choose_spec (ex u hu)
end
theorem call_steps {m : Mach} {L : List Nat} {t : Nat × Nat × Nat} : t ∈ (callM m L).steps ↔ ∃ x s y, (x, s, y) ∈ m.steps ∧ t = (piN L x, s, piN L y) := by
  unfold callM
  rw [List.mem_map]
  constructor
  · rintro ⟨t, h, e⟩
    exact ⟨t.1, t.2.1, t.2.2, h, e.symm⟩
  · rintro ⟨x, s, y, h, e⟩
    exact ⟨_, h, e.symm⟩
theorem call_firsts {m : Mach} {L : List Nat} (hL : L.Perm (List.range m.many)) (ok : MOk m) {u : Nat} : u ∈ (callM m L).firsts ↔ ∃ r ∈ m.firsts, u = piN L r := by
  unfold callM
  rw [List.mem_filter, List.mem_range, List.contains_iff_mem, List.mem_map]
  constructor
  · rintro ⟨_, r, h, e⟩
    exact ⟨r, h, e.symm⟩
  · rintro ⟨r, h, e⟩
    exact ⟨by rw [e]; exact pi_lt hL (ok.fb r h), r, h, e.symm⟩
theorem call_lasts {m : Mach} {L : List Nat} (hL : L.Perm (List.range m.many)) (ok : MOk m) {u : Nat} : u ∈ (callM m L).lasts ↔ ∃ r ∈ m.lasts, u = piN L r := by
  unfold callM
  rw [List.mem_filter, List.mem_range, List.contains_iff_mem, List.mem_map]
  constructor
  · rintro ⟨_, r, h, e⟩
    exact ⟨r, h, e.symm⟩
  · rintro ⟨r, h, e⟩
    exact ⟨by rw [e]; exact pi_lt hL (ok.lb r h), r, h, e.symm⟩
section
variable {m : Mach} {L : List Nat} (hL : L.Perm (List.range m.many)) (ok : MOk m)
include hL ok
theorem call_use {r : Nat} (hr : r < m.many) : Use (callM m L) (piN L r) ↔ Use m r := by
  obtain ⟨inv, i1, i2⟩ := pi_inv hL
  have e1 : ∀ a b, (a, b) ∈ edges m → (piN L a, piN L b) ∈ edges (callM m L) := fun a b h => by
    obtain ⟨t, ht, e⟩ := List.mem_map.mp h
    cases e
    exact List.mem_map.mpr ⟨_, call_steps.mpr ⟨t.1, t.2.1, t.2.2, ht, rfl⟩, rfl⟩
  have e2 : ∀ a b, (a, b) ∈ redges m → (piN L a, piN L b) ∈ redges (callM m L) := fun a b h => by
    obtain ⟨t, ht, e⟩ := List.mem_map.mp h
    cases e
    exact List.mem_map.mpr ⟨_, call_steps.mpr ⟨t.1, t.2.1, t.2.2, ht, rfl⟩, rfl⟩
  have e3 : ∀ a b, (a, b) ∈ edges (callM m L) → (inv a, inv b) ∈ edges m := fun a b h => by
    obtain ⟨t, ht, e⟩ := List.mem_map.mp h
    cases e
    obtain ⟨x, s, y, h1, e⟩ := call_steps.mp ht
    subst e
    have := ok.sb _ h1
    show (inv (piN L x), inv (piN L y)) ∈ _
    rw [i1 x this.1, i1 y this.2.2]
    exact List.mem_map.mpr ⟨_, h1, rfl⟩
  have e4 : ∀ a b, (a, b) ∈ redges (callM m L) → (inv a, inv b) ∈ redges m := fun a b h => by
    obtain ⟨t, ht, e⟩ := List.mem_map.mp h
    cases e
    obtain ⟨x, s, y, h1, e⟩ := call_steps.mp ht
    subst e
    have := ok.sb _ h1
    show (inv (piN L y), inv (piN L x)) ∈ _
    rw [i1 x this.1, i1 y this.2.2]
    exact List.mem_map.mpr ⟨_, h1, rfl⟩
  constructor
  · rintro ⟨⟨f, hf, c1⟩, ⟨l, hl, c2⟩⟩
    obtain ⟨f', hf', e⟩ := (call_firsts hL ok).mp hf
    obtain ⟨l', hl', e'⟩ := (call_lasts hL ok).mp hl
    subst e e'
    have q1 := c1.map inv e3
    have q2 := c2.map inv e4
    rw [i1 _ (ok.fb _ hf'), i1 r hr] at q1
    rw [i1 _ (ok.lb _ hl'), i1 r hr] at q2
    exact ⟨⟨f', hf', q1⟩, l', hl', q2⟩
  · rintro ⟨⟨f, hf, c1⟩, ⟨l, hl, c2⟩⟩
    exact ⟨⟨_, (call_firsts hL ok).mpr ⟨f, hf, rfl⟩, c1.map _ e1⟩, _, (call_lasts hL ok).mpr ⟨l, hl, rfl⟩, c2.map _ e2⟩
theorem call_useful {u : Nat} : u ∈ usefulL (callM m L) ↔ ∃ r ∈ usefulL m, u = piN L r := by
  obtain ⟨inv, i1, i2⟩ := pi_inv hL
  constructor
  · intro h
    obtain ⟨h1, h2⟩ := mem_useful.mp h
    obtain ⟨h3, h4⟩ := i2 u h1
    rw [← h4] at h2
    exact ⟨inv u, mem_useful.mpr ⟨h3, (call_use hL ok h3).mp h2⟩, h4.symm⟩
  · rintro ⟨r, h, e⟩
    obtain ⟨h1, h2⟩ := mem_useful.mp h
    subst e
    exact mem_useful.mpr ⟨pi_lt hL h1, (call_use hL ok h1).mpr h2⟩
theorem call_TP {x s y : Nat} (h : TP m x s y) : TP (callM m L) (piN L x) s (piN L y) :=
  ⟨call_steps.mpr ⟨x, s, y, h.1, rfl⟩, (call_useful hL ok).mpr ⟨x, h.2.1, rfl⟩, (call_useful hL ok).mpr ⟨y, h.2.2, rfl⟩⟩
theorem call_TP' {u s v : Nat} (h : TP (callM m L) u s v) : ∃ x y, u = piN L x ∧ v = piN L y ∧ x < m.many ∧ y < m.many ∧ TP m x s y := by
  obtain ⟨h1, h2, h3⟩ := h
  obtain ⟨x, t, y, h4, e⟩ := call_steps.mp h1
  cases e
  obtain ⟨b1, _, b2⟩ := ok.sb _ h4
  have up : ∀ r, r < m.many → piN L r ∈ usefulL (callM m L) → r ∈ usefulL m := fun r hr h => by
    obtain ⟨r', h5, e⟩ := (call_useful hL ok).mp h
    rw [pi_inj hL hr (mem_useful.mp h5).1 e]
    exact h5
  exact ⟨x, y, rfl, rfl, b1, b2, h4, up x b1 h2, up y b2 h3⟩
theorem call_signs : signsL (callM m L) = signsL m := by
  refine srt_unique (lt := (· < ·)) (fun a b h => Nat.not_lt.mpr (Nat.le_of_lt h)) (signs_inc _) (signs_inc _) fun c => ?_
  rw [mem_signs, mem_signs]
  refine and_congr Iff.rfl ⟨fun ⟨t, h1, h2⟩ => ?_, fun ⟨t, h1, h2⟩ => ⟨_, call_steps.mpr ⟨t.1, t.2.1, t.2.2, h1, rfl⟩, h2⟩⟩
  obtain ⟨x, s, y, h3, e⟩ := call_steps.mp h1
  subst e
  exact ⟨_, h3, h2⟩
theorem call_dW {r : Nat} (hr : r < m.many) : dW (callM m L) (piN L r) = dW m r := by
  obtain ⟨inv, i1, i2⟩ := pi_inv hL
  unfold dW
  rw [call_signs hL ok]
  refine (firstW_congr fun w => ⟨fun h => ?_, fun h => ?_⟩).symm
  · refine RW.map (g' := gD (callM m L)) (fun a : Nd => (piN L a.1, piN L a.2.1, a.2.2)) (fun a s b h => ?_) h
    refine ⟨call_TP hL ok h.1, call_TP hL ok h.2.1, ?_⟩
    show b.2.2 = if a.2.2 = 1 ∨ piN L b.1 ≠ piN L b.2.1 then 1 else 0
    rw [h.2.2]
    have b1 := (mem_useful.mp h.1.2.2).1
    have b2 := (mem_useful.mp h.2.1.2.2).1
    have e : (b.1 ≠ b.2.1) = (piN L b.1 ≠ piN L b.2.1) := propext ⟨fun z y => z (pi_inj hL b1 b2 y), fun z y => z (by rw [y])⟩
    simp only [e]
  · have q := RW.map (g' := gD m) (fun a : Nd => (inv a.1, inv a.2.1, a.2.2)) (fun a s b h => ?_) h
    · have q : RW (gD m) (inv (piN L r), inv (piN L r), 0) w (inv (piN L r), inv (piN L r), 1) := q
      rw [i1 r hr] at q
      exact q
    · obtain ⟨x, y, e1, e2, b1, b2, t1⟩ := call_TP' hL ok h.1
      obtain ⟨x', y', e1', e2', b1', b2', t2⟩ := call_TP' hL ok h.2.1
      refine ⟨?_, ?_, ?_⟩
      · show TP m (inv a.1) s (inv b.1)
        rw [e1, e2, i1 x b1, i1 y b2]
        exact t1
      · show TP m (inv a.2.1) s (inv b.2.1)
        rw [e1', e2', i1 x' b1', i1 y' b2']
        exact t2
      · show b.2.2 = if a.2.2 = 1 ∨ inv b.1 ≠ inv b.2.1 then 1 else 0
        rw [h.2.2]
        have e : (b.1 ≠ b.2.1) = (inv b.1 ≠ inv b.2.1) := by
          rw [e2, e2', i1 y b2, i1 y' b2']
          exact propext ⟨fun z q => z (by rw [q]), fun z q => z (pi_inj hL b2 b2' q)⟩
        simp only [e]
theorem call_lW {r o : Nat} (hr : r < m.many) (ho : o < m.many) : lW (callM m L) (piN L r) (piN L o) = lW m r o := by
  obtain ⟨inv, i1, i2⟩ := pi_inv hL
  unfold lW
  rw [call_signs hL ok]
  refine (firstW_congr fun w => ⟨fun h => ?_, fun h => ?_⟩).symm
  · exact RW.map (g' := gL (callM m L)) (fun a : Nd => (piN L a.1, piN L a.2.1, piN L a.2.2)) (fun a s b h => ⟨call_TP hL ok h.1, call_TP hL ok h.2.1, call_TP hL ok h.2.2⟩) h
  · have q := RW.map (g' := gL m) (fun a : Nd => (inv a.1, inv a.2.1, inv a.2.2)) (fun a s b h => ?_) h
    · have q : RW (gL m) (inv (piN L r), inv (piN L r), inv (piN L o)) w (inv (piN L r), inv (piN L o), inv (piN L o)) := q
      rw [i1 r hr, i1 o ho] at q
      exact q
    · have back : ∀ {u v : Nat}, TP (callM m L) u s v → TP m (inv u) s (inv v) := fun {u v} h => by
        obtain ⟨x, y, e1, e2, b1, b2, t1⟩ := call_TP' hL ok h
        rw [e1, e2, i1 x b1, i1 y b2]
        exact t1
      exact ⟨back h.1, back h.2.1, back h.2.2⟩
theorem call_doubles {S : List (Nat × List Nat)} (hp : S.Perm ((doubles m).map fun p => (piN L p.1, p.2))) (hs : S.Pairwise fun a b => a.1 ≤ b.1) : doubles (callM m L) = S := by
  refine srt_unique (lt := ltA) ltA_asym (doubles_inc _) ?_ fun x => ?_
  · refine strict_of_permA hp hs ?_
    rw [List.pairwise_map]
    refine List.Pairwise.imp_of_mem (fun {a b} ha hb h z => ?_) (doubles_inc m)
    have a1 := (mem_useful.mp (mem_doubles.mp ha).1).1
    have b1 := (mem_useful.mp (mem_doubles.mp hb).1).1
    have := pi_inj hL a1 b1 z
    unfold ltA at h
    omega
  · rw [hp.mem_iff, List.mem_map, mem_doubles]
    constructor
    · rintro ⟨h1, h2⟩
      obtain ⟨r, h3, e⟩ := (call_useful hL ok).mp h1
      rw [e, call_dW hL ok (mem_useful.mp h3).1] at h2
      exact ⟨(r, x.2), mem_doubles.mpr ⟨h3, h2⟩, Prod.ext e.symm rfl⟩
    · rintro ⟨p, h1, e⟩
      obtain ⟨h2, h3⟩ := mem_doubles.mp h1
      rw [← e]
      exact ⟨(call_useful hL ok).mpr ⟨p.1, h2, rfl⟩, by show dW (callM m L) (piN L p.1) = _; rw [call_dW hL ok (mem_useful.mp h2).1]; exact h3⟩
theorem call_pairs {S : List (Nat × Nat × List Nat)} (hp : S.Perm ((pairs m).map fun p => (piN L p.1, piN L p.2.1, p.2.2))) (hs : S.Pairwise leB) : pairs (callM m L) = S := by
  refine srt_unique (lt := ltB) ltB_asym (pairs_inc _) ?_ fun x => ?_
  · refine strict_of_perm hp hs ?_
    rw [List.pairwise_map]
    refine List.Pairwise.imp_of_mem (fun {a b} ha hb h z => ?_) (pairs_inc m)
    obtain ⟨a1, a2, _⟩ := mem_pairs.mp ha
    obtain ⟨b1, b2, _⟩ := mem_pairs.mp hb
    injection z with z1 z2
    have z1 := pi_inj hL (mem_useful.mp a1).1 (mem_useful.mp b1).1 z1
    have z2 := pi_inj hL (mem_useful.mp a2).1 (mem_useful.mp b2).1 z2
    unfold ltB at h
    omega
  · rw [hp.mem_iff, List.mem_map, mem_pairs]
    constructor
    · rintro ⟨h1, h2, h3, h4⟩
      obtain ⟨r, r1, e⟩ := (call_useful hL ok).mp h1
      obtain ⟨o, o1, e'⟩ := (call_useful hL ok).mp h2
      rw [e, e', call_lW hL ok (mem_useful.mp r1).1 (mem_useful.mp o1).1] at h4
      exact ⟨(r, o, x.2.2), mem_pairs.mpr ⟨r1, o1, fun z => h3 (by rw [e, e', show r = o from z]), h4⟩, Prod.ext e.symm (Prod.ext e'.symm rfl)⟩
    · rintro ⟨p, h1, e⟩
      obtain ⟨h2, h3, h4, h5⟩ := mem_pairs.mp h1
      rw [← e]
      exact ⟨(call_useful hL ok).mpr ⟨p.1, h2, rfl⟩, (call_useful hL ok).mpr ⟨p.2.1, h3, rfl⟩, fun z => h4 (pi_inj hL (mem_useful.mp h2).1 (mem_useful.mp h3).1 z), by show lW (callM m L) (piN L p.1) (piN L p.2.1) = _; rw [call_lW hL ok (mem_useful.mp h2).1 (mem_useful.mp h3).1]; exact h5⟩
theorem call_ok : MOk (callM m L) where
  pos := ok.pos
  top := ok.top
  fi := (range_inc _).sublist List.filter_sublist
  fb := fun r h => List.mem_range.mp (List.mem_filter.mp h).1
  li := (range_inc _).sublist List.filter_sublist
  lb := fun r h => List.mem_range.mp (List.mem_filter.mp h).1
  sb := fun t h => by
    obtain ⟨x, s, y, h1, e⟩ := call_steps.mp h
    have := ok.sb _ h1
    rw [e]
    exact ⟨pi_lt hL this.1, this.2.1, pi_lt hL this.2.2⟩
  sn := by
    unfold callM
    show (m.steps.map _).Nodup
    refine List.pairwise_map.mpr ?_
    refine List.Pairwise.imp_of_mem (fun {a b} ha hb h z => h ?_) ok.sn
    obtain ⟨x, s, y⟩ := a
    obtain ⟨x', s', y'⟩ := b
    have a1 := ok.sb _ ha
    have b1 := ok.sb _ hb
    injection z with z1 z2
    injection z2 with z2 z3
    have z1 := pi_inj hL a1.1 b1.1 z1
    have z3 := pi_inj hL a1.2.2 b1.2.2 z3
    have z2 : s = s' := z2
    have z1 : x = x' := z1
    have z3 : y = y' := z3
    rw [z1, z2, z3]
  sl := by
    unfold callM
    show (m.steps.map _).length ≤ 200
    rw [List.length_map]
    exact ok.sl
end
/-! ### how many ways -/
def mvF (steps : List (Nat × Nat × Nat)) (s : Nat) (v : Nat → Int) (j : Nat) : Int := ((steps.filter fun t => t.2.1 == s && t.2.2 == j).map fun t => v t.1).sum
def mvs (steps : List (Nat × Nat × Nat)) (w : List Nat) (v : Nat → Int) : Nat → Int := w.foldl (fun v s => mvF steps s v) v
def indF (r : Nat) (j : Nat) : Int := if j = r then 1 else 0
def waysN (m : Mach) (w : List Nat) (a b : Nat) : Int := mvs m.steps w (indF a) b
theorem sum_nonneg : ∀ {l : List (Nat × Nat × Nat)} {v : Nat → Int}, (∀ j, 0 ≤ v j) → 0 ≤ (l.map fun t => v t.1).sum
  | [], v, h => Int.le_refl _
  | t :: l, v, h => by
    rw [List.map_cons, List.sum_cons]
    have := sum_nonneg (l := l) h
    have := h t.1
    omega
theorem sum_one : ∀ {l : List (Nat × Nat × Nat)} {v : Nat → Int} {t : Nat × Nat × Nat}, (∀ j, 0 ≤ v j) → t ∈ l → v t.1 ≤ (l.map fun t => v t.1).sum
  | [], v, t, h, ht => by cases ht
  | u :: l, v, t, h, ht => by
    rw [List.map_cons, List.sum_cons]
    rcases List.mem_cons.mp ht with e | ht
    · rw [e]
      have := sum_nonneg (l := l) h
      omega
    · have := sum_one h ht
      have := h u.1
      omega
theorem sum_two : ∀ {l : List (Nat × Nat × Nat)} {v : Nat → Int} {t u : Nat × Nat × Nat}, (∀ j, 0 ≤ v j) → t ∈ l → u ∈ l → t ≠ u → v t.1 + v u.1 ≤ (l.map fun t => v t.1).sum
  | [], v, t, u, h, ht, hu, ne => by cases ht
  | z :: l, v, t, u, h, ht, hu, ne => by
    rw [List.map_cons, List.sum_cons]
    rcases List.mem_cons.mp ht with e | ht
    · rcases List.mem_cons.mp hu with e' | hu
      · exact absurd (e.trans e'.symm) ne
      · rw [e]
        have := sum_one h hu
        omega
    · rcases List.mem_cons.mp hu with e' | hu
      · rw [e']
        have := sum_one h ht
        omega
      · have := sum_two h ht hu ne
        have := h z.1
        omega
theorem mvF_nonneg {steps : List (Nat × Nat × Nat)} {s : Nat} {v : Nat → Int} (h : ∀ j, 0 ≤ v j) (j : Nat) : 0 ≤ mvF steps s v j := sum_nonneg h
theorem mvF_one {steps : List (Nat × Nat × Nat)} {s x j : Nat} {v : Nat → Int} (h : ∀ j, 0 ≤ v j) (ht : (x, s, j) ∈ steps) : v x ≤ mvF steps s v j :=
  sum_one (t := (x, s, j)) h (List.mem_filter.mpr ⟨ht, by simp⟩)
theorem mvF_two {steps : List (Nat × Nat × Nat)} {s x y j : Nat} {v : Nat → Int} (h : ∀ j, 0 ≤ v j) (ht : (x, s, j) ∈ steps) (hu : (y, s, j) ∈ steps) (ne : x ≠ y) : v x + v y ≤ mvF steps s v j :=
  sum_two (t := (x, s, j)) (u := (y, s, j)) h (List.mem_filter.mpr ⟨ht, by simp⟩) (List.mem_filter.mpr ⟨hu, by simp⟩) fun z => ne (by injection z)
/-- a at one room, b at another one; both together where they are one -/
def PP (a b : Int) (v : Nat → Int) (y z : Nat) : Prop := (y ≠ z → a ≤ v y ∧ b ≤ v z) ∧ (y = z → a + b ≤ v y)
theorem PP.move {steps : List (Nat × Nat × Nat)} {s y z y' z' : Nat} {a b : Int} {v : Nat → Int} (ha : 0 ≤ a) (hb : 0 ≤ b) (h : ∀ j, 0 ≤ v j) (p : PP a b v y z) (h1 : (y, s, y') ∈ steps) (h2 : (z, s, z') ∈ steps) : PP a b (mvF steps s v) y' z' := by
  have q1 := mvF_one h h1
  have q2 := mvF_one h h2
  by_cases e : y = z
  · have p := p.2 e
    subst e
    exact ⟨fun _ => ⟨by omega, by omega⟩, fun _ => by omega⟩
  · have p := p.1 e
    refine ⟨fun _ => ⟨by omega, by omega⟩, fun e' => ?_⟩
    subst e'
    have := mvF_two h h1 h2 e
    omega
theorem mvs_cons (steps : List (Nat × Nat × Nat)) (s : Nat) (w : List Nat) (v : Nat → Int) : mvs steps (s :: w) v = mvs steps w (mvF steps s v) := rfl
theorem mvs_app (steps : List (Nat × Nat × Nat)) (w w' : List Nat) (v : Nat → Int) : mvs steps (w ++ w') v = mvs steps w' (mvs steps w v) := List.foldl_append
theorem mvs_nonneg {steps : List (Nat × Nat × Nat)} : ∀ {w : List Nat} {v : Nat → Int}, (∀ j, 0 ≤ v j) → ∀ j, 0 ≤ mvs steps w v j
  | [], v, h, j => h j
  | s :: w, v, h, j => mvs_nonneg (w := w) (mvF_nonneg h) j
theorem g2_move {m : Mach} {a b : Int} (ha : 0 ≤ a) (hb : 0 ≤ b) : ∀ {w : List Nat} {p q : Nat × Nat} {v : Nat → Int}, (∀ j, 0 ≤ v j) → RW (g2 m) p w q → PP a b v p.1 p.2 → PP a b (mvs m.steps w v) q.1 q.2
  | [], p, q, v, h, r, k => by
    have e : p = q := r
    subst e
    exact k
  | s :: w, p, q, v, h, r, k => by
    obtain ⟨c, h1, h2⟩ := r
    rw [mvs_cons]
    exact g2_move ha hb (mvF_nonneg h) h2 (k.move ha hb h h1.1.1 h1.2.1)
theorem g2_flat {m : Mach} {c : Int} : ∀ {w : List Nat} {x y : Nat} {v : Nat → Int}, (∀ j, 0 ≤ v j) → RW (fun x s y => TP m x s y) x w y → c ≤ v x → c ≤ mvs m.steps w v y
  | [], x, y, v, h, r, k => by
    have e : x = y := r
    subst e
    exact k
  | s :: w, x, y, v, h, r, k => by
    obtain ⟨d, h1, h2⟩ := r
    rw [mvs_cons]
    exact g2_flat (mvF_nonneg h) h2 (Int.le_trans k (mvF_one h h1.1))
theorem gD_twice {m : Mach} {c : Int} (hc : 0 ≤ c) {v : Nat → Int} : ∀ {w : List Nat} {x : Nat} {b : Nd} {v : Nat → Int}, (∀ j, 0 ≤ v j) → c ≤ v x → RW (gD m) (x, x, 0) w b → b.2.2 = 1 → PP c c (mvs m.steps w v) b.1 b.2.1
  | [], x, b, v, h, k, r, hb => by
    have e : (x, x, 0) = b := r
    rw [← e] at hb
    cases hb
  | s :: w, x, b, v, h, k, r, hb => by
    obtain ⟨d, h1, h2⟩ := r
    obtain ⟨t1, t2, t3⟩ := h1
    have t3 : d.2.2 = if (0 = 1) ∨ d.1 ≠ d.2.1 then 1 else 0 := t3
    rw [mvs_cons]
    have q1 := mvF_one h t1.1
    have q2 := mvF_one h t2.1
    have q1 : v x ≤ mvF m.steps s v d.1 := q1
    have q2 : v x ≤ mvF m.steps s v d.2.1 := q2
    by_cases e : d.1 = d.2.1
    · rw [if_neg (fun z => z.elim (fun y => by cases y) (fun y => y e))] at t3
      have e2 : d = (d.1, d.1, 0) := Prod.ext rfl (Prod.ext e.symm t3)
      rw [e2] at h2
      exact gD_twice hc (v := v) (mvF_nonneg h) (by omega) h2 hb
    · have := g2_move hc hc (mvF_nonneg (steps := m.steps) (s := s) h) (gD_g2 h2) ⟨fun _ => ⟨by show c ≤ mvF m.steps s v d.1; omega, by show c ≤ mvF m.steps s v d.2.1; omega⟩, fun z => absurd z e⟩
      exact this
def rep (k : Nat) (w : List Nat) : List Nat := (List.replicate k w).flatten
theorem rep_succ (k : Nat) (w : List Nat) : rep (k + 1) w = rep k w ++ w := by
  unfold rep
  rw [List.replicate_succ', List.flatten_append]
  simp
theorem ind_nonneg (r j : Nat) : 0 ≤ indF r j := by
  unfold indF
  split <;> omega
theorem grow_double {m : Mach} {r : Nat} {w : List Nat} (h : RW (gD m) (r, r, 0) w (r, r, 1)) : ∀ k : Nat, (2 : Int) ^ k ≤ waysN m (rep k w) r r
  | 0 => by
    show (2 : Int) ^ 0 ≤ indF r r
    unfold indF
    rw [if_pos rfl]
    decide
  | k + 1 => by
    have ih := grow_double h k
    unfold waysN at *
    rw [rep_succ, mvs_app]
    have p : (0 : Int) ≤ 2 ^ k := Int.le_of_lt (Int.pow_pos (by decide))
    have q := (gD_twice p (v := indF r) (mvs_nonneg (steps := m.steps) (w := rep k w) (ind_nonneg r)) ih h rfl).2 rfl
    have e : (2 : Int) ^ (k + 1) = 2 ^ k + 2 ^ k := by rw [Int.pow_succ]; omega
    rw [e]
    exact q
theorem gL_split {m : Mach} {w : List Nat} {a b : Nd} (h : RW (gL m) a w b) : RW (fun x s y => TP m x s y) a.1 w b.1 ∧ RW (g2 m) (a.2.1, a.2.2) w (b.2.1, b.2.2) :=
  ⟨RW.map (fun a : Nd => a.1) (fun _ _ _ h => h.1) h, RW.map (fun a : Nd => (a.2.1, a.2.2)) (fun _ _ _ h => ⟨h.2.1, h.2.2⟩) h⟩
theorem grow_led {m : Mach} {r o : Nat} {w : List Nat} (ne : r ≠ o) (h : RW (gL m) (r, r, o) w (r, o, o)) : ∀ k : Nat, 1 ≤ mvs m.steps (rep k w) (indF r) r ∧ (k : Int) ≤ waysN m (rep k w) r o
  | 0 => by
    refine ⟨?_, ind_nonneg r o⟩
    show 1 ≤ indF r r
    unfold indF
    rw [if_pos rfl]
    decide
  | k + 1 => by
    obtain ⟨i1, i2⟩ := grow_led ne h k
    obtain ⟨h1, h2⟩ := gL_split h
    have nn := mvs_nonneg (steps := m.steps) (w := rep k w) (ind_nonneg r)
    unfold waysN at *
    rw [rep_succ, mvs_app]
    refine ⟨g2_flat nn h1 i1, ?_⟩
    have := (g2_move (a := 1) (b := k) (by decide) (by omega) nn h2 ⟨fun _ => ⟨i1, i2⟩, fun z => absurd z ne⟩).2 rfl
    have e : ((k + 1 : Nat) : Int) = 1 + (k : Int) := by omega
    rw [e]
    exact this
end K44

set_option Elab.async false
set_option linter.all false
set_option maxRecDepth 100000
set_option maxHeartbeats 4000000
namespace K44
open PySem PySem.Spec PyProof.Rows L2
def topAt (i : Nat) : Stmt := PySem.Challenge.pw_triesgrow_k44_whole_rounds_laid_again.main.body.getD i (.Pass ⟨0, 0, 0, 0⟩)
abbrev s_is_sign : Stmt := topAt 7
abbrev s_is_sign_N : List Str := ["thing"]
theorem s_is_sign_sc : FnScope s_is_sign_N ["thing"] (defScope s_is_sign) := ⟨rfl, rfl, rfl, by decide +kernel, rfl, by decide +kernel, by decide +kernel⟩
abbrev s_is_whole : Stmt := topAt 11
abbrev s_is_whole_N : List Str := ["thing"]
theorem s_is_whole_sc : FnScope s_is_whole_N ["thing"] (defScope s_is_whole) := ⟨rfl, rfl, rfl, by decide +kernel, rfl, by decide +kernel, by decide +kernel⟩
abbrev s_is_within : Stmt := topAt 12
abbrev s_is_within_N : List Str := ["thing", "least", "most"]
theorem s_is_within_sc : FnScope s_is_within_N ["thing", "least", "most"] (defScope s_is_within) := ⟨rfl, rfl, rfl, by decide +kernel, rfl, by decide +kernel, by decide +kernel⟩
abbrev s_look_at_rooms : Stmt := topAt 13
abbrev s_look_at_rooms_N : List Str := ["many", "part", "thing", "last", "number", "room"]
theorem s_look_at_rooms_sc : FnScope s_look_at_rooms_N ["many", "part", "thing"] (defScope s_look_at_rooms) := ⟨rfl, rfl, rfl, by decide +kernel, rfl, by decide +kernel, by decide +kernel⟩
abbrev s_is_step : Stmt := topAt 14
abbrev s_is_step_N : List Str := ["many", "thing"]
theorem s_is_step_sc : FnScope s_is_step_N ["many", "thing"] (defScope s_is_step) := ⟨rfl, rfl, rfl, by decide +kernel, rfl, by decide +kernel, by decide +kernel⟩
abbrev s_look_at_steps : Stmt := topAt 15
abbrev s_look_at_steps_N : List Str := ["many", "thing", "seen", "number", "step"]
theorem s_look_at_steps_sc : FnScope s_look_at_steps_N ["many", "thing"] (defScope s_look_at_steps) := ⟨rfl, rfl, rfl, by decide +kernel, rfl, by decide +kernel, by decide +kernel⟩
abbrev s_look_at : Stmt := topAt 16
abbrev s_look_at_N : List Str := ["thing", "many", "firsts", "lasts", "steps"]
theorem s_look_at_sc : FnScope s_look_at_N ["thing"] (defScope s_look_at) := ⟨rfl, rfl, rfl, by decide +kernel, rfl, by decide +kernel, by decide +kernel⟩
abbrev s_look_at_room : Stmt := topAt 17
abbrev s_look_at_room_N : List Str := ["machine", "room"]
theorem s_look_at_room_sc : FnScope s_look_at_room_N ["machine", "room"] (defScope s_look_at_room) := ⟨rfl, rfl, rfl, by decide +kernel, rfl, by decide +kernel, by decide +kernel⟩
abbrev s_turned : Stmt := topAt 18
abbrev s_turned_N : List Str := ["machine", "many", "firsts", "lasts", "steps", "one", "sign", "other"]
theorem s_turned_sc : FnScope s_turned_N ["machine"] (defScope s_turned) := ⟨rfl, rfl, rfl, by decide +kernel, rfl, by decide +kernel, by decide +kernel⟩
abbrev s_called : Stmt := topAt 19
abbrev s_called_N : List Str := ["machine", "rooms", "many", "firsts", "lasts", "steps", "told", "room", "one", "sign", "other"]
theorem s_called_sc : FnScope s_called_N ["machine", "rooms"] (defScope s_called) := ⟨rfl, rfl, rfl, by decide +kernel, rfl, by decide +kernel, by decide +kernel⟩
abbrev s_come_to : Stmt := topAt 21
abbrev s_come_to_N : List Str := ["steps", "rooms", "found", "waiting", "room", "here", "to"]
theorem s_come_to_sc : FnScope s_come_to_N ["steps", "rooms"] (defScope s_come_to) := ⟨rfl, rfl, rfl, by decide +kernel, rfl, by decide +kernel, by decide +kernel⟩
abbrev s_useful : Stmt := topAt 22
abbrev s_useful_N : List Str := ["machine", "ahead", "behind", "room", "sign", "to"]
theorem s_useful_sc : FnScope s_useful_N ["machine"] (defScope s_useful) := ⟨rfl, rfl, rfl, by decide +kernel, rfl, by decide +kernel, by decide +kernel⟩
abbrev s_trimmed : Stmt := topAt 23
abbrev s_trimmed_N : List Str := ["machine", "rooms", "firsts", "lasts", "room", "step"]
theorem s_trimmed_sc : FnScope s_trimmed_N ["machine"] (defScope s_trimmed) := ⟨rfl, rfl, rfl, by decide +kernel, rfl, by decide +kernel, by decide +kernel⟩
abbrev s_signs_of : Stmt := topAt 24
abbrev s_signs_of_N : List Str := ["machine", "room", "sign", "to"]
theorem s_signs_of_sc : FnScope s_signs_of_N ["machine"] (defScope s_signs_of) := ⟨rfl, rfl, rfl, by decide +kernel, rfl, by decide +kernel, by decide +kernel⟩
abbrev s_by_signs : Stmt := topAt 25
abbrev s_by_signs_N : List Str := ["machine", "found", "room", "sign", "to"]
theorem s_by_signs_sc : FnScope s_by_signs_N ["machine"] (defScope s_by_signs) := ⟨rfl, rfl, rfl, by decide +kernel, rfl, by decide +kernel, by decide +kernel⟩
abbrev s_first_text : Stmt := topAt 26
abbrev s_first_text_N : List Str := ["signs", "start", "goal", "nexts", "known", "waiting", "some", "text", "sign", "found", "here", "to"]
theorem s_first_text_sc : FnScope s_first_text_N ["signs", "start", "goal", "nexts"] (defScope s_first_text) := ⟨rfl, rfl, rfl, by decide +kernel, rfl, by decide +kernel, by decide +kernel⟩
abbrev s_double_text : Stmt := topAt 28
abbrev s_double_text_N : List Str := ["table", "signs", "room", "nexts"]
theorem s_double_text_sc : FnScope s_double_text_N ["table", "signs", "room"] (defScope s_double_text) := ⟨rfl, rfl, rfl, by decide +kernel, rfl, by decide +kernel, by decide +kernel⟩
abbrev s_led_text : Stmt := topAt 29
abbrev s_led_text_N : List Str := ["table", "signs", "room", "other", "nexts"]
theorem s_led_text_sc : FnScope s_led_text_N ["table", "signs", "room", "other"] (defScope s_led_text) := ⟨rfl, rfl, rfl, by decide +kernel, rfl, by decide +kernel, by decide +kernel⟩
abbrev s_double_rounds : Stmt := topAt 30
abbrev s_double_rounds_N : List Str := ["machine", "rooms", "table", "found", "room", "text"]
theorem s_double_rounds_sc : FnScope s_double_rounds_N ["machine"] (defScope s_double_rounds) := ⟨rfl, rfl, rfl, by decide +kernel, rfl, by decide +kernel, by decide +kernel⟩
abbrev s_led_rounds : Stmt := topAt 31
abbrev s_led_rounds_N : List Str := ["machine", "rooms", "table", "signs", "found", "room", "other", "text"]
theorem s_led_rounds_sc : FnScope s_led_rounds_N ["machine"] (defScope s_led_rounds) := ⟨rfl, rfl, rfl, by decide +kernel, rfl, by decide +kernel, by decide +kernel⟩
abbrev s_look_at_word : Stmt := topAt 33
abbrev s_look_at_word_N : List Str := ["text", "at", "sign"]
theorem s_look_at_word_sc : FnScope s_look_at_word_N ["text"] (defScope s_look_at_word) := ⟨rfl, rfl, rfl, by decide +kernel, rfl, by decide +kernel, by decide +kernel⟩
abbrev s_alone_at : Stmt := topAt 34
abbrev s_alone_at_N : List Str := ["machine", "rooms", "room"]
theorem s_alone_at_sc : FnScope s_alone_at_N ["machine", "rooms"] (defScope s_alone_at) := ⟨rfl, rfl, rfl, by decide +kernel, rfl, by decide +kernel, by decide +kernel⟩
abbrev s_moved : Stmt := topAt 35
abbrev s_moved_N : List Str := ["machine", "vector", "sign", "later", "room", "letter", "to"]
theorem s_moved_sc : FnScope s_moved_N ["machine", "vector", "sign"] (defScope s_moved) := ⟨rfl, rfl, rfl, by decide +kernel, rfl, by decide +kernel, by decide +kernel⟩
abbrev s_moved_by : Stmt := topAt 36
abbrev s_moved_by_N : List Str := ["machine", "vector", "text", "sign"]
theorem s_moved_by_sc : FnScope s_moved_by_N ["machine", "vector", "text"] (defScope s_moved_by) := ⟨rfl, rfl, rfl, by decide +kernel, rfl, by decide +kernel, by decide +kernel⟩
abbrev s_sum_at : Stmt := topAt 37
abbrev s_sum_at_N : List Str := ["vector", "rooms", "room"]
theorem s_sum_at_sc : FnScope s_sum_at_N ["vector", "rooms"] (defScope s_sum_at) := ⟨rfl, rfl, rfl, by decide +kernel, rfl, by decide +kernel, by decide +kernel⟩
abbrev s_ways : Stmt := topAt 38
abbrev s_ways_N : List Str := ["machine", "text", "first", "last", "firsts", "lasts"]
theorem s_ways_sc : FnScope s_ways_N ["machine", "text", "first", "last"] (defScope s_ways) := ⟨rfl, rfl, rfl, by decide +kernel, rfl, by decide +kernel, by decide +kernel⟩
abbrev s_law_hand : Stmt := topAt 40
abbrev s_law_hand_N : List Str := ["_law_script", "_law_k", "_law_cell", "_law_seed"]
theorem s_law_hand_sc : FnScope s_law_hand_N ["_law_script", "_law_k"] (defScope s_law_hand) := ⟨rfl, rfl, rfl, by decide +kernel, rfl, by decide +kernel, by decide +kernel⟩
abbrev s_law_draw : Stmt := topAt 41
abbrev s_law_draw_N : List Str := ["_law_hand_here", "_law_size", "_law_found"]
theorem s_law_draw_sc : FnScope s_law_draw_N ["_law_hand_here", "_law_size"] (defScope s_law_draw) := ⟨rfl, rfl, rfl, by decide +kernel, rfl, by decide +kernel, by decide +kernel⟩
abbrev s_law_rooms : Stmt := topAt 42
abbrev s_law_rooms_N : List Str := ["_law_hand_here", "_law_size", "_law_some", "_law_room"]
theorem s_law_rooms_sc : FnScope s_law_rooms_N ["_law_hand_here", "_law_size"] (defScope s_law_rooms) := ⟨rfl, rfl, rfl, by decide +kernel, rfl, by decide +kernel, by decide +kernel⟩
abbrev s_law_letters : Stmt := topAt 43
abbrev s_law_letters_N : List Str := ["_law_hand_here"]
theorem s_law_letters_sc : FnScope s_law_letters_N ["_law_hand_here"] (defScope s_law_letters) := ⟨rfl, rfl, rfl, by decide +kernel, rfl, by decide +kernel, by decide +kernel⟩
abbrev s_law_machine : Stmt := topAt 44
abbrev s_law_machine_N : List Str := ["_law_hand_here", "_law_upto", "_law_extra", "_law_letters_here", "_law_rooms_here", "_law_firsts", "_law_lasts", "_law_steps", "_law_k", "_law_step"]
theorem s_law_machine_sc : FnScope s_law_machine_N ["_law_hand_here", "_law_upto", "_law_extra", "_law_letters_here"] (defScope s_law_machine) := ⟨rfl, rfl, rfl, by decide +kernel, rfl, by decide +kernel, by decide +kernel⟩
abbrev s_law_order : Stmt := topAt 46
abbrev s_law_order_N : List Str := ["_law_hand_here", "_law_many", "_law_found", "_law_room"]
theorem s_law_order_sc : FnScope s_law_order_N ["_law_hand_here", "_law_many"] (defScope s_law_order) := ⟨rfl, rfl, rfl, by decide +kernel, rfl, by decide +kernel, by decide +kernel⟩
abbrev s_law_grows : Stmt := topAt 47
abbrev s_law_grows_N : List Str := ["_law_machine_here", "_law_doubles", "_law_pairs", "_law_power", "_law_k", "_law_room", "_law_word_here", "_law_other"]
theorem s_law_grows_sc : FnScope s_law_grows_N ["_law_machine_here", "_law_doubles", "_law_pairs"] (defScope s_law_grows) := ⟨rfl, rfl, rfl, by decide +kernel, rfl, by decide +kernel, by decide +kernel⟩
abbrev s_law : Stmt := topAt 48
abbrev s_law_N : List Str := ["_law_script", "_law_k", "_law_hand_here", "_law_machine_here", "_law_doubles", "_law_pairs", "_law_back", "_law_due", "_law_order_here", "_law_other_one", "_law_room", "_law_word_here", "_law_other"]
theorem s_law_sc : FnScope s_law_N ["_law_script"] (defScope s_law) := ⟨rfl, rfl, rfl, by decide +kernel, rfl, by decide +kernel, by decide +kernel⟩
end K44

set_option Elab.async false
set_option linter.all false
set_option maxRecDepth 100000
set_option maxHeartbeats 4000000
namespace K44
open PySem PySem.Spec PyProof.Rows L2
/-! ### a def of the text, what it promises -/
abbrev FnP (K : PySem.W.Frag) (x : Str) (st : Stmt) (f : Addr) (fd : FuncData) : Prop := FunD K x x (defArgs st) (defBody st) (defScope st) [] [] f fd
/-- x stands for a def that keeps the promise sp -/
structure Cal (P : Program) (w : World) (K : PySem.W.Frag) (mg : Str → Option Value) (base : Heap) (k : Nat) (x : Str) (ps : List Str) (sp : Sp) : Prop where
  ex : ∃ f fd, FnOk P w K mg base CX0 k f fd ps sp ∧ mg x = some (.ref f) ∧ PySem.W.keepIn K (.ref f) = true ∧ Binds K fd ps []
/-- x stands for the def st of the text -/
def Has (K : PySem.W.Frag) (mg : Str → Option Value) (x : Str) (st : Stmt) : Prop := ∃ f fd, FnP K x st f fd ∧ mg x = some (.ref f)
section
variable {P : Program} {w : World} {K : PySem.W.Frag} {mg : Str → Option Value} {base : Heap}
theorem Cal.mono {j k : Nat} {x : Str} {ps : List Str} {sp : Sp} (c : Cal P w K mg base j x ps sp) (h : j ≤ k) : Cal P w K mg base k x ps sp := by
  obtain ⟨f, fd, F, r⟩ := c.ex
  exact ⟨f, fd, F.mono h, r⟩
theorem cal_mk {x : Str} {st : Stmt} {N ps : List Str} {k : Nat} {sp : Sp} (h : Has K mg x st) (S : FnScope N ps (defScope st))
    (hb : ∀ (kV doc pm : Value) (an : Option Addr) (cdv ct : Value) (us : List Value), us.length = ps.length → bindArgs (PySem.W.fnOf x x (defArgs st) (defBody st) (defScope st) .none kV doc pm an cdv ct) ⟨us, []⟩ = pure (ps.zip us))
    (len : ∀ vs H Q E, sp vs H Q E → vs.length = ps.length)
    (hbody : ∀ (f : Addr) (cdv : Value) (A : Around) (outer : List Env) (s : Shared) (H : Hp) (vs : List V) (Q : VK) (E : XK), Room k (A.deeper (envOfC x (defScope st) s.heap.objs.size f cdv)) → sp vs H Q E →
      ∃ t, PSs (cxOf CX0 P w K mg base N x (defScope st) f cdv A outer s H E).nox (defBody st) t ∧ t { nx := fun _ H' => Q .non H', rt := Q } (start N vs) H) : Cal P w K mg base (k + 1) x ps sp := by
  obtain ⟨f, fd, F, g⟩ := h
  exact ⟨f, fd, F.ok S len fun cdv A outer s H vs Q E hr hs => let ⟨t, h1, h2⟩ := hbody f cdv A outer s H vs Q E hr hs; ⟨t, h1.nox, h2⟩, g, F.kp, FunD.bindsN (ps := ps) F hb⟩
end
section
variable {X : Cx} {k : Nat} {x : Str} {ps : List Str} {sp : Sp} {p pos : Pos} {e : Expr} {es : List Expr} {t : TA}
theorem pe_cal (C : Cal X.prog X.w X.K X.mg X.base k x ps sp) (hr : Room k X.A) (ha : PA X (e :: es) t) (hg : Gl X x := by rfl)
    (hdb : (x == ("__debug__" : Str)) = false := by decide)
    (he : starEach (e :: es) X.env = (false, eval e X.env) :: starEach es X.env := by rfl) (hpl : (backTo pos (starEach es X.env)).any (·.1) = false := by rfl) : PE X (.Call (.Name x p) (e :: es) [] pos) (tCall sp [] E0 t) := by
  obtain ⟨f, fd, F, g, kp, b⟩ := C.ex
  exact pe_call F hr hg g kp b .nil pass0 ha hdb he hpl
end
/-! ### the written part: what the names that are no defs of the text stand for -/
structure Txt (mg : Str → Option Value) : Prop where
  isinstance : mg "isinstance" = none
  len : mg "len" = none
  str : mg "str" = none
  int : mg "int" = none
  bool : mg "bool" = none
  list : mg "list" = none
  tuple : mg "tuple" = none
  enumerate : mg "enumerate" = none
  sorted : mg "sorted" = none
  all : mg "all" = none
  range : mg "range" = none
  sum : mg "sum" = none
  set : mg "set" = none
  max : mg "max" = none
  min : mg "min" = none
  LETTERS : ∃ t, mg "LETTERS" = some (.str "abcdefghijklmnopqrstuvwxyz" t)
  MOST_WORD : ∃ t, mg "MOST_WORD" = some (.int 400 t)
  MOST_ROOMS : ∃ t, mg "MOST_ROOMS" = some (.int 12 t)
  MOST_STEPS : ∃ t, mg "MOST_STEPS" = some (.int 200 t)
/-! ### signs -/
def sg (c : Nat) : Str := ⟨#[c]⟩
def okSign (c : Nat) : Bool := decide (97 ≤ c) && decide (c ≤ 122)
theorem letters_mem (c : Nat) : (c ∈ (("abcdefghijklmnopqrstuvwxyz" : Str)).cps.toList) ↔ (97 ≤ c ∧ c ≤ 122) := by
  have e : (("abcdefghijklmnopqrstuvwxyz" : Str)).cps.toList = (List.range 26).map (97 + ·) := by decide +kernel
  rw [e, List.mem_map]
  constructor
  · rintro ⟨a, h1, h2⟩
    have := List.mem_range.mp h1
    omega
  · intro h
    exact ⟨c - 97, List.mem_range.mpr (by omega), by omega⟩
/-! ### heaps that grow -/
/-- tuples stay -/
def Tups (H H' : Hp) : Prop := ∀ b xs, H b = some (.tup xs) → H' b = some (.tup xs)
theorem Same.tups {H H' : Hp} (e : Same H H') : Tups H H' := fun b xs h => e b _ h
theorem Tups.refl (H : Hp) : Tups H H := fun _ _ h => h
theorem Tups.trans {H H1 H2 : Hp} (a : Tups H H1) (b : Tups H1 H2) : Tups H H2 := fun c xs h => b c xs (a c xs h)
theorem same_new {H : Hp} {p : Addr} {o : HO} (h : H p = none) : Same H (upd H p o) := fun b x e => by
  rw [upd_ne (ne_of_none e h)]
  exact e
/-- what is new may change -/
theorem same_upd {H H' : Hp} {p : Addr} {o : HO} (e : Same H H') (h : H p = none) : Same H (upd H' p o) := fun b x q => by
  rw [upd_ne (ne_of_none q h)]
  exact e b x q
theorem tups_upd {H : Hp} {p : Addr} {o : HO} (h : ∀ xs, H p ≠ some (.tup xs)) : Tups H (upd H p o) := fun b xs e => by
  rw [upd_ne (fun z => h xs (by rw [← z]; exact e))]
  exact e
theorem not_tup_lst {H : Hp} {p : Addr} {xs : List V} (h : H p = some (.lst xs)) : ∀ ys, H p ≠ some (.tup ys) := fun ys z => by
  rw [h] at z
  cases z
/-! ### rows: the values xs stand for the data l, one by one -/
def LR {α : Type} (R : Hp → V → α → Prop) (H : Hp) (xs : List V) (l : List α) : Prop := xs.length = l.length ∧ ∀ (i : Nat) (x : V) (y : α), xs[i]? = some x → l[i]? = some y → R H x y
section
variable {α : Type} {R : Hp → V → α → Prop} {H H' : Hp}
theorem LR.nil : LR R H [] [] := ⟨rfl, fun i x y h => by simp at h⟩
theorem LR.mono {xs : List V} {l : List α} (h : LR R H xs l) (f : ∀ x y, R H x y → R H' x y) : LR R H' xs l := ⟨h.1, fun i x y a b => f x y (h.2 i x y a b)⟩
theorem LR.snoc {xs : List V} {l : List α} {x : V} {y : α} (h : LR R H xs l) (k : R H x y) : LR R H (xs ++ [x]) (l ++ [y]) := by
  refine ⟨by rw [List.length_append, List.length_append, h.1]; rfl, fun i a b ha hb => ?_⟩
  by_cases hi : i < xs.length
  · rw [List.getElem?_append_left hi] at ha
    rw [List.getElem?_append_left (by rw [← h.1]; exact hi)] at hb
    exact h.2 i a b ha hb
  · rw [List.getElem?_append_right (by omega)] at ha
    rw [List.getElem?_append_right (by rw [← h.1]; omega), ← h.1] at hb
    have e : i - xs.length = 0 := by
      have := (List.getElem?_eq_some_iff.mp ha).1
      simp only [List.length_cons, List.length_nil] at this
      omega
    rw [e] at ha hb
    have e1 : x = a := Option.some.inj ha
    have e2 : y = b := Option.some.inj hb
    rw [← e1, ← e2]
    exact k
theorem LR.at {xs : List V} {l : List α} (h : LR R H xs l) {i : Nat} {x : V} (a : xs[i]? = some x) : ∃ y, l[i]? = some y ∧ R H x y := by
  have hi : i < l.length := by
    rw [← h.1]
    exact (List.getElem?_eq_some_iff.mp a).1
  exact ⟨l[i], List.getElem?_eq_getElem hi, h.2 i x l[i] a (List.getElem?_eq_getElem hi)⟩
theorem LR.cons_iff {x : V} {xs : List V} {y : α} {l : List α} : LR R H (x :: xs) (y :: l) ↔ R H x y ∧ LR R H xs l := by
  constructor
  · intro h
    refine ⟨h.2 0 x y rfl rfl, by have := h.1; simp only [List.length_cons] at this; omega, fun i a b ha hb => h.2 (i + 1) a b (by simpa using ha) (by simpa using hb)⟩
  · rintro ⟨h1, h2⟩
    refine ⟨by simp [h2.1], fun i a b ha hb => ?_⟩
    cases i with
    | zero =>
      have e1 : x = a := by simpa using ha
      have e2 : y = b := by simpa using hb
      rw [← e1, ← e2]
      exact h1
    | succ i => exact h2.2 i a b (by simpa using ha) (by simpa using hb)
end
theorem LR.eq_map {α : Type} {g : α → V} {H : Hp} {xs : List V} {l : List α} (h : LR (fun _ x y => x = g y) H xs l) : xs = l.map g := by
  apply List.ext_getElem?
  intro i
  by_cases hi : i < xs.length
  · obtain ⟨y, e1, e2⟩ := h.at (List.getElem?_eq_getElem hi)
    rw [List.getElem?_eq_getElem hi, e2, List.getElem?_map, e1]
    rfl
  · rw [List.getElem?_eq_none (by omega), List.getElem?_eq_none (by rw [List.length_map, ← h.1]; omega)]
/-- ints -/
def nv (n : Nat) : V := .int (n : Int)
def RN (H : Hp) (x : V) (n : Nat) : Prop := x = nv n
def IntsAt (H : Hp) (a : Addr) (ns : List Nat) : Prop := H a = some (.lst (ns.map nv))
/-- a step: its room, sign, room -/
def RS (H : Hp) (x : V) (t : Nat × Nat × Nat) : Prop := ∃ p, x = .ref p ∧ H p = some (.tup [nv t.1, .str (sg t.2.1), nv t.2.2])
theorem RS.mono {H H' : Hp} {x : V} {t : Nat × Nat × Nat} (h : RS H x t) (e : Tups H H') : RS H' x t := by
  obtain ⟨p, h1, h2⟩ := h
  exact ⟨p, h1, e _ _ h2⟩
def StepsAt (H : Hp) (a : Addr) (l : List (Nat × Nat × Nat)) : Prop := ∃ xs, H a = some (.lst xs) ∧ LR RS H xs l
theorem StepsAt.mono {H H' : Hp} {a : Addr} {l : List (Nat × Nat × Nat)} (h : StepsAt H a l) (e : Same H H') : StepsAt H' a l := by
  obtain ⟨xs, h1, h2⟩ := h
  exact ⟨xs, e _ _ h1, h2.mono fun x y k => k.mono (Same.tups e)⟩
structure MacAt (H : Hp) (v : V) (m : Mach) (t fa la sa : Addr) : Prop where
  v : v = .ref t
  t : H t = some (.tup [nv m.many, .ref fa, .ref la, .ref sa])
  fa : IntsAt H fa m.firsts
  la : IntsAt H la m.lasts
  sa : StepsAt H sa m.steps
theorem MacAt.mono {H H' : Hp} {v : V} {m : Mach} {t fa la sa : Addr} (h : MacAt H v m t fa la sa) (e : Same H H') : MacAt H' v m t fa la sa :=
  ⟨h.v, e _ _ h.t, e _ _ h.fa, e _ _ h.la, h.sa.mono e⟩
/-! ### a comprehension's rows -/
structure Grow (E : Hp → Hp → Prop) : Prop where
  refl : ∀ H, E H H
  trans : ∀ H H1 H2, E H H1 → E H1 H2 → E H H2
  lst : ∀ H H' b xs, E H H' → H b = some (.lst xs) → H' b = some (.lst xs)
  put : ∀ H H' b xs ys, E H H' → H b = none → H' b = some (.lst xs) → E H (upd H' b (.lst ys))
  tups : ∀ H H', E H H' → Tups H H'
  new : ∀ H p o, H p = none → E H (upd H p o)
theorem grow_same : Grow Same where
  refl := Same.refl
  trans := fun _ _ _ a b => a.trans b
  lst := fun _ _ b xs e h => e b _ h
  put := fun _ _ b xs ys e h _ => same_upd e h
  tups := fun _ _ e => Same.tups e
  new := fun _ _ _ h => same_new h
theorem fm_take {α : Type} (f : Nat → Option α) (i : Nat) : (List.range (i + 1)).filterMap f = (List.range i).filterMap f ++ (f i).toList := by
  rw [List.range_succ, List.filterMap_append]
  congr 1
theorem lc_rows {E : Hp → Hp → Prop} (gr : Grow E) {α : Type} {R : Hp → V → α → Prop} (hR : ∀ H H' x y, Tups H H' → R H x y → R H' x y) {J : It} {n : Nat} {G : Hp → Prop} {Y : Nat → Hp → V → Hp → Prop} (w : Walk J n G Y) (f : Nat → Option α)
    {g : TG} {tt : TT} {te : TE} {vs : List Nat} {σ : L2.St} {H1 : Hp} {D : Addr} {Qd : Hp → Prop} (hn : n < sizeLine) (hD : H1 D = none) (hG : ∀ H, E H1 H → G H)
    (hs : ∀ i x H H' (Ka : V → Hp → Prop) (Kb : Hp → Prop), i < n → E H1 H → Y i H x H' → (∀ z u H4, f i = some u → R H4 z u → E H H4 → Ka z H4) → (∀ H3, f i = none → E H H3 → Kb H3) →
      g x (wipe σ vs) H' fun σ2 H2 => wipe σ2 vs = wipe σ vs ∧ tt σ2 H2 fun b H3 => if b = true then te σ2 H3 Ka else Kb H3)
    (hd : ∀ H acc, E H1 H → H D = some (.lst acc) → LR R H acc ((List.range n).filterMap f) → Qd H) :
    ∃ W : Nat → Nat → Hp → Prop, (∃ m, W 0 m (upd H1 D (.lst []))) ∧ ∀ i m H, W i m H →
      (J.stop i H ∧ Qd H) ∨ (J.go i H ∧ ∃ Nx : Hp → Prop, (∀ H', Nx H' → ∃ m', m' < m ∧ W (i + 1) m' H') ∧ ∀ x H', J.yld i H x H' → g x (wipe σ vs) H' fun σ2 H2 => wipe σ2 vs = wipe σ vs ∧ tt σ2 H2 fun b H3 =>
        if b = true then te σ2 H3 fun y H4 => ∃ acc, H4 D = some (.lst acc) ∧ acc.length < sizeLine ∧ Nx (upd H4 D (.lst (acc ++ [y]))) else Nx H3) := by
  have small : ∀ i, ((List.range i).filterMap f).length ≤ i := fun i => by
    have := List.length_filterMap_le f (List.range i)
    rw [List.length_range] at this
    exact this
  refine lc_it w (fun i H => i ≤ n ∧ E H1 H ∧ ∃ acc, H D = some (.lst acc) ∧ LR R H acc ((List.range i).filterMap f)) ⟨Nat.zero_le _, gr.new _ _ _ hD, [], upd_same, LR.nil⟩ (fun i H _ h => hG H h.2.1) (fun i x H H' hi ⟨_, e, acc, hA, hl⟩ y => ?_) (fun H ⟨_, e, acc, hA, hl⟩ => hd H acc e hA hl)
  refine hs i x H H' _ _ hi e y (fun z u H4 fu r e4 => ?_) (fun H3 fn e3 => ?_)
  · refine ⟨acc, gr.lst _ _ _ _ e4 hA, ?_, Nat.succ_le_of_lt hi, ?_, acc ++ [z], upd_same, ?_⟩
    · rw [hl.1]
      exact Nat.lt_of_le_of_lt (small i) (Nat.lt_trans hi hn)
    · exact gr.put _ _ _ _ _ (gr.trans _ _ _ e e4) hD (gr.lst _ _ _ _ e4 hA)
    · rw [fm_take, fu]
      have tp : Tups H4 (upd H4 D (.lst (acc ++ [z]))) := tups_upd (not_tup_lst (gr.lst _ _ _ _ e4 hA))
      exact LR.snoc (hl.mono fun x y k => hR _ _ _ _ tp (hR _ _ _ _ (gr.tups _ _ e4) k)) (hR _ _ _ _ tp r)
  · refine ⟨Nat.succ_le_of_lt hi, gr.trans _ _ _ e e3, acc, gr.lst _ _ _ _ e3 hA, ?_⟩
    rw [fm_take, fn]
    show LR R H3 acc (_ ++ [])
    rw [List.append_nil]
    exact hl.mono fun x y k => hR _ _ _ _ (gr.tups _ _ e3) k
theorem fm_some {α : Type} (f : Nat → α) (n : Nat) : (List.range n).filterMap (fun i => some (f i)) = (List.range n).map f := by
  rw [List.filterMap_eq_map']
/-- without ifs -/
theorem lc_rowsY {E : Hp → Hp → Prop} (gr : Grow E) {α : Type} {R : Hp → V → α → Prop} (hR : ∀ H H' x y, Tups H H' → R H x y → R H' x y) {J : It} {n : Nat} {G : Hp → Prop} {Y : Nat → Hp → V → Hp → Prop} (w : Walk J n G Y) (f : Nat → α)
    {g : TG} {te : TE} {vs : List Nat} {σ : L2.St} {H1 : Hp} {D : Addr} {Qd : Hp → Prop} (hn : n < sizeLine) (hD : H1 D = none) (hG : ∀ H, E H1 H → G H)
    (hs : ∀ i x H H' (Ka : V → Hp → Prop), i < n → E H1 H → Y i H x H' → (∀ z H4, R H4 z (f i) → E H H4 → Ka z H4) → g x (wipe σ vs) H' fun σ2 H2 => wipe σ2 vs = wipe σ vs ∧ te σ2 H2 Ka)
    (hd : ∀ H acc, E H1 H → H D = some (.lst acc) → LR R H acc ((List.range n).map f) → Qd H) (mono : ∀ x σ' H' (Q Q' : L2.St → Hp → Prop), (∀ a b, Q a b → Q' a b) → g x σ' H' Q → g x σ' H' Q') :
    ∃ W : Nat → Nat → Hp → Prop, (∃ m, W 0 m (upd H1 D (.lst []))) ∧ ∀ i m H, W i m H →
      (J.stop i H ∧ Qd H) ∨ (J.go i H ∧ ∃ Nx : Hp → Prop, (∀ H', Nx H' → ∃ m', m' < m ∧ W (i + 1) m' H') ∧ ∀ x H', J.yld i H x H' → g x (wipe σ vs) H' fun σ2 H2 => wipe σ2 vs = wipe σ vs ∧ tYes σ2 H2 fun b H3 =>
        if b = true then te σ2 H3 fun y H4 => ∃ acc, H4 D = some (.lst acc) ∧ acc.length < sizeLine ∧ Nx (upd H4 D (.lst (acc ++ [y]))) else Nx H3) := by
  refine lc_rows gr hR w (fun i => some (f i)) hn hD hG (fun i x H H' Ka Kb hi e y ka kb => ?_) (fun H acc e hA lr => hd H acc e hA (by rw [← fm_some]; exact lr))
  refine mono _ _ _ _ _ (fun a b h => ⟨h.1, ?_⟩) (hs i x H H' Ka hi e y fun z H4 r e4 => ka z (f i) H4 rfl r e4)
  show if true = true then te a b Ka else Kb b
  exact iteT h.2
theorem mono_name (i : Nat) (x : V) (σ' : L2.St) (H' : Hp) (Q Q' : L2.St → Hp → Prop) (h : ∀ a b, Q a b → Q' a b) (q : gName i x σ' H' Q) : gName i x σ' H' Q' := h _ _ q
theorem mono_tup {K : PySem.W.Frag} {n : Nat} {t : TGs} (ht : ∀ xs σ' H' (Q Q' : L2.St → Hp → Prop), (∀ a b, Q a b → Q' a b) → t xs σ' H' Q → t xs σ' H' Q') (x : V) (σ' : L2.St) (H' : Hp) (Q Q' : L2.St → Hp → Prop) (h : ∀ a b, Q a b → Q' a b)
    (q : gTup K n t x σ' H' Q) : gTup K n t x σ' H' Q' := by
  obtain ⟨a, xs, h1, h2, h3, h4⟩ := q
  exact ⟨a, xs, h1, h2, h3, ht _ _ _ _ _ h h4⟩
theorem mono_cons {t : TG} {u : TGs} (ht : ∀ x σ' H' (Q Q' : L2.St → Hp → Prop), (∀ a b, Q a b → Q' a b) → t x σ' H' Q → t x σ' H' Q') (hu : ∀ xs σ' H' (Q Q' : L2.St → Hp → Prop), (∀ a b, Q a b → Q' a b) → u xs σ' H' Q → u xs σ' H' Q')
    (xs : List V) (σ' : L2.St) (H' : Hp) (Q Q' : L2.St → Hp → Prop) (h : ∀ a b, Q a b → Q' a b) (q : gCons t u xs σ' H' Q) : gCons t u xs σ' H' Q' := by
  obtain ⟨v, r, h1, h2⟩ := q
  exact ⟨v, r, h1, ht _ _ _ _ _ (fun a b z => hu _ _ _ _ _ h z) h2⟩
theorem mono_nil (xs : List V) (σ' : L2.St) (H' : Hp) (Q Q' : L2.St → Hp → Prop) (h : ∀ a b, Q a b → Q' a b) (q : gNil xs σ' H' Q) : gNil xs σ' H' Q' := ⟨q.1, h _ _ q.2⟩
theorem fm_rows {α β : Type} (f : β → Option α) (l : List β) : (List.range l.length).filterMap (fun i => (l[i]?).bind f) = l.filterMap f := by
  have h : ∀ i, i ≤ l.length → (List.range i).filterMap (fun i => (l[i]?).bind f) = (l.take i).filterMap f := by
    intro i
    induction i with
    | zero => intro _; rfl
    | succ i ih =>
      intro hi
      rw [fm_take, ih (by omega), List.take_add_one, List.filterMap_append]
      congr 1
      cases e : l[i]? with
      | none => rfl
      | some y =>
        show (f y).toList = List.filterMap f [y]
        rw [List.filterMap_cons]
        cases f y <;> rfl
  have := h l.length (Nat.le_refl _)
  rw [List.take_length] at this
  exact this
/-- over a list that stands for the rows l -/
theorem lc_fm {E : Hp → Hp → Prop} (gr : Grow E) {K : PySem.W.Frag} {α β : Type} {Rs : Hp → V → β → Prop} {R : Hp → V → α → Prop} (hR : ∀ H H' x y, Tups H H' → R H x y → R H' x y) {a : Addr} {xs : List V} {l : List β} {H0 : Hp} (lr : LR Rs H0 xs l) (f : β → Option α)
    {g : TG} {tt : TT} {te : TE} {vs : List Nat} {σ : L2.St} {H1 : Hp} {D : Addr} {Qd : Hp → Prop} (hn : l.length < sizeLine) (hD : H1 D = none) (hG : ∀ H, E H1 H → SqL K H a xs)
    (hs : ∀ (i : Nat) x y H (Ka : V → Hp → Prop) (Kb : Hp → Prop), l[i]? = some y → Rs H0 x y → E H1 H → (∀ z u H4, f y = some u → R H4 z u → E H H4 → Ka z H4) → (∀ H3, f y = none → E H H3 → Kb H3) →
      g x (wipe σ vs) H fun σ2 H2 => wipe σ2 vs = wipe σ vs ∧ tt σ2 H2 fun b H3 => if b = true then te σ2 H3 Ka else Kb H3)
    (hd : ∀ H acc, E H1 H → H D = some (.lst acc) → LR R H acc (l.filterMap f) → Qd H) :
    ∃ W : Nat → Nat → Hp → Prop, (∃ m, W 0 m (upd H1 D (.lst []))) ∧ ∀ i m H, W i m H →
      ((Itl K a).stop i H ∧ Qd H) ∨ ((Itl K a).go i H ∧ ∃ Nx : Hp → Prop, (∀ H', Nx H' → ∃ m', m' < m ∧ W (i + 1) m' H') ∧ ∀ x H', (Itl K a).yld i H x H' → g x (wipe σ vs) H' fun σ2 H2 => wipe σ2 vs = wipe σ vs ∧ tt σ2 H2 fun b H3 =>
        if b = true then te σ2 H3 fun y H4 => ∃ acc, H4 D = some (.lst acc) ∧ acc.length < sizeLine ∧ Nx (upd H4 D (.lst (acc ++ [y]))) else Nx H3) := by
  refine lc_rows gr hR walk_list (fun i => (l[i]?).bind f) (by rw [lr.1]; exact hn) hD hG (fun i x H H' Ka Kb hi e y ka kb => ?_) (fun H acc e hA lr' => hd H acc e hA ?_)
  · obtain ⟨rfl, ex⟩ := y
    obtain ⟨y, ey, ry⟩ := lr.at ex
    exact hs i x y H' Ka Kb ey ry e (fun z u H4 fu r e4 => ka z u H4 (by rw [ey]; exact fu) r e4) (fun H3 fn e3 => kb H3 (by rw [ey]; exact fn) e3)
  · rw [lr.1, fm_rows] at lr'
    exact lr'
theorem lc_map {E : Hp → Hp → Prop} (gr : Grow E) {K : PySem.W.Frag} {α β : Type} {Rs : Hp → V → β → Prop} {R : Hp → V → α → Prop} (hR : ∀ H H' x y, Tups H H' → R H x y → R H' x y) {a : Addr} {xs : List V} {l : List β} {H0 : Hp} (lr : LR Rs H0 xs l) (f : β → α)
    {g : TG} {te : TE} {vs : List Nat} {σ : L2.St} {H1 : Hp} {D : Addr} {Qd : Hp → Prop} (hn : l.length < sizeLine) (hD : H1 D = none) (hG : ∀ H, E H1 H → SqL K H a xs)
    (hs : ∀ (i : Nat) x y H (Ka : V → Hp → Prop), l[i]? = some y → Rs H0 x y → E H1 H → (∀ z H4, R H4 z (f y) → E H H4 → Ka z H4) → g x (wipe σ vs) H fun σ2 H2 => wipe σ2 vs = wipe σ vs ∧ te σ2 H2 Ka)
    (hd : ∀ H acc, E H1 H → H D = some (.lst acc) → LR R H acc (l.map f) → Qd H) (mono : ∀ x σ' H' (Q Q' : L2.St → Hp → Prop), (∀ a b, Q a b → Q' a b) → g x σ' H' Q → g x σ' H' Q') :
    ∃ W : Nat → Nat → Hp → Prop, (∃ m, W 0 m (upd H1 D (.lst []))) ∧ ∀ i m H, W i m H →
      ((Itl K a).stop i H ∧ Qd H) ∨ ((Itl K a).go i H ∧ ∃ Nx : Hp → Prop, (∀ H', Nx H' → ∃ m', m' < m ∧ W (i + 1) m' H') ∧ ∀ x H', (Itl K a).yld i H x H' → g x (wipe σ vs) H' fun σ2 H2 => wipe σ2 vs = wipe σ vs ∧ tYes σ2 H2 fun b H3 =>
        if b = true then te σ2 H3 fun y H4 => ∃ acc, H4 D = some (.lst acc) ∧ acc.length < sizeLine ∧ Nx (upd H4 D (.lst (acc ++ [y]))) else Nx H3) := by
  refine lc_fm gr hR lr (fun y => some (f y)) hn hD hG (fun i x y H Ka Kb ey ry e ka kb => ?_) (fun H acc e hA lr' => hd H acc e hA (by rw [List.filterMap_eq_map'] at lr'; exact lr'))
  refine mono _ _ _ _ _ (fun a b h => ⟨h.1, ?_⟩) (hs i x y H Ka ey ry e fun z H4 r e4 => ka z (f y) H4 rfl r e4)
  show if true = true then te a b Ka else Kb b
  exact iteT h.2
/-! ### is_sign, is_whole, is_within -/
section
variable {P : Program} {w : World} {K : PySem.W.Frag} {mg : Str → Option Value} {base : Heap}
def sp_is_sign : Sp := fun vs H Q _ => ∃ c : Nat, vs = [.str (sg c)] ∧ Q (.bl (okSign c)) H
theorem cl_is_sign (T : Txt mg) (F : Has K mg "is_sign" s_is_sign) : Cal P w K mg base 1 "is_sign" ["thing"] sp_is_sign := by
  refine cal_mk F s_is_sign_sc (fun _ _ _ _ _ _ us hl => match us, hl with | [_], _ => rfl) (fun vs H Q E h => ?_) (fun f cdv A outer s H vs Q E hr h => ?_)
  · obtain ⟨c, rfl, _⟩ := h
    rfl
  · obtain ⟨c, rfl, q⟩ := h
    obtain ⟨tL, gL⟩ := T.LETTERS
    refine ⟨_, pss_one (ps_ret (pe_and (pe_callB call_isi (by rfl) T.isinstance (by decide +kernel) (pa_cons (pv 0) (pa_cons (pe_bltn (v := .ty "str") (by rfl) T.str (by decide +kernel) rfl) pa_nil)))
      (pe_and (pe_cmpR op_eq (pe_callB call_len_str (by rfl) T.len PySem.boot_len (pa_cons (pv 0) pa_nil)) pe_int (nomark _))
      (pe_one (pe_cmpR op_in_sign (pv 0) (pe_glob (v := .str "abcdefghijklmnopqrstuvwxyz") (by rfl) gL ⟨_, rfl⟩) (by rfl)))))), ?_⟩
    refine ⟨_, rfl, _, _, _, _, true, rfl, .ty "str", .base (.str _), kit_ty (by decide +kernel), true, rfl, iteT ?_⟩
    refine ⟨_, rfl, _, rfl, by show 1 ≤ sizeLine; decide, rfl, true, ?_, iteT ?_⟩
    · rfl
    refine ⟨_, rfl, c, _, rfl, rfl, ?_⟩
    have e : decide (c ∈ (("abcdefghijklmnopqrstuvwxyz" : Str)).cps.toList) = okSign c := by
      unfold okSign
      rw [Bool.eq_iff_iff, Bool.and_eq_true, decide_eq_true_iff, decide_eq_true_iff, decide_eq_true_iff]
      exact letters_mem c
    rw [e]
    exact q
def sp_is_whole : Sp := fun vs H Q _ => ∃ i : Int, vs = [.int i] ∧ Q (.bl true) H
theorem cl_is_whole (T : Txt mg) (F : Has K mg "is_whole" s_is_whole) : Cal P w K mg base 1 "is_whole" ["thing"] sp_is_whole := by
  refine cal_mk F s_is_whole_sc (fun _ _ _ _ _ _ us hl => match us, hl with | [_], _ => rfl) (fun vs H Q E h => ?_) (fun f cdv A outer s H vs Q E hr h => ?_)
  · obtain ⟨c, rfl, _⟩ := h
    rfl
  · obtain ⟨i, rfl, q⟩ := h
    refine ⟨_, pss_one (ps_ret (pe_and (pe_callB call_isi (by rfl) T.isinstance (by decide +kernel) (pa_cons (pv 0) (pa_cons (pe_bltn (v := .ty "int") (by rfl) T.int (by decide +kernel) rfl) pa_nil)))
      (pe_one (pe_not (pe_callB call_isi (by rfl) T.isinstance (by decide +kernel) (pa_cons (pv 0) (pa_cons (pe_bltn (v := .ty "bool") (by rfl) T.bool (by decide +kernel) rfl) pa_nil))))))), ?_⟩
    refine ⟨_, rfl, _, _, _, _, true, rfl, .ty "int", .base (.int _), kit_ty (by decide +kernel), true, rfl, iteT ?_⟩
    exact ⟨_, rfl, _, _, _, _, false, rfl, .ty "bool", .base (.int _), kit_ty (by decide +kernel), false, rfl, q⟩
def sp_is_within : Sp := fun vs H Q _ => ∃ i a b : Int, vs = [.int i, .int a, .int b] ∧ Q (.bl (decide (a ≤ i) && decide (i ≤ b))) H
theorem cl_is_within (T : Txt mg) (F : Has K mg "is_within" s_is_within) (C : Cal P w K mg base 1 "is_whole" ["thing"] sp_is_whole) : Cal P w K mg base 2 "is_within" ["thing", "least", "most"] sp_is_within := by
  refine cal_mk F s_is_within_sc (fun _ _ _ _ _ _ us hl => match us, hl with | [_, _, _], _ => rfl) (fun vs H Q E h => ?_) (fun f cdv A outer s H vs Q E hr h => ?_)
  · obtain ⟨i, a, b, rfl, _⟩ := h
    rfl
  · obtain ⟨i, a, b, rfl, q⟩ := h
    refine ⟨_, pss_one (ps_ret (pe_and (pe_cal C hr (pa_cons (pv 0) pa_nil)) (pe_one (pe_chain op_le op_le (pv 1) (pv 0) (pv 2))))), ?_⟩
    refine ⟨_, rfl, i, rfl, true, rfl, iteT ?_⟩
    refine ⟨_, rfl, _, rfl, a, i, rfl, rfl, _, rfl, ite2 (fun h1 => ?_) (fun h1 => ?_)⟩
    · refine ⟨_, rfl, i, b, rfl, rfl, ?_⟩
      rw [h1] at q
      exact q
    · have h1 : decide (a ≤ i) = false := by
        cases h2 : decide (a ≤ i)
        · rfl
        · exact absurd h2 h1
      rw [h1] at q
      exact q
end
end K44

set_option Elab.async false
set_option linter.all false
set_option maxRecDepth 100000
set_option maxHeartbeats 4000000
namespace K44
open PySem PySem.Spec PyProof.Rows L2
section
variable {P : Program} {w : World} {K : PySem.W.Frag} {mg : Str → Option Value} {base : Heap}
theorem nv_sq {H : Hp} {a : Addr} {ns : List Nat} (h : IntsAt H a ns) : SqL K H a (ns.map nv) := .inl (.inl h)
/-! ### look_at_rooms -/
def sp_look_at_rooms : Sp := fun vs H Q _ => ∃ (many : Nat) (a : Addr) (ns : List Nat) (part : Str), vs = [nv many, .str part, .ref a] ∧ IntsAt H a ns ∧ ns.Pairwise (· < ·) ∧ (∀ r ∈ ns, r < many) ∧ ∀ H', Same H H' → Q .non H'
theorem cl_look_at_rooms (T : Txt mg) (F : Has K mg "look_at_rooms" s_look_at_rooms) (C : Cal P w K mg base 2 "is_within" ["thing", "least", "most"] sp_is_within) : Cal P w K mg base 3 "look_at_rooms" ["many", "part", "thing"] sp_look_at_rooms := by
  refine cal_mk F s_look_at_rooms_sc (fun _ _ _ _ _ _ us hl => match us, hl with | [_, _, _], _ => rfl) (fun vs H Q E h => ?_) (fun f cdv A outer s H vs Q E hr h => ?_)
  · obtain ⟨_, _, _, _, rfl, _⟩ := h
    rfl
  · obtain ⟨many, a, ns, part, rfl, hI, inc, bd, q⟩ := h
    have nd := s_look_at_rooms_sc.nd
    refine ⟨_, pss_cons (ps_if (pt_not (pt_val (pe_callB call_isi (by rfl) T.isinstance (by decide +kernel) (pa_cons (pv 2) (pa_cons (pe_bltn (v := .ty "list") (by rfl) T.list (by decide +kernel) rfl) pa_nil))))) (pss_one ps_never) pss_nil)
      (pss_cons (ps_set (i := 3) nd rfl (.inl rfl) (pe_un un_neg pe_int))
      (pss_one (ps_for PassesOwn.never rfl (pi_enum (by rfl) T.enumerate (pa_cons (pv 2) pa_nil)) (pg_tup rfl (pgs_cons (pg_name (i := 4) nd rfl (.inl rfl)) (pgs_cons (pg_name (i := 5) nd rfl (.inl rfl)) pgs_nil)))
        (pss_cons (ps_if (pt_not (pt_val (pe_cal C hr (pa_cons (pv 5) (pa_cons (pe_op op_add (pv 3) pe_int) (pa_cons (pe_op op_sub (pv 0) pe_int) pa_nil)))))) (pss_one ps_never) pss_nil)
        (pss_one (ps_set (i := 3) nd rfl (.inl rfl) (pv 5))))))), ?_⟩
    refine ⟨_, rfl, _, _, _, _, true, rfl, .ty "list", .base (.lst hI), kit_ty (by decide +kernel), true, rfl, iteF ?_⟩
    refine ⟨1, rfl, ?_⟩
    refine ⟨_, rfl, a, _, rfl, nv_sq hI, for_it walk_enum (fun i σ H' => Same H H' ∧ ∃ (L : Int) (y4 y5 : Option V), σ = [some (nv many), some (.str part), some (.ref a), some (.int L), y4, y5] ∧ ∀ r ∈ ns.drop i, L < (r : Int))
      ⟨Same.refl _, -1, _, _, rfl, fun r _ => by omega⟩ (fun i σ H' _ h => h.1.seq (nv_sq hI)) (fun i x σ H' H2 hi ⟨sm, L, y4, y5, e, lt⟩ y => ?_) (fun σ H' ⟨sm, _⟩ => q H' sm)⟩
    subst e
    obtain ⟨p, x1, x2, rfl, np, rfl, ex1, ex2⟩ := y
    have hi2 : i < ns.length := by
      rw [List.length_map] at hi
      exact hi
    have ex2 : (ns.map nv)[i]? = some x2 := ex2
    rw [List.getElem?_map, List.getElem?_eq_getElem hi2] at ex2
    have e1 : V.int (i : Int) = x1 := Option.some.inj ex1
    have e2 : nv ns[i] = x2 := Option.some.inj ex2
    subst e1 e2
    have hm : ns[i] ∈ ns.drop i := by
      rw [List.drop_eq_getElem_cons hi2]
      exact List.mem_cons_self
    have l1 := lt _ hm
    have l2 := bd _ (List.getElem_mem hi2)
    refine ⟨p, _, rfl, .inl (.inl upd_same), rfl, _, _, rfl, _, _, rfl, rfl, ?_⟩
    refine ⟨_, rfl, .int L, rfl, L, 1, rfl, rfl, nv many, rfl, many, 1, rfl, rfl, (ns[i] : Int), L + 1, (many : Int) - 1, rfl, ?_⟩
    have e : (decide (L + 1 ≤ (ns[i] : Int)) && decide ((ns[i] : Int) ≤ (many : Int) - 1)) = true := by
      rw [Bool.and_eq_true, decide_eq_true_iff, decide_eq_true_iff]
      omega
    rw [e]
    refine ⟨true, rfl, iteF ?_⟩
    refine ⟨_, rfl, same_upd sm (sm.free np), _, _, _, rfl, fun r hr => ?_⟩
    have pw := (List.drop_eq_getElem_cons hi2) ▸ (inc.sublist (List.drop_sublist i ns))
    have := (List.pairwise_cons.mp pw).1 r hr
    show (ns[i] : Int) < (r : Int)
    omega
/-! ### is_step -/
def stepV (t : Nat × Nat × Nat) : List V := [nv t.1, .str (sg t.2.1), nv t.2.2]
def sp_is_step : Sp := fun vs H Q _ => ∃ (many : Nat) (p : Addr) (t : Nat × Nat × Nat), vs = [nv many, .ref p] ∧ H p = some (.tup (stepV t)) ∧ t.1 < many ∧ (97 ≤ t.2.1 ∧ t.2.1 ≤ 122) ∧ t.2.2 < many ∧ Q (.bl true) H
theorem cl_is_step (T : Txt mg) (F : Has K mg "is_step" s_is_step) (C : Cal P w K mg base 2 "is_within" ["thing", "least", "most"] sp_is_within) (CS : Cal P w K mg base 1 "is_sign" ["thing"] sp_is_sign) : Cal P w K mg base 3 "is_step" ["many", "thing"] sp_is_step := by
  refine cal_mk F s_is_step_sc (fun _ _ _ _ _ _ us hl => match us, hl with | [_, _], _ => rfl) (fun vs H Q E h => ?_) (fun f cdv A outer s H vs Q E hr h => ?_)
  · obtain ⟨_, _, _, rfl, _⟩ := h
    rfl
  · obtain ⟨many, p, t, rfl, hp, b1, b2, b3, q⟩ := h
    have w1 : ∀ (n m : Nat), n < m → (decide ((0 : Int) ≤ (n : Int)) && decide ((n : Int) ≤ (m : Int) - 1)) = true := fun n m h => by
      rw [Bool.and_eq_true, decide_eq_true_iff, decide_eq_true_iff]
      omega
    have within : ∀ (i : Int) (at_ : Nat), True := fun _ _ => trivial
    refine ⟨_, pss_cons (ps_if (PW.pt (pw_or (pt_not (pt_val (pe_callB call_isi (by rfl) T.isinstance (by decide +kernel) (pa_cons (pv 1) (pa_cons (pe_bltn (v := .ty "tuple") (by rfl) T.tuple (by decide +kernel) rfl) pa_nil)))))
        (pw_or (pt_cmpR op_ne (pe_callB call_len_seq (by rfl) T.len PySem.boot_len (pa_cons (pv 1) pa_nil)) pe_int (nomark _)) (pw_or1 (pt_not (pt_val (pe_cal (CS.mono (by decide)) hr (pa_cons (pe_ix ix_tup (pv 1) pe_int (fun _ _ => rfl)) pa_nil))))))))
        (pss_one (ps_ret pe_bl)) pss_nil)
      (pss_one (ps_ret (pe_and (pe_cal C hr (pa_cons (pe_ix ix_tup (pv 1) pe_int (fun _ _ => rfl)) (pa_cons pe_int (pa_cons (pe_op op_sub (pv 0) pe_int) pa_nil))))
        (pe_one (pe_cal C hr (pa_cons (pe_ix ix_tup (pv 1) pe_int (fun _ _ => rfl)) (pa_cons pe_int (pa_cons (pe_op op_sub (pv 0) pe_int) pa_nil)))))))), ?_⟩
    have hq : SqT K H p (stepV t) := .inl (.inl hp)
    refine ⟨_, rfl, _, _, _, _, true, rfl, .ty "tuple", .base (.tup hp), kit_ty (by decide +kernel), true, rfl, iteF ?_⟩
    refine ⟨_, rfl, p, _, rfl, .inr hq, rfl, false, ?_, iteF ?_⟩
    · rfl
    refine ⟨_, rfl, p, _, 1, .str (sg t.2.1), rfl, rfl, hq, atI_nat (j := 1) rfl, t.2.1, rfl, ?_⟩
    have e : okSign t.2.1 = true := by
      unfold okSign
      rw [Bool.and_eq_true, decide_eq_true_iff, decide_eq_true_iff]
      exact b2
    rw [e]
    refine ⟨true, rfl, iteF ?_⟩
    refine ⟨_, rfl, p, _, 0, nv t.1, rfl, rfl, hq, atI_nat (j := 0) rfl, nv many, rfl, many, 1, rfl, rfl, t.1, 0, (many : Int) - 1, rfl, ?_⟩
    rw [w1 _ _ b1]
    refine ⟨true, rfl, iteT ?_⟩
    refine ⟨_, rfl, p, _, 2, nv t.2.2, rfl, rfl, hq, atI_nat (j := 2) rfl, nv many, rfl, many, 1, rfl, rfl, t.2.2, 0, (many : Int) - 1, rfl, ?_⟩
    rw [w1 _ _ b3]
    exact q
/-! ### look_at_steps -/
def stepK (t : Nat × Nat × Nat) : List Key := [.inl (t.1 : Int), .inr (sg t.2.1), .inl (t.2.2 : Int)]
theorem stepK_V (t : Nat × Nat × Nat) : (stepK t).map kV = stepV t := rfl
theorem stepK_inj {t u : Nat × Nat × Nat} (h : stepK t = stepK u) : t = u := by
  unfold stepK at h
  injection h with h1 h2
  injection h2 with h2 h3
  injection h3 with h3 _
  injection h1 with h1
  injection h2 with h2
  injection h3 with h3
  unfold sg at h2
  injection h2 with h2
  have h2 : [t.2.1] = [u.2.1] := by
    have := congrArg Array.toList h2
    exact this
  injection h2 with h2 _
  exact Prod.ext (by omega) (Prod.ext h2 (by omega))
theorem valV_mapK {α : Type} (k : α → List Key) (inj : ∀ a b, k a = k b → a = b) (v : V) (x : α) : ∀ l : List α, x ∉ l → valV (l.map fun a => (k a, v)) (k x) = none
  | [], _ => rfl
  | a :: l, h => by
    rw [List.map_cons, valV_neg fun e => h (by rw [inj _ _ e]; exact List.mem_cons_self)]
    exact valV_mapK k inj v x l fun z => h (List.mem_cons_of_mem _ z)
def sp_look_at_steps : Sp := fun vs H Q _ => ∃ (many : Nat) (a : Addr) (l : List (Nat × Nat × Nat)), vs = [nv many, .ref a] ∧ StepsAt H a l ∧ l.Nodup ∧ l.length ≤ 200 ∧ (∀ t ∈ l, t.1 < many ∧ (97 ≤ t.2.1 ∧ t.2.1 ≤ 122) ∧ t.2.2 < many) ∧ ∀ H', Same H H' → Q .non H'
theorem cl_look_at_steps (T : Txt mg) (F : Has K mg "look_at_steps" s_look_at_steps) (C : Cal P w K mg base 3 "is_step" ["many", "thing"] sp_is_step) : Cal P w K mg base 4 "look_at_steps" ["many", "thing"] sp_look_at_steps := by
  refine cal_mk F s_look_at_steps_sc (fun _ _ _ _ _ _ us hl => match us, hl with | [_, _], _ => rfl) (fun vs H Q E h => ?_) (fun f cdv A outer s H vs Q E hr h => ?_)
  · obtain ⟨_, _, _, rfl, _⟩ := h
    rfl
  · obtain ⟨many, a, l, rfl, hS, ndl, len, bd, q⟩ := h
    have nd := s_look_at_steps_sc.nd
    obtain ⟨tM, gM⟩ := T.MOST_STEPS
    have hu := hu_of hr
    obtain ⟨xs, hx, lr⟩ := hS
    refine ⟨_, pss_cons (ps_if (PW.pt (pw_or (pt_not (pt_val (pe_callB call_isi (by rfl) T.isinstance (by decide +kernel) (pa_cons (pv 1) (pa_cons (pe_bltn (v := .ty "list") (by rfl) T.list (by decide +kernel) rfl) pa_nil)))))
        (pw_or1 (pt_cmpR op_gt (pe_callB call_len_seq (by rfl) T.len PySem.boot_len (pa_cons (pv 1) pa_nil)) (pe_glob (v := .int 200) (by rfl) gM ⟨_, rfl⟩) (nomark _))))) (pss_one ps_never) pss_nil)
      (pss_cons (ps_set (i := 2) nd rfl (.inl rfl) pe_dnewT)
      (pss_one (ps_for PassesOwn.never rfl (pi_enum (by rfl) T.enumerate (pa_cons (pv 1) pa_nil)) (pg_tup rfl (pgs_cons (pg_name (i := 3) nd rfl (.inl rfl)) (pgs_cons (pg_name (i := 4) nd rfl (.inl rfl)) pgs_nil)))
        (pss_cons (ps_if (PW.pt (pw_or (pt_not (pt_val (pe_cal C hr (pa_cons (pv 0) (pa_cons (pv 4) pa_nil))))) (pw_or1 (pt_cmp (pc_din hu (pv 4) (pv 2)))))) (pss_one ps_never) pss_nil)
        (pss_one (ps_dput hu (pv 2) (pv 4) pe_bl rfl)))))), ?_⟩
    have lxs : xs.length ≤ 200 := by
      rw [lr.1]
      exact len
    refine ⟨_, rfl, _, _, _, _, true, rfl, .ty "list", .base (.lst hx), kit_ty (by decide +kernel), true, rfl, iteF ?_⟩
    refine ⟨_, rfl, a, _, rfl, .inl (.inl (.inl hx)), _, _, rfl, rfl, false, ?_, iteF ?_⟩
    · have e : decide ((200 : Int) < (xs.length : Int)) = false := decide_eq_false (by omega)
      exact congrArg V.bl e
    intro d hd
    have sd : Same H (upd H d (.dT [])) := same_new hd
    refine ⟨_, rfl, a, xs, rfl, .inl (.inl (sd _ _ hx)), for_it walk_enum (fun i σ H' => Same H H' ∧ H' d = some (.dT ((l.take i).map fun t => (stepK t, .bl true))) ∧ ∃ y3 y4, σ = [some (nv many), some (.ref a), some (.ref d), y3, y4])
      ⟨sd, upd_same, _, _, rfl⟩ (fun i σ H' _ h => .inl (.inl (h.1 _ _ hx))) (fun i x σ H' H2 hi ⟨sm, hD, y3, y4, e⟩ y => ?_) (fun σ H' ⟨sm, _⟩ => q H' sm)⟩
    subst e
    obtain ⟨p, x1, x2, rfl, np, rfl, ex1, ex2⟩ := y
    obtain ⟨t, et, c, rfl, hc⟩ := lr.at ex2
    have hc1 := sm _ _ hc
    have hc2 : (upd H' p (.tup [x1, .ref c])) c = some (.tup (stepV t)) := by
      rw [upd_ne (ne_of_none hc1 np)]
      exact hc1
    have hD2 : (upd H' p (.tup [x1, .ref c])) d = some (.dT ((l.take i).map fun t => (stepK t, .bl true))) := by
      rw [upd_ne (ne_of_none hD np)]
      exact hD
    have b := bd t (List.mem_of_getElem? et)
    have nin : t ∉ l.take i := fun z => by
      obtain ⟨j, hj, ej⟩ := List.mem_take_iff_getElem.mp z
      obtain ⟨h1, h2⟩ := List.getElem?_eq_some_iff.mp et
      have := (List.getElem_inj ndl).mp (ej.trans h2.symm)
      omega
    have none := valV_mapK stepK (fun _ _ => stepK_inj) (.bl true) t (l.take i) nin
    refine ⟨p, _, rfl, .inl (.inl upd_same), rfl, _, _, rfl, _, _, rfl, rfl, ?_⟩
    refine ⟨_, rfl, _, rfl, many, c, t, rfl, hc2, b.1, b.2.1, b.2.2, true, rfl, iteF ?_⟩
    refine ⟨_, rfl, _, rfl, d, _, rfl, DGet.t (k := stepK t) hD2 hc2, ?_⟩
    rw [none]
    refine ⟨false, rfl, iteF ?_⟩
    refine ⟨_, rfl, _, rfl, d, _, rfl, DPut.t (k := stepK t) hD2 hc2 ?_, ?_⟩
    · rw [List.length_map]
      exact Nat.lt_of_le_of_lt (List.length_take_le' _ _) (small1000 (by omega))
    · refine ⟨same_upd (same_upd sm (sm.free np)) hd, ?_, _, _, rfl⟩
      rw [upd_same, putK_new _ none, List.take_add_one, et]
      show some (HO.dT _) = some (HO.dT (((l.take i ++ [t])).map _))
      rw [List.map_append]
      rfl
/-! ### look_at, look_at_room -/
def sp_look_at : Sp := fun vs H Q _ => ∃ (v : V) (m : Mach) (t fa la sa : Addr), vs = [v] ∧ MacAt H v m t fa la sa ∧ MOk m ∧ ∀ H', Same H H' → Q .non H'
theorem cl_look_at (T : Txt mg) (F : Has K mg "look_at" s_look_at) (C : Cal P w K mg base 2 "is_within" ["thing", "least", "most"] sp_is_within) (CR : Cal P w K mg base 3 "look_at_rooms" ["many", "part", "thing"] sp_look_at_rooms)
    (CS : Cal P w K mg base 4 "look_at_steps" ["many", "thing"] sp_look_at_steps) : Cal P w K mg base 5 "look_at" ["thing"] sp_look_at := by
  refine cal_mk F s_look_at_sc (fun _ _ _ _ _ _ us hl => match us, hl with | [_], _ => rfl) (fun vs H Q E h => ?_) (fun f cdv A outer s H vs Q E hr h => ?_)
  · obtain ⟨_, _, _, _, _, _, rfl, _⟩ := h
    rfl
  · obtain ⟨v, m, t, fa, la, sa, rfl, M, ok, q⟩ := h
    have nd := s_look_at_sc.nd
    obtain ⟨tM, gM⟩ := T.MOST_ROOMS
    have ev := M.v
    subst ev
    have hq : ∀ H', Same H H' → SqT K H' t [nv m.many, .ref fa, .ref la, .ref sa] := fun H' e => .inl (.inl (e _ _ M.t))
    refine ⟨_, pss_cons (ps_if (PW.pt (pw_or (pt_not (pt_val (pe_callB call_isi (by rfl) T.isinstance (by decide +kernel) (pa_cons (pv 0) (pa_cons (pe_bltn (v := .ty "tuple") (by rfl) T.tuple (by decide +kernel) rfl) pa_nil)))))
        (pw_or1 (pt_cmpR op_ne (pe_callB call_len_seq (by rfl) T.len PySem.boot_len (pa_cons (pv 0) pa_nil)) pe_int (nomark _))))) (pss_one ps_never) pss_nil)
      (pss_cons (ps_asg (pv 0) (pg_tup rfl (pgs_cons (pg_name (i := 1) nd rfl (.inl rfl)) (pgs_cons (pg_name (i := 2) nd rfl (.inl rfl)) (pgs_cons (pg_name (i := 3) nd rfl (.inl rfl)) (pgs_cons (pg_name (i := 4) nd rfl (.inl rfl)) pgs_nil))))))
      (pss_cons (ps_if (pt_not (pt_val (pe_cal (C.mono (by decide)) hr (pa_cons (pv 1) (pa_cons pe_int (pa_cons (pe_glob (v := .int 12) (by rfl) gM ⟨_, rfl⟩) pa_nil)))))) (pss_one ps_never) pss_nil)
      (pss_cons (ps_expr (pe_cal (CR.mono (by decide)) hr (pa_cons (pv 1) (pa_cons pe_str (pa_cons (pv 2) pa_nil)))))
      (pss_cons (ps_expr (pe_cal (CR.mono (by decide)) hr (pa_cons (pv 1) (pa_cons pe_str (pa_cons (pv 3) pa_nil)))))
      (pss_one (ps_expr (pe_cal CS hr (pa_cons (pv 1) (pa_cons (pv 4) pa_nil))))))))), ?_⟩
    refine ⟨_, rfl, _, _, _, _, true, rfl, .ty "tuple", .base (.tup M.t), kit_ty (by decide +kernel), true, rfl, iteF ?_⟩
    refine ⟨_, rfl, t, _, rfl, .inr (hq H (Same.refl H)), rfl, false, ?_, iteF ?_⟩
    · rfl
    refine ⟨_, rfl, t, _, rfl, hq H (Same.refl H), rfl, _, _, rfl, _, _, rfl, _, _, rfl, _, _, rfl, rfl, ?_⟩
    refine ⟨_, rfl, m.many, 1, 12, rfl, ?_⟩
    have e : (decide ((1 : Int) ≤ (m.many : Int)) && decide ((m.many : Int) ≤ 12)) = true := by
      have := ok.pos
      have := ok.top
      rw [Bool.and_eq_true, decide_eq_true_iff, decide_eq_true_iff]
      omega
    rw [e]
    refine ⟨true, rfl, iteF ?_⟩
    refine ⟨_, rfl, _, rfl, m.many, fa, m.firsts, _, rfl, M.fa, ok.fi, ok.fb, fun H1 s1 => ?_⟩
    refine ⟨_, rfl, _, rfl, m.many, la, m.lasts, _, rfl, s1 _ _ M.la, ok.li, ok.lb, fun H2 s2 => ?_⟩
    refine ⟨_, rfl, _, rfl, m.many, sa, m.steps, rfl, M.sa.mono (s1.trans s2), ok.sn, ok.sl, ok.sb, fun H3 s3 => ?_⟩
    exact q H3 (s1.trans (s2.trans s3))
def sp_look_at_room : Sp := fun vs H Q _ => ∃ (v : V) (m : Mach) (t fa la sa : Addr) (r : Nat), vs = [v, nv r] ∧ MacAt H v m t fa la sa ∧ r < m.many ∧ Q .non H
theorem cl_look_at_room (F : Has K mg "look_at_room" s_look_at_room) (C : Cal P w K mg base 2 "is_within" ["thing", "least", "most"] sp_is_within) : Cal P w K mg base 3 "look_at_room" ["machine", "room"] sp_look_at_room := by
  refine cal_mk F s_look_at_room_sc (fun _ _ _ _ _ _ us hl => match us, hl with | [_, _], _ => rfl) (fun vs H Q E h => ?_) (fun f cdv A outer s H vs Q E hr h => ?_)
  · obtain ⟨_, _, _, _, _, _, _, rfl, _⟩ := h
    rfl
  · obtain ⟨v, m, t, fa, la, sa, r, rfl, M, hr1, q⟩ := h
    have ev := M.v
    subst ev
    refine ⟨_, pss_one (ps_if (pt_not (pt_val (pe_cal C hr (pa_cons (pv 1) (pa_cons pe_int (pa_cons (pe_op op_sub (pe_ix ix_tup (pv 0) pe_int (fun _ _ => rfl)) pe_int) pa_nil)))))) (pss_one ps_never) pss_nil), ?_⟩
    refine ⟨_, rfl, _, rfl, t, _, 0, nv m.many, rfl, rfl, .inl (.inl M.t), atI_nat (j := 0) rfl, m.many, 1, rfl, rfl, r, 0, (m.many : Int) - 1, rfl, ?_⟩
    have e : (decide ((0 : Int) ≤ (r : Int)) && decide ((r : Int) ≤ (m.many : Int) - 1)) = true := by
      rw [Bool.and_eq_true, decide_eq_true_iff, decide_eq_true_iff]
      omega
    rw [e]
    exact ⟨true, rfl, iteF q⟩
end
end K44

set_option Elab.async false
set_option linter.all false
set_option maxRecDepth 100000
set_option maxHeartbeats 4000000
namespace K44
open PySem PySem.Spec PyProof.Rows L2
/-! ### for at, sign in enumerate(a text) -/
/-- the i-th sign in a new pair -/
def ItS (x : Str) : It := ⟨fun i _ => i < x.cps.size, fun i H v H' => ∃ (T : Addr) (c : Nat), v = .ref T ∧ H T = none ∧ x.cps[i]? = some c ∧ H' = upd H T (.tup [nv i, .str (sg c)]), fun i _ => i = x.cps.size⟩
theorem draws_of {prog : Program} {w : World} {A : Around} (hh : A.handled = none) (it : Addr) (x : Str) (t : Tok) :
    Draws prog w A it [it] x.cps.size (fun i v => ∃ c u, x.cps[i]? = some c ∧ v = .str ⟨#[c]⟩ u) (fun i h => h.IsStrIter it (strIterType x) x t i) := by
  unfold strIterType
  split
  · exact Draws.strAscii hh it x t
  · exact Draws.strWide hh it x t
theorem turn_enumS {P : Program} {w : World} {K : PySem.W.Frag} {elts : List Expr} {kk : Nat} {tpos : Pos} (x : Str) (t : Tok) (e it : Addr) :
    Turn P w K (.Tuple elts kk tpos) (ItS x) [e, it] e (fun i h => (∃ old, IsEnum h e it ((i : Nat) : Int) old) ∧ h.IsStrIter it (strIterType x) x t i ∧ e ≠ it) where
  mem := List.mem_cons_self
  obj := fun i h st b hb => by
    obtain ⟨⟨old, he⟩, ⟨o, ho, _, hd⟩, _⟩ := st
    rcases List.mem_cons.mp hb with z | z
    · subst z
      exact ⟨_, he, fun v q => nomatch q⟩
    · rw [List.mem_singleton.mp z]
      exact ⟨o, ho, fun v q => by rw [hd] at q; cases q⟩
  keep := fun i h h' st k => by
    obtain ⟨⟨old, he⟩, ⟨o, ho, r⟩, hne⟩ := st
    exact ⟨⟨old, k e List.mem_cons_self _ he⟩, ⟨o, k it (List.mem_cons_of_mem _ List.mem_cons_self) o ho, r⟩, hne⟩
  item := by
    intro X hP hw hK hc i pins s σ H E I hf st hg
    subst hP hw hK
    obtain ⟨⟨old, he⟩, hit, hne⟩ := st
    have le : e < s.heap.objs.size := Heap.lt_size he
    have li : it < s.heap.objs.size := let ⟨_, q, _⟩ := hit; Heap.lt_size q
    refine wpAny_pyNext_enum_itemD (draws_of (A := X.A.in1) (I.ok.hd hc) it x t) he hit hg hne (fun z => hne (List.mem_singleton.mp z)) fun y h' tk hy ho hit' hT hsz hk => ?_
    obtain ⟨c, u, hc1, rfl⟩ := hy
    refine ⟨_, rfl, wpAny_letOwnedTupleGo_enum (s := { s with heap := h', toks := tk + 1 }) ho fun h2 he' sb => ?_⟩
    have hT2 := (sb.2 _ (Nat.ne_of_gt le)).trans hT
    have new : ObjOk X.prog X.w (upd H s.heap.objs.size (.tup [nv i, .str (sg c)])) h2 s.heap.objs.size (.tup [nv i, .str (sg c)]) :=
      ⟨by show 2 ≤ sizeLine; decide, [.int i tk, .str ⟨#[c]⟩ u], .cons ⟨_, rfl⟩ (.cons ⟨_, rfl⟩ .nil), ⟨_, hT2, rfl, _, rfl⟩⟩
    have I1 := I.turnedNew (t' := tk + 1) (ch := [e, it]) (fun b ob hb q => (sb.2 b fun z => hb (by rw [z]; exact List.mem_cons_self)).trans (hk b ob (fun z => hb (by rw [z]; exact List.mem_cons_self)) (fun z => hb (by rw [z]; exact List.mem_cons_of_mem _ List.mem_cons_self)) q)) hf (Nat.le_refl _) new
    obtain ⟨oi, hoi, ri⟩ := hit'
    refine ⟨.ref s.heap.objs.size, _, I1, rfl, ⟨_, c, rfl, I.hok.fresh (Nat.le_refl _), hc1, rfl⟩, ⟨⟨.str ⟨#[c]⟩ u, ?_⟩, ⟨oi, (sb.2 it (Ne.symm hne)).trans hoi, ri⟩, hne⟩, fun b hb => ?_⟩
    · exact he'
    · have lb : b < s.heap.objs.size := by
        rcases List.mem_cons.mp hb with z | z
        · rw [z]
          exact le
        · rw [List.mem_singleton.mp z]
          exact li
      rw [upd_ne (Nat.ne_of_lt lb)]
      exact (hf b hb).1
  done := by
    intro X hP hw hK hc i pins s σ H E I hf st hg
    subst hP hw hK
    obtain ⟨⟨old, he⟩, hit, hne⟩ := st
    have hg : i = x.cps.size := hg
    obtain ⟨f0, f1, f2, f3, f4, f5⟩ := hf it (List.mem_cons_of_mem _ List.mem_cons_self)
    refine wpAny_pyNext_enum_endD (draws_of (A := X.A.in1) (I.ok.hd hc) it x t) he (by rw [← hg]; exact hit) fun h' eb => ⟨rfl, I.turned (t' := s.toks) (fun b o hb q => eb b o hb q) f0 f1 f3 f4 f5⟩
  self := fun A i s Q E st h => let ⟨⟨_, he⟩, _⟩ := st; wpAny_pyIter_enum he h
def iEnumS (ta : TA) : TI := fun σ H R => ta σ H fun vs H1 => ∃ x : Str, vs = [.str x] ∧ R (ItS x) H1
theorem pi_enumS {X : Cx} {e : Expr} {ta : TA} {p pos tpos : Pos} {elts : List Expr} {kk : Nat} (hm : X.mg "enumerate" = none) (ha : PA X [e] ta) (hg : Gl X "enumerate" := by rfl) (hs : starEach [e] X.env = [(false, eval e X.env)] := by rfl) :
    PI X (.Tuple elts kk tpos) (.Call (.Name "enumerate" p) [e] [] pos) (iEnumS ta) := by
  refine ⟨fun pins s σ H R I h => ?_⟩
  refine Call_ (ld_blt I hg hm boot_enumerate (PyProof.Rows.callWith_type1 (thn (ha.run pos pins s σ H _ I h) fun us s1 ⟨vs, H1, I1, r1, x, ex, q⟩ => ?_) hs rfl))
  subst ex
  obtain ⟨u, rfl, ru⟩ := vals1 r1
  obtain ⟨t, rfl⟩ := ru
  refine call_enumerate_str fun h' he hit hsz hk => wpAny_pyIter_enum he ?_
  have I2 : Inv X pins σ H1 { s1 with heap := h' } := I1.kept (t' := s1.toks) hk
  refine ⟨_, [s1.heap.objs.size + 1, s1.heap.objs.size], _, _, H1, rfl, I2, turn_enumS x t (s1.heap.objs.size + 1) s1.heap.objs.size, ⟨⟨.none, he⟩, hit, Nat.succ_ne_self _⟩, fun b hb => ?_, q⟩
  have hle : s1.heap.objs.size ≤ b := by
    rcases List.mem_cons.mp hb with z | z
    · rw [z]
      exact Nat.le_succ _
    · rw [List.mem_singleton.mp z]
      exact Nat.le_refl _
  exact I1.fpOk hle (I1.hok.fresh hle)
theorem walk_enumS {x : Str} : Walk (ItS x) x.cps.size (fun _ => True) (fun i H v H' => ∃ (T : Addr) (c : Nat), v = .ref T ∧ H T = none ∧ x.cps[i]? = some c ∧ H' = upd H T (.tup [nv i, .str (sg c)])) :=
  ⟨fun _ _ hi _ => hi, fun _ _ => rfl, fun _ _ _ _ _ _ y => y⟩
end K44

set_option Elab.async false
set_option linter.all false
set_option maxRecDepth 100000
set_option maxHeartbeats 4000000
namespace K44
open PySem PySem.Spec PyProof.Rows L2
/-! ### sum(xs, start=0) -/
section
variable {prog : Program} {w : World} {A : Around} {E : Value → Shared → Prop} {s : Shared}
theorem args_sum_kw (a b : Value) : argsOk "sum" ⟨[a], [("start", b)]⟩ := by unfold argsOk; kernel_rfl
/-- a built-in that goes on as another code, called with keywords -/
theorem tree_kw {id : String} {b : Builtin} {args : List Value} {kw : List (Str × Value)} {Q : Value → Shared → Prop} (hk : builtinKind id = none) (hp : plainId id = true) (hb : entryFor table id = some b) (ha : argsOk id ⟨args, kw⟩)
    (hc : wpAny (model prog w) A.in1 (b ⟨args, kw⟩) (fun fin s' => ∃ c, fin = .again c ∧ c.quiet = true ∧ codeAny (model prog w) A c (fun r s' => match r with | .ok (.ret v) => Q v s' | .ok _ => False | .error e => E e s') s') E s) :
    wpAny (model prog w) A (call (.builtin id) args kw) Q E s := by
  have hc2 := wpAny_mono hc (Q' := fun fin s' => match fin with
      | .done f => (match (Except.ok f : Result) with | .ok (.ret v) => Q v s' | .ok _ => False | .error e => E e s')
      | .again c' => c'.quiet = true ∧ codeAny (model prog w) A c' (fun r s' => match r with | .ok (.ret v) => Q v s' | .ok _ => False | .error e => E e s') s')
    (fun fin s' h' => by obtain ⟨c, rfl, q⟩ := h'; exact q) fun _ _ h' => h'
  refine wpAny_call (codeAny_call_builtin hp hb ?_)
  simp only [checkBuiltinCall, hk]
  cases hsig : Manifest.signature? id with
  | none => exact wpAny_pure hc2
  | some sig =>
    simp only [argsOk, hsig] at ha
    show wpAny _ A.in1 (Bind.checkArgs id sig ⟨args, kw⟩) _ _ s
    rw [show Bind.checkArgs id sig ⟨args, kw⟩ = pure () from ha]
    exact wpAny_pure hc2
theorem sum_start {l : Addr} {xs : Array (Int × Tok)} {t0 : Tok} {Q : Value → Shared → Prop} (hh : A.handled = none) (hl : s.heap.IsList l (intItems xs))
    (h : ∀ h' tk t', (∀ b o, s.heap.get? b = some o → h'.get? b = some o) → Q (.int (preSum (numAt xs) xs.size) t') { s with heap := h', toks := tk }) :
    wpAny (model prog w) A (call (.builtin "sum") [.ref l] [("start", .int 0 t0)]) Q E s := by
  refine tree_kw F.kind_sum F.plain_sum F.entry_sum (args_sum_kw _ _) ?_
  unfold Builtin.«sum»
  simp only [List.length_cons, List.length_nil]
  rw [if_neg (by decide)]
  refine wpAny_bind (wpAny_of_eq (show Builtin.Builtins.bindParams "sum" ["start"] 0 ⟨[], [("start", .int 0 t0)]⟩ = pure [some (.int 0 t0)] from rfl) ?_)
  refine wpAny_bind (iter_intList hl fun s₂ e st hfp hlI => ?_)
  subst e
  have W := (Walks.list (prog := prog) (w := w) (A := A.in1) hh s.heap.objs.size l hlI (intItems xs)).toS
  refine wpAny_bind ?_
  refine wpAny_rule (wpAny_bind (wpAny_mkInt (wpAny_bind (wpAny_pure ?_))))
  simp only [List.forIn_cons, List.forIn_nil]
  refine wpAny_bind (wpAny_bind (wpAny_bind (wpAny_isInstance (T := "int") (b := false) (typeIs_int _ _ _) PySem.sub_int_str ?_)))
  simp only [Bool.false_eq_true, if_false]
  refine wpAny_pure (wpAny_bind (wpAny_bind (wpAny_isInstance (T := "int") (b := false) (typeIs_int _ _ _) PySem.sub_int_bytes ?_)))
  simp only [Bool.false_eq_true, if_false]
  refine wpAny_pure (wpAny_bind (wpAny_bind (wpAny_isInstance (T := "int") (b := false) (typeIs_int _ _ _) PySem.sub_int_bytearray ?_)))
  simp only [Bool.false_eq_true, if_false]
  refine wpAny_pure (wpAny_pure (wpAny_bind (wpAny_newObj_type ?_)))
  refine wpAny_pure ⟨_, rfl, plainId_quiet F.plain_sum_loop _, codeAny_sum_loopAnyS W (numAt xs) (fun i v hv => intItems_at hv) _ (fun hm => Nat.lt_irrefl _ (hfp _ hm)) _ 0 _ s.toks 0 0 (.inl rfl) rfl (Nat.zero_le _)
    (W.frame 0 _ _ _ st (by first | exact Nat.le_refl _ | exact Nat.le_succ _ | omega) fun b _ o e => Heap.get?_push_of_some _ e) (Heap.get?_push_size _ rfl) fun s' t' hm => ?_⟩
  obtain ⟨h', g', d', tk', os'⟩ := s'
  have eg : g' = s.gens := hm.gens
  have ed : d' = s.drawn := hm.drawn
  have eo : os' = s.os := hm.os
  subst eg
  subst ed
  subst eo
  have e : (intItems xs).size = xs.size := by simp [intItems]
  rw [e]
  refine h h' tk' t' fun b o e => ?_
  have hlt := Heap.lt_size e
  refine hm.heap b o (fun z => ?_) (Heap.get?_push_of_some _ (Heap.get?_push_of_some _ e))
  rcases List.mem_cons.mp z with z | z
  · have e2 : b = s.heap.objs.size + 1 := z.trans (Heap.size_push ..)
    rw [e2] at hlt
    exact Nat.lt_irrefl _ (Nat.lt_of_succ_lt hlt)
  · have e2 : b = s.heap.objs.size := List.mem_singleton.mp z
    rw [e2] at hlt
    exact Nat.lt_irrefl _ hlt
end
def rSum0 (K : PySem.W.Frag) : List V → List V → Hp → VK → Prop := fun xs zs H Q => ∃ (a : Addr) (ns : List Int), xs = [.ref a] ∧ zs = [.int 0] ∧ SqL K H a (ns.map V.int) ∧ Q (.int ns.sum) H
theorem cr_sum0 {X : Cx} (hc : X.calm = true) : CallRK X (.builtin "sum") ["start"] (rSum0 X.K) := by
  intro pins s σ H xs zs us ws Q I r1 r2 h
  obtain ⟨a, ns, rfl, rfl, hs, q⟩ := h
  obtain ⟨u, rfl, ru⟩ := vals1 r2
  obtain ⟨t, rfl⟩ := ru
  obtain ⟨its, rv, hl, _⟩ := I.list hs
  rw [Vals.ref1 r1]
  have hi := rv.ints
  obtain ⟨ys, e⟩ := hi.allInts.items
  have hn : numsOf (intItems ys).toList = ns := by rw [← e]; exact hi.numsOf
  rw [nums_intItems] at hn
  have hl2 : s.heap.IsList a (intItems ys) := by rw [← e]; exact hl.isList
  show wpAny _ _ (call _ _ [("start", Value.int 0 t)]) _ _ _
  refine sum_start (I.ok.hd hc) hl2 fun h' tk t' hk => ⟨.int ns.sum, H, I.kept hk, ⟨t', ?_⟩, q⟩
  rw [preSum_eq, List.take_of_length_le (by simp), hn]
end K44

set_option Elab.async false
set_option linter.all false
set_option maxRecDepth 100000
set_option maxHeartbeats 4000000
namespace K44
open PySem PySem.Spec PyProof.Rows L2
/-! ### words as texts -/
def txt (w : List Nat) : Str := ⟨w.toArray⟩
theorem txt_at (w : List Nat) (i : Nat) : (txt w).cps[i]? = w[i]? := by
  unfold txt
  simp
theorem txt_len (w : List Nat) : (txt w).length = w.length := by
  unfold txt Str.length
  simp
theorem txt_size (w : List Nat) : (txt w).cps.size = w.length := txt_len w
/-! ### xs[i], by values -/
theorem get_list {X : Cx} : PGet X (fun x y H Q => ∃ (p : Addr) (xs : List V) (i : Nat) (v : V), x = .ref p ∧ y = .int (i : Int) ∧ SqL X.K H p xs ∧ xs[i]? = some v ∧ Q v H) := by
  intro pins s σ H o i ov iv Q I ro ri h
  obtain ⟨p, xs, j, v, rfl, rfl, hs, hv, q⟩ := h
  cases ro
  obtain ⟨t, rfl⟩ := ri
  obtain ⟨its, r, pl, hz⟩ := I.list hs
  obtain ⟨u, hu, ru⟩ := r.get hv
  have hj := (List.getElem?_eq_some_iff.mp hu).1
  have hl := r.length
  have hn := line63
  exact wpAny_getItem_list pl.isList (by omega) (by omega) (by simpa using hu) ⟨v, H, I, ru, q⟩
theorem inV_nv (j : Nat) : ∀ ns : List Nat, inV (nv j) (ns.map nv) = decide (j ∈ ns)
  | [] => rfl
  | n :: ns => by
    have ih := inV_nv j ns
    unfold inV at *
    rw [List.map_cons, List.any_cons, ih]
    show (((n : Int) == (j : Int)) || _) = _
    by_cases e : j = n
    · subst e
      simp
    · have e1 : ((n : Int) == (j : Int)) = false := beq_eq_false_iff_ne.mpr (by omega)
      rw [e1, Bool.false_or]
      simp [e]
theorem flat_nv (ns : List Nat) : (ns.map nv).all flatV = true := by
  rw [List.all_map, List.all_eq_true]
  intro x _
  rfl
/-- a vector -/
def vecV (n : Nat) (v : Nat → Int) : List V := (List.range n).map fun j => .int (v j)
theorem vec_at {n : Nat} {v : Nat → Int} {j : Nat} (h : j < n) : (vecV n v)[j]? = some (.int (v j)) := by
  unfold vecV
  rw [List.getElem?_map, List.getElem?_range h]
  rfl
theorem vec_len (n : Nat) (v : Nat → Int) : (vecV n v).length = n := by
  unfold vecV
  rw [List.length_map, List.length_range]
theorem vec_ext {n : Nat} {v v' : Nat → Int} (h : ∀ j, j < n → v j = v' j) : vecV n v = vecV n v' := by
  unfold vecV
  refine List.map_congr_left fun j hj => ?_
  rw [h j (List.mem_range.mp hj)]
theorem vec_set {n : Nat} {v : Nat → Int} {k : Nat} (x : Int) (hk : k < n) : (vecV n v).set k (.int x) = vecV n fun j => if j = k then x else v j := by
  apply List.ext_getElem?
  intro i
  by_cases hi : i < n
  · rw [vec_at hi, List.getElem?_set]
    by_cases e : k = i
    · subst e
      rw [if_pos rfl, if_pos (by rw [vec_len]; exact hi), if_pos rfl]
    · rw [if_neg e, vec_at hi, if_neg (Ne.symm e)]
  · rw [List.getElem?_eq_none (by rw [List.length_set, vec_len]; omega), List.getElem?_eq_none (by rw [vec_len]; omega)]
theorem mv_take {steps : List (Nat × Nat × Nat)} {i : Nat} {t : Nat × Nat × Nat} (h : steps[i]? = some t) (s : Nat) (v : Nat → Int) (j : Nat) :
    mvF (steps.take (i + 1)) s v j = mvF (steps.take i) s v j + (if t.2.1 = s ∧ t.2.2 = j then v t.1 else 0) := by
  unfold mvF
  rw [List.take_add_one, h]
  show ((List.filter _ (steps.take i ++ [t])).map _).sum = _
  rw [List.filter_append, List.map_append, List.sum_append]
  congr 1
  by_cases c : t.2.1 = s ∧ t.2.2 = j
  · rw [if_pos c]
    have e : List.filter (fun t : Nat × Nat × Nat => t.2.1 == s && t.2.2 == j) [t] = [t] := by
      simp [c.1, c.2]
    rw [e]
    simp
  · rw [if_neg c]
    have e : List.filter (fun t : Nat × Nat × Nat => t.2.1 == s && t.2.2 == j) [t] = [] := by
      rw [List.filter_cons, if_neg]
      · rfl
      · simpa using c
    rw [e]
    rfl
section
variable {P : Program} {w : World} {K : PySem.W.Frag} {mg : Str → Option Value} {base : Heap}
/-! ### look_at_word -/
def sp_look_at_word : Sp := fun vs H Q _ => ∃ u : List Nat, vs = [.str (txt u)] ∧ (∀ c ∈ u, 97 ≤ c ∧ c ≤ 122) ∧ u.length ≤ 400 ∧ ∀ H', Same H H' → Q .non H'
theorem cl_look_at_word (T : Txt mg) (F : Has K mg "look_at_word" s_look_at_word) (C : Cal P w K mg base 1 "is_sign" ["thing"] sp_is_sign) : Cal P w K mg base 2 "look_at_word" ["text"] sp_look_at_word := by
  refine cal_mk F s_look_at_word_sc (fun _ _ _ _ _ _ us hl => match us, hl with | [_], _ => rfl) (fun vs H Q E h => ?_) (fun f cdv A outer s H vs Q E hr h => ?_)
  · obtain ⟨_, rfl, _⟩ := h
    rfl
  · obtain ⟨u, rfl, hc, hl, q⟩ := h
    have nd := s_look_at_word_sc.nd
    obtain ⟨tM, gM⟩ := T.MOST_WORD
    refine ⟨_, pss_cons (ps_if (pt_not (pt_val (pe_callB call_isi (by rfl) T.isinstance (by decide +kernel) (pa_cons (pv 0) (pa_cons (pe_bltn (v := .ty "str") (by rfl) T.str (by decide +kernel) rfl) pa_nil))))) (pss_one ps_never) pss_nil)
      (pss_one (ps_for PassesOwn.never rfl (pi_enumS T.enumerate (pa_cons (pv 0) pa_nil)) (pg_tup rfl (pgs_cons (pg_name (i := 1) nd rfl (.inl rfl)) (pgs_cons (pg_name (i := 2) nd rfl (.inl rfl)) pgs_nil)))
        (pss_one (ps_if (PW.pt (pw_or (pt_cmpR op_eq (pv 1) (pe_glob (v := .int 400) (by rfl) gM ⟨_, rfl⟩) (nomark _)) (pw_or1 (pt_not (pt_val (pe_cal C hr (pa_cons (pv 2) pa_nil))))))) (pss_one ps_never) pss_nil)))), ?_⟩
    refine ⟨_, rfl, _, _, _, _, true, rfl, .ty "str", .base (.str _), kit_ty (by decide +kernel), true, rfl, iteF ?_⟩
    refine ⟨_, rfl, _, rfl, for_it walk_enumS (fun i σ H' => Same H H' ∧ ∃ y1 y2, σ = [some (.str (txt u)), y1, y2]) ⟨Same.refl _, _, _, rfl⟩ (fun _ _ _ _ _ => trivial) (fun i x σ H' H2 hi ⟨sm, y1, y2, e⟩ y => ?_) (fun σ H' ⟨sm, _⟩ => q H' sm)⟩
    subst e
    obtain ⟨p, c, rfl, np, hx, rfl⟩ := y
    rw [txt_size] at hi
    rw [txt_at] at hx
    have b := hc c (List.mem_of_getElem? hx)
    refine ⟨p, _, rfl, .inl (.inl upd_same), rfl, _, _, rfl, _, _, rfl, rfl, ?_⟩
    refine ⟨_, rfl, rfl, false, ?_, iteF ?_⟩
    · have e : decide (nv i = V.int 400) = false := decide_eq_false fun z => by
        have z2 : (i : Int) = 400 := V.int.inj z
        omega
      rw [e]
    refine ⟨_, rfl, c, rfl, ?_⟩
    have e : okSign c = true := by
      unfold okSign
      rw [Bool.and_eq_true, decide_eq_true_iff, decide_eq_true_iff]
      exact b
    rw [e]
    exact ⟨true, rfl, iteF ⟨same_upd sm (sm.free np), _, _, rfl⟩⟩
/-! ### vectors -/
def sp_alone_at : Sp := fun vs H Q _ => ∃ (v : V) (m : Mach) (t fa la sa a : Addr) (r : Nat), vs = [v, .ref a] ∧ MacAt H v m t fa la sa ∧ m.many ≤ 12 ∧ IntsAt H a [r] ∧ ∀ H' p, Same H H' → H p = none → H' p = some (.lst (vecV m.many (indF r))) → Q (.ref p) H'
theorem cl_alone_at (T : Txt mg) (F : Has K mg "alone_at" s_alone_at) : Cal P w K mg base 1 "alone_at" ["machine", "rooms"] sp_alone_at := by
  refine cal_mk F s_alone_at_sc (fun _ _ _ _ _ _ us hl => match us, hl with | [_, _], _ => rfl) (fun vs H Q E h => ?_) (fun f cdv A outer s H vs Q E hr h => ?_)
  · obtain ⟨_, _, _, _, _, _, _, _, rfl, _⟩ := h
    rfl
  · obtain ⟨v, m, t, fa, la, sa, a, r, rfl, M, ht, hI, q⟩ := h
    have nd := s_alone_at_sc.nd
    have ev := M.v
    subst ev
    refine ⟨_, pss_one (ps_ret (pe_lc (own := [("room", 2)]) (g := gName 2) (tt := tYes) rfl nd (pi_range1 (by rfl) T.range (pa_cons (pe_ix ix_tup (pv 0) pe_int (fun _ _ => rfl)) pa_nil)) (blkOk_by (N := s_alone_at_N) (sc := defScope s_alone_at) (by decide +kernel))
      (fun _ _ _ _ _ => pg_name (i := 2) nd rfl (.inl rfl)) (fun _ _ _ _ _ => pts_nil) (fun _ _ _ _ _ => pe_callTy call_int1 (by rfl) T.int (by decide +kernel) (pa_cons (pe_cmpR (r := rIn K false) op_in_seq (pv 2) (pv 1) (by rfl)) pa_nil)))), ?_⟩
    refine ⟨_, rfl, t, _, 0, nv m.many, rfl, rfl, .inl (.inl M.t), atI_nat (j := 0) rfl, m.many, rfl, by omega, by omega, fun D hD => ?_⟩
    refine lc_rowsY (R := fun _ x (z : Int) => x = .int z) grow_same (fun _ _ _ _ _ h => h) walk_range (indF r) (small1000 (by omega)) hD (fun _ _ => trivial) (fun i x H1 H2 Ka hi sm y ka => ?_) (fun H1 acc sm hA lr => ?_) (mono_name 2)
    · obtain ⟨rfl, rfl⟩ := y
      refine ⟨rfl, ?_⟩
      refine ⟨_, rfl, _, rfl, a, [r].map nv, rfl, .inl (.inl (.inl (sm _ _ hI))), rfl, flat_nv [r], .inr ⟨_, rfl, ?_⟩⟩
      refine ka _ _ ?_ (Same.refl _)
      have e : inV (V.int (0 + (i : Int))) ([r].map nv) = decide (i ∈ [r]) := by
        rw [Int.zero_add]
        exact inV_nv i [r]
      show V.int (if inV (V.int (0 + (i : Int))) ([r].map nv) = true then 1 else 0) = V.int (indF r i)
      rw [e]
      unfold indF
      by_cases c : i = r
      · subst c
        simp
      · simp [c]
    · refine q H1 D sm hD ?_
      rw [Int.toNat_natCast] at lr
      have e := LR.eq_map (g := V.int) lr
      rw [hA, e, List.map_map]
      rfl
theorem sg_inj {a b : Nat} (h : sg a = sg b) : a = b := by
  unfold sg at h
  injection h with h
  have h : [a] = [b] := congrArg Array.toList h
  injection h
def sp_moved : Sp := fun vs H Q _ => ∃ (v : V) (m : Mach) (t fa la sa b : Addr) (u : Nat → Int) (c : Nat), vs = [v, .ref b, .str (sg c)] ∧ MacAt H v m t fa la sa ∧ MOk m ∧ H b = some (.lst (vecV m.many u)) ∧
  ∀ H' p, Same H H' → H p = none → H' p = some (.lst (vecV m.many (mvF m.steps c u))) → Q (.ref p) H'
theorem zeros (n : Nat) : (List.replicate n [V.int 0]).flatten = vecV n (fun _ => 0) := by
  unfold vecV
  induction n with
  | zero => rfl
  | succ n ih => rw [List.replicate_succ', List.flatten_append, ih, List.range_succ, List.map_append]; rfl
theorem cl_moved (F : Has K mg "moved" s_moved) : Cal P w K mg base 1 "moved" ["machine", "vector", "sign"] sp_moved := by
  refine cal_mk F s_moved_sc (fun _ _ _ _ _ _ us hl => match us, hl with | [_, _, _], _ => rfl) (fun vs H Q E h => ?_) (fun f cdv A outer s H vs Q E hr h => ?_)
  · obtain ⟨_, _, _, _, _, _, _, _, _, rfl, _⟩ := h
    rfl
  · obtain ⟨v, m, t, fa, la, sa, b, u, c, rfl, M, ok, hb, q⟩ := h
    have nd := s_moved_sc.nd
    have ev := M.v
    subst ev
    have top := ok.top
    obtain ⟨xs, hx, lr⟩ := M.sa
    refine ⟨_, pss_cons (ps_set (i := 3) nd rfl (.inl rfl) (pe_op op_rep (pe_lst (pa_cons pe_int pa_nil)) (pe_ix ix_tup (pv 0) pe_int (fun _ _ => rfl))))
      (pss_cons (ps_for PassesOwn.never rfl (pi_list (pe_ix ix_tup (pv 0) pe_int (fun _ _ => rfl))) (pg_tup rfl (pgs_cons (pg_name (i := 4) nd rfl (.inl rfl)) (pgs_cons (pg_name (i := 5) nd rfl (.inl rfl)) (pgs_cons (pg_name (i := 6) nd rfl (.inl rfl)) pgs_nil))))
        (pss_one (ps_if (pt_cmpR op_eq (pv 5) (pv 2) (nomark _)) (pss_one (ps_augS (pv 3) (pv 6) get_list (pe_ix ix_list (pv 1) (pv 4) (fun _ _ => rfl)) ip_add set_list)) pss_nil)))
      (pss_one (ps_ret (pv 3)))), ?_⟩
    refine ⟨by show 1 ≤ sizeLine; decide, fun z hz => ?_⟩
    have s0 : Same H (upd H z (.lst [.int 0])) := same_new hz
    refine ⟨_, rfl, t, _, 0, nv m.many, rfl, rfl, .inl (.inl (s0 _ _ M.t)), atI_nat (j := 0) rfl, z, m.many, [.int 0], rfl, rfl, upd_same, by omega, by omega, ?_, fun p hp => ?_⟩
    · have e : [V.int 0].length * (m.many : Int).toNat = m.many := by
        rw [Int.toNat_natCast]
        exact Nat.one_mul _
      rw [e]
      exact Nat.le_of_lt (small1000 (by omega))
    rw [Int.toNat_natCast, zeros]
    have s1 := s0.trans (same_new (o := .lst (vecV m.many fun _ => 0)) hp)
    have np : H p = none := s0.free hp
    refine ⟨_, rfl, t, _, 3, .ref sa, rfl, rfl, .inl (.inl (s1 _ _ M.t)), atI_nat (j := 3) rfl, sa, rfl, ⟨xs, .inl (.inl (s1 _ _ hx))⟩, ?_⟩
    refine for_it walk_list (fun i σ H' => Same H H' ∧ H' p = some (.lst (vecV m.many (mvF (m.steps.take i) c u))) ∧ ∃ y4 y5 y6, σ = [some (.ref t), some (.ref b), some (.str (sg c)), some (.ref p), y4, y5, y6])
      ⟨s1, ?_, _, _, _, rfl⟩ (fun i σ H' _ h => .inl (.inl (h.1 _ _ hx))) (fun i x σ H' H2 hi ⟨sm, hP, y4, y5, y6, e⟩ y => ?_) (fun σ H' ⟨sm, hP, y4, y5, y6, e⟩ => ?_)
    · rw [upd_same]
      rfl
    · subst e
      obtain ⟨rfl, ex⟩ := y
      obtain ⟨st, est, a, rfl, ha⟩ := lr.at ex
      have bd := ok.sb st (List.mem_of_getElem? est)
      have ne : p ≠ b := fun z => by
        rw [z] at np
        rw [np] at hb
        cases hb
      refine ⟨a, _, rfl, .inl (.inl (sm _ _ ha)), rfl, _, _, rfl, _, _, rfl, _, _, rfl, rfl, ?_⟩
      refine ⟨_, rfl, _, rfl, rfl, _, rfl, ite2 (fun e => ?_) (fun e => ?_)⟩
      · have e1 : st.2.1 = c := sg_inj (V.str.inj (of_decide_eq_true e))
        refine ⟨_, rfl, _, rfl, p, _, st.2.2, _, rfl, rfl, .inl (.inl hP), vec_at bd.2.2, ?_⟩
        refine ⟨_, rfl, _, rfl, b, _, st.1, _, rfl, rfl, .inl (.inl (sm _ _ hb)), atI_nat (vec_at bd.1), _, _, rfl, rfl, ?_⟩
        refine ⟨p, _, st.2.2, st.2.2, rfl, rfl, hP, ?_, ?_⟩
        · unfold ixN
          rw [vec_len, if_pos (by omega), if_pos (by omega), Int.toNat_natCast]
        · refine ⟨same_upd sm np, ?_, _, _, _, rfl⟩
          rw [upd_same, vec_set _ bd.2.2]
          refine congrArg (fun l => some (HO.lst l)) (vec_ext fun j hj => ?_)
          rw [mv_take est]
          by_cases ej : j = st.2.2
          · rw [if_pos ej, if_pos ⟨e1, ej.symm⟩, ej]
          · rw [if_neg ej, if_neg (fun z => ej z.2.symm), Int.add_zero]
      · have e1 : ¬ st.2.1 = c := fun z => e (decide_eq_true (by rw [z]))
        refine ⟨sm, ?_, _, _, _, rfl⟩
        rw [hP]
        refine congrArg (fun l => some (HO.lst l)) (vec_ext fun j hj => ?_)
        rw [mv_take est, if_neg (fun z => e1 z.1), Int.add_zero]
    · subst e
      refine ⟨_, rfl, q H' p sm np ?_⟩
      rw [hP, lr.1, List.take_length]
def sp_moved_by : Sp := fun vs H Q _ => ∃ (v : V) (m : Mach) (t fa la sa b : Addr) (u : Nat → Int) (z : List Nat), vs = [v, .ref b, .str (txt z)] ∧ MacAt H v m t fa la sa ∧ MOk m ∧ H b = some (.lst (vecV m.many u)) ∧
  ∀ H' p, Same H H' → H' p = some (.lst (vecV m.many (mvs m.steps z u))) → Q (.ref p) H'
theorem cl_moved_by (F : Has K mg "moved_by" s_moved_by) (C : Cal P w K mg base 1 "moved" ["machine", "vector", "sign"] sp_moved) : Cal P w K mg base 2 "moved_by" ["machine", "vector", "text"] sp_moved_by := by
  refine cal_mk F s_moved_by_sc (fun _ _ _ _ _ _ us hl => match us, hl with | [_, _, _], _ => rfl) (fun vs H Q E h => ?_) (fun f cdv A outer s H vs Q E hr h => ?_)
  · obtain ⟨_, _, _, _, _, _, _, _, _, rfl, _⟩ := h
    rfl
  · obtain ⟨v, m, t, fa, la, sa, b, u, z, rfl, M, ok, hb, q⟩ := h
    have nd := s_moved_by_sc.nd
    refine ⟨_, pss_cons (ps_for PassesOwn.never rfl (pi_str (pv 2)) (pg_name (i := 3) nd rfl (.inl rfl)) (pss_one (ps_set (i := 1) nd rfl (.inl rfl) (pe_cal C hr (pa_cons (pv 0) (pa_cons (pv 1) (pa_cons (pv 3) pa_nil))))))) (pss_one (ps_ret (pv 1))), ?_⟩
    refine ⟨_, rfl, txt z, rfl, for_it walk_str (fun i σ H' => Same H H' ∧ ∃ p y3, σ = [some v, some (.ref p), some (.str (txt z)), y3] ∧ H' p = some (.lst (vecV m.many (mvs m.steps (z.take i) u))))
      ⟨Same.refl _, _, _, rfl, hb⟩ (fun _ _ _ _ _ => trivial) (fun i x σ H' H2 hi ⟨sm, p, y3, e, hP⟩ y => ?_) (fun σ H' ⟨sm, p, y3, e, hP⟩ => ?_)⟩
    · subst e
      obtain ⟨rfl, c, hc, rfl⟩ := y
      rw [txt_at] at hc
      refine ⟨_, rfl, _, rfl, _, rfl, v, m, t, fa, la, sa, p, _, c, rfl, M.mono sm, ok, hP, fun H3 p3 s3 n3 h3 => ?_⟩
      refine ⟨sm.trans s3, p3, _, rfl, ?_⟩
      rw [h3, List.take_add_one, hc]
      show _ = some (HO.lst (vecV _ (mvs _ (z.take i ++ [c]) u)))
      rw [mvs_app]
      rfl
    · subst e
      refine ⟨_, rfl, q H' p sm ?_⟩
      rw [hP, txt_size, List.take_length]
/-! ### sum_at, ways -/
def sp_sum_at : Sp := fun vs H Q _ => ∃ (a b : Addr) (n r : Nat) (u : Nat → Int), vs = [.ref b, .ref a] ∧ H b = some (.lst (vecV n u)) ∧ IntsAt H a [r] ∧ r < n ∧ ∀ H', Same H H' → Q (.int (u r)) H'
theorem cl_sum_at (T : Txt mg) (F : Has K mg "sum_at" s_sum_at) : Cal P w K mg base 1 "sum_at" ["vector", "rooms"] sp_sum_at := by
  refine cal_mk F s_sum_at_sc (fun _ _ _ _ _ _ us hl => match us, hl with | [_, _], _ => rfl) (fun vs H Q E h => ?_) (fun f cdv A outer s H vs Q E hr h => ?_)
  · obtain ⟨_, _, _, _, _, rfl, _⟩ := h
    rfl
  · obtain ⟨a, b, n, r, u, rfl, hb, hI, hn, q⟩ := h
    have nd := s_sum_at_sc.nd
    refine ⟨_, pss_one (ps_ret (pe_callBK (cr_sum0 rfl) (by rfl) T.sum (by decide +kernel) (pa_cons (pe_lc (own := [("room", 2)]) (g := gName 2) (tt := tYes) rfl nd (pi_list (pv 1)) (blkOk_by (N := s_sum_at_N) (sc := defScope s_sum_at) (by decide +kernel))
      (fun _ _ _ _ _ => pg_name (i := 2) nd rfl (.inl rfl)) (fun _ _ _ _ _ => pts_nil) (fun _ _ _ _ _ => pe_ix (r := rIxL K) ix_list (pv 0) (pv 2) (fun _ _ => rfl))) pa_nil) (pk_cons pe_int pk_nil))), ?_⟩
    refine ⟨_, rfl, a, rfl, ⟨_, nv_sq hI⟩, fun D hD => ?_⟩
    refine lc_rowsY (R := fun _ x (z : Int) => x = .int z) grow_same (fun _ _ _ _ _ h => h) walk_list (fun _ => u r) (by show 1 < sizeLine; decide) hD (fun H' sm => sm.seq (nv_sq hI)) (fun i x H1 H2 Ka hi sm y ka => ?_) (fun H1 acc sm hA lr => ?_) (mono_name 2)
    · obtain ⟨rfl, ex⟩ := y
      have e0 : i = 0 := by
        have hi : i < 1 := hi
        omega
      subst e0
      have ex : nv r = x := Option.some.inj ex
      subst ex
      refine ⟨rfl, _, rfl, _, rfl, b, _, r, _, rfl, rfl, .inl (.inl (sm _ _ hb)), atI_nat (vec_at hn), ?_⟩
      exact ka _ _ rfl (Same.refl _)
    · have e := LR.eq_map (g := V.int) lr
      refine ⟨D, [u r], rfl, rfl, .inl (.inl ?_), ?_⟩
      · rw [hA, e]
        rfl
      · have e2 : ([u r] : List Int).sum = u r := by simp
        rw [e2]
        exact q H1 sm
def sp_ways : Sp := fun vs H Q _ => ∃ (v : V) (m : Mach) (t fa la sa : Addr) (z : List Nat) (a b : Nat), vs = [v, .str (txt z), nv a, nv b] ∧ MacAt H v m t fa la sa ∧ MOk m ∧ (∀ c ∈ z, 97 ≤ c ∧ c ≤ 122) ∧ z.length ≤ 400 ∧ a < m.many ∧ b < m.many ∧
  ∀ H', Same H H' → Q (.int (waysN m z a b)) H'
/-- ways has defaults -/
def HasW (K : PySem.W.Frag) (mg : Str → Option Value) : Prop := ∃ f fd, FunD K "ways" "ways" (defArgs s_ways) (defBody s_ways) (defScope s_ways) [.non, .non] [] f fd ∧ mg "ways" = some (.ref f)
theorem cl_ways (h : HasW K mg) (CL : Cal P w K mg base 5 "look_at" ["thing"] sp_look_at) (CW : Cal P w K mg base 2 "look_at_word" ["text"] sp_look_at_word) (CR : Cal P w K mg base 3 "look_at_room" ["machine", "room"] sp_look_at_room)
    (CA : Cal P w K mg base 1 "alone_at" ["machine", "rooms"] sp_alone_at) (CM : Cal P w K mg base 2 "moved_by" ["machine", "vector", "text"] sp_moved_by) (CS : Cal P w K mg base 1 "sum_at" ["vector", "rooms"] sp_sum_at) :
    Cal P w K mg base 6 "ways" ["machine", "text", "first", "last"] sp_ways := by
  obtain ⟨f, fd, F, g⟩ := h
  obtain ⟨ds, rd, bd⟩ := FunD.binds1 (ps := ["machine", "text", "first", "last"]) F 4 2 (by simp) rfl fun T kV doc pm an cdv ct us its hl hi => match us, its, hl, hi with
    | [_, _, _, _], [_, _], _, _ => ⟨_, rfl, rfl⟩
  have ed : ds = [] := by
    have rd : Vals [] ds := rd
    cases rd
    rfl
  subst ed
  refine ⟨f, fd, F.ok s_ways_sc (fun vs H Q E h => ?_) (fun cdv A outer s H vs Q E hr h => ?_), g, F.kp, bd⟩
  · obtain ⟨_, _, _, _, _, _, _, _, _, rfl, _⟩ := h
    rfl
  · obtain ⟨v, m, t, fa, la, sa, z, a, b, rfl, M, ok, hz, hl, ha, hb, q⟩ := h
    have nd := s_ways_sc.nd
    have ev := M.v
    subst ev
    refine ⟨_, PSs.nox (pss_cons (ps_expr (pe_cal CL hr (pa_cons (pv 0) pa_nil)))
      (pss_cons (ps_expr (pe_cal (CW.mono (by decide)) hr (pa_cons (pv 1) pa_nil)))
      (pss_cons (ps_set (i := 4) nd rfl (.inl rfl) (pe_ix ix_tup (pv 0) pe_int (fun _ _ => rfl)))
      (pss_cons (ps_set (i := 5) nd rfl (.inl rfl) (pe_ix ix_tup (pv 0) pe_int (fun _ _ => rfl)))
      (pss_cons (ps_if (pt_cmp (pc_notN (pv 2))) (pss_cons (ps_expr (pe_cal (CR.mono (by decide)) hr (pa_cons (pv 0) (pa_cons (pv 2) pa_nil)))) (pss_one (ps_set (i := 4) nd rfl (.inl rfl) (pe_lst (pa_cons (pv 2) pa_nil))))) pss_nil)
      (pss_cons (ps_if (pt_cmp (pc_notN (pv 3))) (pss_cons (ps_expr (pe_cal (CR.mono (by decide)) hr (pa_cons (pv 0) (pa_cons (pv 3) pa_nil)))) (pss_one (ps_set (i := 5) nd rfl (.inl rfl) (pe_lst (pa_cons (pv 3) pa_nil))))) pss_nil)
      (pss_one (ps_ret (pe_cal (CS.mono (by decide)) hr (pa_cons (pe_cal (CM.mono (by decide)) hr (pa_cons (pv 0) (pa_cons (pe_cal (CA.mono (by decide)) hr (pa_cons (pv 0) (pa_cons (pv 4) pa_nil))) (pa_cons (pv 1) pa_nil)))) (pa_cons (pv 5) pa_nil))))))))))), ?_⟩
    refine ⟨_, rfl, _, m, t, fa, la, sa, rfl, M, ok, fun H1 s1 => ?_⟩
    refine ⟨_, rfl, z, rfl, hz, hl, fun H2 s2 => ?_⟩
    have s12 := s1.trans s2
    refine ⟨_, rfl, t, _, 1, .ref fa, rfl, rfl, .inl (.inl (s12 _ _ M.t)), atI_nat (j := 1) rfl, ?_⟩
    refine ⟨_, rfl, t, _, 2, .ref la, rfl, rfl, .inl (.inl (s12 _ _ M.t)), atI_nat (j := 2) rfl, ?_⟩
    refine ⟨_, rfl, true, rfl, iteT ?_⟩
    refine ⟨_, rfl, _, rfl, _, m, t, fa, la, sa, a, rfl, M.mono s12, ha, ?_⟩
    refine ⟨_, rfl, by show 1 ≤ sizeLine; decide, fun p hp => ?_⟩
    have s3 := s12.trans (same_new (o := .lst [nv a]) hp)
    refine ⟨_, rfl, true, rfl, iteT ?_⟩
    refine ⟨_, rfl, _, rfl, _, m, t, fa, la, sa, b, rfl, M.mono s3, hb, ?_⟩
    refine ⟨_, rfl, by show 1 ≤ sizeLine; decide, fun p2 hp2 => ?_⟩
    have s4 := same_new (o := .lst [nv b]) hp2
    have s34 := s3.trans s4
    have hI : IntsAt (upd (upd H2 p (.lst [nv a])) p2 (.lst [nv b])) p [a] := s4 _ _ upd_same
    have hI2 : IntsAt (upd (upd H2 p (.lst [nv a])) p2 (.lst [nv b])) p2 [b] := upd_same
    refine ⟨_, rfl, _, rfl, _, rfl, _, m, t, fa, la, sa, p, a, rfl, M.mono s34, ok.top, hI, fun H5 p5 s5 n5 h5 => ?_⟩
    refine ⟨_, rfl, _, m, t, fa, la, sa, p5, _, z, rfl, M.mono (s34.trans s5), ok, h5, fun H6 p6 s6 h6 => ?_⟩
    refine ⟨_, rfl, p2, p6, m.many, b, _, rfl, h6, s6 _ _ (s5 _ _ hI2), hb, fun H7 s7 => ?_⟩
    exact q H7 (s34.trans (s5.trans (s6.trans s7)))
end
end K44

set_option Elab.async false
set_option linter.all false
set_option maxRecDepth 100000
set_option maxHeartbeats 4000000
namespace K44
open PySem PySem.Spec PyProof.Rows L2
section
variable {P : Program} {w : World} {K : PySem.W.Frag} {mg : Str → Option Value} {base : Heap}
def sp_turned : Sp := fun vs H Q _ => ∃ (v : V) (m : Mach) (t fa la sa : Addr), vs = [v] ∧ MacAt H v m t fa la sa ∧ MOk m ∧ ∀ H' v' t' fa' la' sa', Same H H' → MacAt H' v' (turnM m) t' fa' la' sa' → Q v' H'
theorem cl_turned (T : Txt mg) (F : Has K mg "turned" s_turned) (CL : Cal P w K mg base 5 "look_at" ["thing"] sp_look_at) : Cal P w K mg base 6 "turned" ["machine"] sp_turned := by
  refine cal_mk F s_turned_sc (fun _ _ _ _ _ _ us hl => match us, hl with | [_], _ => rfl) (fun vs H Q E h => ?_) (fun f cdv A outer s H vs Q E hr h => ?_)
  · obtain ⟨_, _, _, _, _, _, rfl, _⟩ := h
    rfl
  · obtain ⟨v, m, t, fa, la, sa, rfl, M, ok, q⟩ := h
    have nd := s_turned_sc.nd
    have ev := M.v
    subst ev
    refine ⟨_, pss_cons (ps_expr (pe_cal CL hr (pa_cons (pv 0) pa_nil)))
      (pss_cons (ps_asg (pv 0) (pg_tup rfl (pgs_cons (pg_name (i := 1) nd rfl (.inl rfl)) (pgs_cons (pg_name (i := 2) nd rfl (.inl rfl)) (pgs_cons (pg_name (i := 3) nd rfl (.inl rfl)) (pgs_cons (pg_name (i := 4) nd rfl (.inl rfl)) pgs_nil))))))
      (pss_one (ps_ret (pe_tup (pa_cons (pv 1) (pa_cons (pe_callTy call_list_of (by rfl) T.list (by decide +kernel) (pa_cons (pv 3) pa_nil)) (pa_cons (pe_callTy call_list_of (by rfl) T.list (by decide +kernel) (pa_cons (pv 2) pa_nil))
        (pa_cons (pe_lc (own := [("one", 5), ("sign", 6), ("other", 7)]) (g := gTup K 3 (gCons (gName 5) (gCons (gName 6) (gCons (gName 7) gNil)))) (tt := tYes) rfl nd (pi_list (pv 4)) (blkOk_by (N := s_turned_N) (sc := defScope s_turned) (by decide +kernel))
          (fun _ _ _ _ _ => pg_tup rfl (pgs_cons (pg_name (i := 5) nd rfl (.inl rfl)) (pgs_cons (pg_name (i := 6) nd rfl (.inl rfl)) (pgs_cons (pg_name (i := 7) nd rfl (.inl rfl)) pgs_nil)))) (fun _ _ _ _ _ => pts_nil)
          (fun _ _ _ _ _ => pe_tup (pa_cons (pv 7) (pa_cons (pv 6) (pa_cons (pv 5) pa_nil))))) pa_nil)))))))), ?_⟩
    refine ⟨_, rfl, _, m, t, fa, la, sa, rfl, M, ok, fun H1 s1 => ?_⟩
    refine ⟨_, rfl, t, _, rfl, .inl (.inl (s1 _ _ M.t)), rfl, _, _, rfl, _, _, rfl, _, _, rfl, _, _, rfl, rfl, ?_⟩
    refine ⟨_, rfl, _, rfl, la, _, rfl, .inl (.inl (.inl (s1 _ _ M.la))), fun p1 n1 => ?_⟩
    have s2 := s1.trans (same_new (o := .lst (m.lasts.map nv)) n1)
    have e1 : (upd H1 p1 (.lst (m.lasts.map nv))) p1 = some (.lst (m.lasts.map nv)) := upd_same
    generalize hH2 : upd H1 p1 (.lst (m.lasts.map nv)) = H2 at s2 e1 ⊢
    refine ⟨_, rfl, fa, _, rfl, .inl (.inl (.inl (s2 _ _ M.fa))), fun p2 n2 => ?_⟩
    have s3 : Same H2 (upd H2 p2 (.lst (m.firsts.map nv))) := same_new n2
    have e2 : (upd H2 p2 (.lst (m.firsts.map nv))) p2 = some (.lst (m.firsts.map nv)) := upd_same
    generalize hH3 : upd H2 p2 (.lst (m.firsts.map nv)) = H3 at s3 e2 ⊢
    have s23 := s2.trans s3
    obtain ⟨xs, hx, lr⟩ := M.sa
    refine ⟨_, rfl, sa, rfl, ⟨xs, .inl (.inl (s23 _ _ hx))⟩, fun D hD => ?_⟩
    refine lc_map (R := RS) grow_same (fun _ _ _ _ e h => h.mono e) lr (fun t => (t.2.2, t.2.1, t.1)) (small1000 (by have := ok.sl; omega)) hD (fun H' sm => .inl (.inl (sm _ _ (s23 _ _ hx)))) (fun i x y H4 Ka ey ry sm ka => ?_) (fun H4 acc sm hA lr' => ?_)
      (mono_tup (mono_cons (mono_name 5) (mono_cons (mono_name 6) (mono_cons (mono_name 7) mono_nil))))
    · obtain ⟨a, rfl, ha⟩ := ry
      refine ⟨a, _, rfl, .inl (.inl (sm _ _ (s23 _ _ ha))), rfl, _, _, rfl, _, _, rfl, _, _, rfl, rfl, rfl, ?_⟩
      refine ⟨_, rfl, _, rfl, _, rfl, by show 3 ≤ sizeLine; decide, fun p np => ?_⟩
      exact ka _ _ ⟨p, rfl, upd_same⟩ (same_new np)
    · refine ⟨by show 4 ≤ sizeLine; decide, fun p np => ?_⟩
      have s5 := same_new (o := .tup [nv m.many, .ref p1, .ref p2, .ref D]) np
      refine q _ _ p p1 p2 D (s23.trans (sm.trans s5)) ⟨rfl, upd_same, ?_, ?_, ⟨acc, s5 _ _ hA, lr'.mono fun x y k => k.mono (Same.tups s5)⟩⟩
      · exact s5 _ _ (sm _ _ (s3 _ _ e1))
      · exact s5 _ _ (sm _ _ e2)
end
end K44

set_option Elab.async false
set_option linter.all false
set_option maxRecDepth 100000
set_option maxHeartbeats 4000000
namespace K44
open PySem PySem.Spec PyProof.Rows L2
/-! ### rows as data: for ==, != and in -/
section
variable {K : PySem.W.Frag} {H : Hp} {α : Type} (f : α → PyData)
theorem dpAll_of : ∀ {xs : List V} {l : List α}, LR (fun H x y => Dp K H x (f y)) H xs l → DpAll K H xs (l.map f)
  | [], [], _ => .nil
  | [], y :: l, h => by
    have := h.1
    cases this
  | x :: xs, [], h => by
    have := h.1
    cases this
  | x :: xs, y :: l, h => by
    obtain ⟨h1, h2⟩ := LR.cons_iff.mp h
    exact .cons h1 (dpAll_of h2)
theorem dp_list {a : Addr} {xs : List V} {l : List α} (ha : H a = some (.lst xs)) (h : LR (fun H x y => Dp K H x (f y)) H xs l) : Dp K H (.ref a) (.list (l.map f)) := .lst (.inl (.inl ha)) (dpAll_of f h)
end
/-- data that may be compared here -/
structure Fit (d : PyData) (n : Nat) : Prop where
  lay : d.canLay0 = true
  deep : d.depth ≤ n
theorem fit_int (i : Int) : Fit (.int i) 0 := ⟨by simp [PyData.canLay0], by simp [PyData.depth]⟩
theorem fit_bool (b : Bool) : Fit (.bool b) 0 := ⟨by simp [PyData.canLay0], by simp [PyData.depth]⟩
theorem Fit.all : ∀ {ds : List PyData} {n : Nat}, (∀ d ∈ ds, Fit d n) → PyData.canLayAll0 ds = true ∧ PyData.depthAll ds ≤ n
  | [], n, _ => ⟨by simp [PyData.canLayAll0], by simp [PyData.depthAll]⟩
  | d :: ds, n, h => by
    obtain ⟨h1, h2⟩ := Fit.all (n := n) fun e he => h e (List.mem_cons_of_mem _ he)
    have h3 := h d List.mem_cons_self
    refine ⟨?_, ?_⟩
    · rw [PyData.canLayAll0, h3.lay, h1]
      rfl
    · rw [PyData.depthAll]
      exact Nat.max_le.mpr ⟨h3.deep, h2⟩
theorem Fit.tuple {ds : List PyData} {n : Nat} (h : ∀ d ∈ ds, Fit d n) : Fit (.tuple ds) (n + 1) := by
  obtain ⟨h1, h2⟩ := Fit.all h
  exact ⟨by rw [PyData.canLay0]; exact h1, by rw [PyData.depth]; omega⟩
theorem Fit.list {ds : List PyData} {n : Nat} (h : ∀ d ∈ ds, Fit d n) : Fit (.list ds) (n + 1) := by
  obtain ⟨h1, h2⟩ := Fit.all h
  exact ⟨by rw [PyData.canLay0]; exact h1, by rw [PyData.depth]; omega⟩
theorem Fit.mono {d : PyData} {n m : Nat} (h : Fit d n) (l : n ≤ m) : Fit d m := ⟨h.lay, Nat.le_trans h.deep l⟩
theorem Fit.shaped {d : PyData} {n : Nat} (h : Fit d n) (l : n ≤ 64 := by decide) : SeqAt.shaped d = true := by
  show (d.canLay0 && decide (d.depth ≤ 64)) = true
  rw [Bool.and_eq_true]
  exact ⟨h.lay, decide_eq_true (Nat.le_trans h.deep l)⟩
theorem Fit.refl {d : PyData} {n : Nat} (h : Fit d n) : PyData.eqv d d = true := SeqAt.eqv_refl d h.lay
/-- rows of ints -/
def dN (n : Nat) : PyData := .int n
theorem fit_ints (ns : List Nat) : Fit (.list (ns.map dN)) 1 := Fit.list fun d hd => by
  obtain ⟨n, _, e⟩ := List.mem_map.mp hd
  rw [← e]
  exact fit_int _
theorem dp_ints {K : PySem.W.Frag} {H : Hp} {a : Addr} {ns : List Nat} (h : IntsAt H a ns) : Dp K H (.ref a) (.list (ns.map dN)) :=
  .lst (.inl (.inl h)) (by
    have : ∀ l : List Nat, DpAll K H (l.map nv) (l.map dN) := by
      intro l
      induction l with
      | nil => exact .nil
      | cons n l ih => exact .cons (.int _) ih
    exact this ns)
theorem eqvAll_map {α : Type} (f : α → PyData) (inj : ∀ a b, PyData.eqv (f a) (f b) = true → a = b) : ∀ l l' : List α, PyData.eqvAll (l.map f) (l'.map f) = true → l = l'
  | [], [], _ => rfl
  | [], _ :: _, h => by
    rw [List.map_nil, List.map_cons, PyData.eqvAll] at h
    cases h
  | _ :: _, [], h => by
    rw [List.map_nil, List.map_cons, PyData.eqvAll] at h
    cases h
  | a :: l, b :: l', h => by
    rw [List.map_cons, List.map_cons, PyData.eqvAll, Bool.and_eq_true] at h
    rw [inj a b h.1, eqvAll_map f inj l l' h.2]
end K44

set_option Elab.async false
set_option linter.all false
set_option maxRecDepth 100000
set_option maxHeartbeats 4000000
namespace K44
open PySem PySem.Spec PyProof.Rows L2
theorem lr_nv (H : Hp) (ns : List Nat) : LR (fun _ x (n : Nat) => x = nv n) H (ns.map nv) ns := by
  refine ⟨List.length_map _, fun i x y hx hy => ?_⟩
  rw [List.getElem?_map, hy] at hx
  exact (Option.some.inj hx).symm
def ci (n : Nat) : Int := (n : Int)
theorem ci_inj {a b : Nat} (h : ci a = ci b) : a = b := by
  unfold ci at h
  omega
theorem nv_ints (ns : List Nat) : ns.map nv = (ns.map ci).map V.int := by
  rw [List.map_map]
  rfl
theorem strict_int {ns : List Int} (hs : ns.Pairwise (· ≤ ·)) (hn : ns.Nodup) : ns.Pairwise (· < ·) :=
  (hs.and hn).imp fun {a b} h => by
    have h1 := h.1
    have h2 := h.2
    omega
theorem int_asym (a b : Int) (h : a < b) : ¬ b < a := by omega
theorem cast_inc {ns : List Nat} (h : ns.Pairwise (· < ·)) : (ns.map ci).Pairwise (· < ·) := by
  rw [List.pairwise_map]
  exact h.imp fun {a b} h => by
    unfold ci
    omega
theorem nodup_cast {ns : List Nat} (h : ns.Nodup) : (ns.map ci).Nodup :=
  List.pairwise_map.mpr (h.imp fun {a b} h z => h (ci_inj z))
theorem sorted_range {L : List Nat} {n : Nat} (hL : L.Perm (List.range n)) {ns' : List Int} (hp : ns'.Perm (L.map ci)) (hs : ns'.Pairwise (· ≤ ·)) : ns' = (List.range n).map ci := by
  refine srt_unique (lt := (· < ·)) int_asym (strict_int hs (hp.nodup_iff.mpr (nodup_cast (pi_nd hL)))) (cast_inc (range_inc n)) fun x => ?_
  rw [hp.mem_iff, (hL.map _).mem_iff]
theorem sorted_pi {fs L : List Nat} {n : Nat} (hL : L.Perm (List.range n)) (inc : fs.Pairwise (· < ·)) (bd : ∀ r ∈ fs, r < n) {ns' : List Int} (hp : ns'.Perm ((fs.map (piN L)).map ci)) (hs : ns'.Pairwise (· ≤ ·)) :
    ns' = ((List.range n).filter fun r => (fs.map (piN L)).contains r).map ci := by
  have nd : (fs.map (piN L)).Nodup := by
    refine List.pairwise_map.mpr (List.Pairwise.imp_of_mem (fun {a b} ha hb h z => ?_) inc)
    have := pi_inj hL (bd a ha) (bd b hb) z
    omega
  refine srt_unique (lt := (· < ·)) int_asym (strict_int hs (hp.nodup_iff.mpr (nodup_cast nd))) (cast_inc ((range_inc n).sublist List.filter_sublist)) fun x => ?_
  rw [hp.mem_iff]
  constructor
  · intro h
    obtain ⟨r, hr, e⟩ := List.mem_map.mp h
    refine List.mem_map.mpr ⟨r, List.mem_filter.mpr ⟨?_, List.contains_iff_mem.mpr hr⟩, e⟩
    obtain ⟨r', hr', e'⟩ := List.mem_map.mp hr
    rw [← e']
    exact List.mem_range.mpr (pi_lt hL (bd r' hr'))
  · intro h
    obtain ⟨r, hr, e⟩ := List.mem_map.mp h
    exact List.mem_map.mpr ⟨r, List.contains_iff_mem.mp (List.mem_filter.mp hr).2, e⟩
section
variable {P : Program} {w : World} {K : PySem.W.Frag} {mg : Str → Option Value} {base : Heap}
def sp_called : Sp := fun vs H Q _ => ∃ (v : V) (m : Mach) (t fa la sa b : Addr) (L : List Nat), vs = [v, .ref b] ∧ MacAt H v m t fa la sa ∧ MOk m ∧ IntsAt H b L ∧ L.Perm (List.range m.many) ∧
  ∀ H' v' t' fa' la' sa', Same H H' → MacAt H' v' (callM m L) t' fa' la' sa' → Q v' H'
theorem cl_called (T : Txt mg) (F : Has K mg "called" s_called) (CL : Cal P w K mg base 5 "look_at" ["thing"] sp_look_at) (C : Cal P w K mg base 2 "is_within" ["thing", "least", "most"] sp_is_within) : Cal P w K mg base 6 "called" ["machine", "rooms"] sp_called := by
  refine cal_mk F s_called_sc (fun _ _ _ _ _ _ us hl => match us, hl with | [_, _], _ => rfl) (fun vs H Q E h => ?_) (fun f cdv A outer s H vs Q E hr h => ?_)
  · obtain ⟨_, _, _, _, _, _, _, _, rfl, _⟩ := h
    rfl
  · obtain ⟨v, m, t, fa, la, sa, b, L, rfl, M, ok, hB, hL, q⟩ := h
    have nd := s_called_sc.nd
    have ev := M.v
    subst ev
    have top := ok.top
    have lenL := pi_len hL
    have inL : ∀ r, r < m.many → (L.map nv)[r]? = some (nv (piN L r)) := fun r h => by
      rw [List.getElem?_map, pi_at hL h]
      rfl
    refine ⟨_, pss_cons (ps_expr (pe_cal CL hr (pa_cons (pv 0) pa_nil)))
      (pss_cons (ps_asg (pv 0) (pg_tup rfl (pgs_cons (pg_name (i := 2) nd rfl (.inr rfl)) (pgs_cons (pg_name (i := 3) nd rfl (.inl rfl)) (pgs_cons (pg_name (i := 4) nd rfl (.inl rfl)) (pgs_cons (pg_name (i := 5) nd rfl (.inl rfl)) pgs_nil))))))
      (pss_cons (ps_if (PW.pt (pw_or (pt_not (pt_val (pe_callB call_isi (by rfl) T.isinstance (by decide +kernel) (pa_cons (pv 1) (pa_cons (pe_bltn (v := .ty "list") (by rfl) T.list (by decide +kernel) rfl) pa_nil)))))
        (pw_or1 (pt_not (pt_val (pe_callB (cr_all rfl) (by rfl) T.all (by decide +kernel) (pa_cons (pe_lc (own := [("room", 7)]) (g := gName 7) (tt := tYes) rfl nd (pi_list (pv 1)) (blkOk_by (N := s_called_N) (sc := defScope s_called) (by decide +kernel))
          (fun _ _ _ _ _ => pg_name (i := 7) nd rfl (.inl rfl)) (fun _ _ _ _ _ => pts_nil) (fun _ _ _ _ _ => pe_cal (C.mono (by decide)) hr (pa_cons (pv 7) (pa_cons pe_int (pa_cons (pe_op op_sub (pv 2) pe_int) pa_nil))))) pa_nil))))))) (pss_one ps_never) pss_nil)
      (pss_cons (ps_if (pt_cmpR (op_neD hr.units) (pe_callB cr_sorted (by rfl) T.sorted (by decide +kernel) (pa_cons (pv 1) pa_nil)) (pe_listRg rfl (by rfl) T.list (prg_1 (by rfl) T.range (pv 2))) (nomark _)) (pss_one ps_never) pss_nil)
      (pss_cons (ps_setLc (i := 6) (own := [("one", 8), ("sign", 9), ("other", 10)]) (g := gTup K 3 (gCons (gName 8) (gCons (gName 9) (gCons (gName 10) gNil)))) (tt := tYes) rfl nd rfl rfl (sw_true rfl rfl rfl (by decide +kernel)) (pi_list (pv 5)) (blkOk_by (N := s_called_N) (sc := defScope s_called) (by decide +kernel))
          (fun _ _ _ _ _ => pg_tup rfl (pgs_cons (pg_name (i := 8) nd rfl (.inl rfl)) (pgs_cons (pg_name (i := 9) nd rfl (.inl rfl)) (pgs_cons (pg_name (i := 10) nd rfl (.inl rfl)) pgs_nil)))) (fun _ _ _ _ _ => pts_nil)
          (fun _ _ _ _ _ => pe_tup (pa_cons (pe_ix (r := rIxL K) ix_list (pv 1) (pv 8) (fun _ _ => rfl)) (pa_cons (pv 9) (pa_cons (pe_ix (r := rIxL K) ix_list (pv 1) (pv 10) (fun _ _ => rfl)) pa_nil)))))
      (pss_one (ps_ret (pe_tup (pa_cons (pv 2)
        (pa_cons (pe_callB cr_sorted (by rfl) T.sorted (by decide +kernel) (pa_cons (pe_lc (own := [("room", 7)]) (g := gName 7) (tt := tYes) rfl nd (pi_list (pv 3)) (blkOk_by (N := s_called_N) (sc := defScope s_called) (by decide +kernel))
          (fun _ _ _ _ _ => pg_name (i := 7) nd rfl (.inl rfl)) (fun _ _ _ _ _ => pts_nil) (fun _ _ _ _ _ => pe_ix (r := rIxL K) ix_list (pv 1) (pv 7) (fun _ _ => rfl))) pa_nil))
        (pa_cons (pe_callB cr_sorted (by rfl) T.sorted (by decide +kernel) (pa_cons (pe_lc (own := [("room", 7)]) (g := gName 7) (tt := tYes) rfl nd (pi_list (pv 4)) (blkOk_by (N := s_called_N) (sc := defScope s_called) (by decide +kernel))
          (fun _ _ _ _ _ => pg_name (i := 7) nd rfl (.inl rfl)) (fun _ _ _ _ _ => pts_nil) (fun _ _ _ _ _ => pe_ix (r := rIxL K) ix_list (pv 1) (pv 7) (fun _ _ => rfl))) pa_nil))
        (pa_cons (pv 6) pa_nil))))))))))), ?_⟩
    refine ⟨_, rfl, _, m, t, fa, la, sa, rfl, M, ok, fun H1 s1 => ?_⟩
    refine ⟨_, rfl, t, _, rfl, .inl (.inl (s1 _ _ M.t)), rfl, _, _, rfl, _, _, rfl, _, _, rfl, _, _, rfl, rfl, ?_⟩
    have hB1 : IntsAt H1 b L := s1 _ _ hB
    refine ⟨_, rfl, _, _, _, _, true, rfl, .ty "list", .base (.lst hB1), kit_ty (by decide +kernel), true, rfl, iteF ?_⟩
    -- all([..])
    refine ⟨_, rfl, b, rfl, ⟨_, nv_sq hB1⟩, fun D hD => ?_⟩
    refine lc_map (R := fun _ x (z : Bool) => x = .bl z) grow_same (fun _ _ _ _ _ h => h) (lr_nv H1 L) (fun _ => true) (small1000 (by omega)) hD (fun H' sm => sm.seq (nv_sq hB1)) (fun i x y H4 Ka ey ry sm ka => ?_) (fun H2 acc s2 hA lr => ?_) (mono_name 7)
    · have hy : y < m.many := List.mem_range.mp (hL.mem_iff.mp (List.mem_of_getElem? ey))
      subst ry
      refine ⟨rfl, _, rfl, _, rfl, m.many, 1, rfl, rfl, y, 0, (m.many : Int) - 1, rfl, ?_⟩
      refine ka _ _ ?_ (Same.refl _)
      have e : (decide ((0 : Int) ≤ (y : Int)) && decide ((y : Int) ≤ (m.many : Int) - 1)) = true := by
        rw [Bool.and_eq_true, decide_eq_true_iff, decide_eq_true_iff]
        omega
      rw [e]
    have eacc := LR.eq_map (g := V.bl) lr
    refine ⟨D, L.map fun _ => true, rfl, .inl (.inl (by rw [hA, eacc])), ?_⟩
    have eall : (L.map fun _ => true).all id = true := by
      rw [List.all_map, List.all_eq_true]
      intro x _
      rfl
    rw [eall]
    refine ⟨true, rfl, iteF ?_⟩
    -- sorted(rooms) != list(range(many))
    have hB2 : IntsAt H2 b L := s2 _ _ hB1
    refine ⟨_, rfl, b, L.map ci, rfl, .inl (.inl (by rw [← nv_ints]; exact hB2)), by rw [List.length_map]; omega, fun ns' p3 hp hs n3 => ?_⟩
    have e3 := sorted_range hL hp hs
    subst e3
    refine ⟨_, rfl, m.many, rfl, RgOk.of_le (by omega) (by omega) (by omega) (by omega), fun p4 n4 => ?_⟩
    have s4 := s2.trans ((same_new (o := .lst (((List.range m.many).map ci).map V.int)) n3).trans (same_new (o := .lst (rgV 0 m.many)) n4))
    have i3 : IntsAt (upd (upd H2 p3 (.lst (((List.range m.many).map ci).map V.int))) p4 (.lst (rgV 0 m.many))) p3 (List.range m.many) := by
      show upd _ _ _ _ = _
      rw [upd_ne (fun z => by rw [← z, upd_same] at n4; cases n4), upd_same, nv_ints]
    have i4 : IntsAt (upd (upd H2 p3 (.lst (((List.range m.many).map ci).map V.int))) p4 (.lst (rgV 0 m.many))) p4 (List.range m.many) := by
      show upd _ _ _ _ = _
      rw [upd_same]
      unfold rgV
      have e5 : ((m.many : Int) - 0).toNat = m.many := by omega
      rw [e5]
      refine congrArg (fun l => some (HO.lst l)) (List.map_congr_left fun j _ => ?_)
      show V.int (0 + (j : Int)) = V.int (j : Int)
      rw [Int.zero_add]
    generalize upd (upd H2 p3 (.lst (((List.range m.many).map ci).map V.int))) p4 (.lst (rgV 0 m.many)) = H4 at s4 i3 i4 ⊢
    refine ⟨_, _, dp_ints i3, dp_ints i4, (fit_ints _).shaped, (fit_ints _).shaped, ?_⟩
    rw [(fit_ints _).refl]
    refine ⟨false, rfl, iteF ?_⟩
    -- told
    have s14 := s1.trans s4
    obtain ⟨xs, hx, lrs⟩ := M.sa
    refine ⟨_, rfl, sa, rfl, ⟨xs, .inl (.inl (s14 _ _ hx))⟩, fun D5 n5 => ?_⟩
    refine lc_map (R := RS) grow_same (fun _ _ _ _ e h => h.mono e) lrs (fun t => (piN L t.1, t.2.1, piN L t.2.2)) (small1000 (by have := ok.sl; omega)) n5 (fun H' sm => .inl (.inl (sm _ _ (s14 _ _ hx)))) (fun i x y H6 Ka ey ry sm ka => ?_) (fun H6 acc6 s6 hA6 lr6 => ?_)
      (mono_tup (mono_cons (mono_name 8) (mono_cons (mono_name 9) (mono_cons (mono_name 10) mono_nil))))
    · obtain ⟨a, rfl, ha⟩ := ry
      have bd := ok.sb y (List.mem_of_getElem? ey)
      refine ⟨a, _, rfl, .inl (.inl (sm _ _ (s14 _ _ ha))), rfl, _, _, rfl, _, _, rfl, _, _, rfl, rfl, rfl, ?_⟩
      refine ⟨_, rfl, _, rfl, b, _, y.1, _, rfl, rfl, .inl (.inl (sm _ _ (s4 _ _ hB1))), atI_nat (inL _ bd.1), ?_⟩
      refine ⟨_, rfl, _, rfl, _, rfl, b, _, y.2.2, _, rfl, rfl, .inl (.inl (sm _ _ (s4 _ _ hB1))), atI_nat (inL _ bd.2.2), ?_⟩
      refine ⟨by show 3 ≤ sizeLine; decide, fun p np => ?_⟩
      exact ka _ _ ⟨p, rfl, upd_same⟩ (same_new np)
    -- the firsts
    have s16 := s14.trans s6
    have sB6 : IntsAt H6 b L := s6 _ _ (s4 _ _ hB1)
    have one : ∀ (fs : List Nat) (a : Addr) (Hx : Hp) (Ka : V → Hp → Prop), fs.Pairwise (· < ·) → (∀ r ∈ fs, r < m.many) → Same H6 Hx → IntsAt Hx a fs →
        (∀ Hy p, Same Hx Hy → IntsAt Hy p ((List.range m.many).filter fun r => (fs.map (piN L)).contains r) → Ka (.ref p) Hy) → True := fun _ _ _ _ _ _ _ _ _ => trivial
    refine ⟨_, rfl, _, rfl, fa, rfl, ⟨_, nv_sq (show IntsAt H6 fa m.firsts from s16 _ _ M.fa)⟩, fun D7 n7 => ?_⟩
    have lf : m.firsts.length ≤ 12 := by
      have h1 : m.firsts.Sublist m.firsts := List.Sublist.refl _
      have h2 := List.Nodup.length_le_of_subset (l₂ := List.range m.many) (ok.fi.imp fun {a b} h => Nat.ne_of_lt h) fun r hr => List.mem_range.mpr (ok.fb r hr)
      rw [List.length_range] at h2
      omega
    have ll : m.lasts.length ≤ 12 := by
      have h2 := List.Nodup.length_le_of_subset (l₂ := List.range m.many) (ok.li.imp fun {a b} h => Nat.ne_of_lt h) fun r hr => List.mem_range.mpr (ok.lb r hr)
      rw [List.length_range] at h2
      omega
    refine lc_map (R := fun _ x (n : Nat) => x = nv n) grow_same (fun _ _ _ _ _ h => h) (lr_nv H6 m.firsts) (piN L) (small1000 (by omega)) n7 (fun H' sm => sm.seq (nv_sq (show IntsAt H6 fa m.firsts from s16 _ _ M.fa))) (fun i x y H8 Ka ey ry sm ka => ?_) (fun H8 acc8 s8 hA8 lr8 => ?_) (mono_name 7)
    · subst ry
      refine ⟨rfl, _, rfl, _, rfl, b, _, y, _, rfl, rfl, .inl (.inl (sm _ _ sB6)), atI_nat (inL _ (ok.fb y (List.mem_of_getElem? ey))), ?_⟩
      exact ka _ _ rfl (Same.refl _)
    have e8 := LR.eq_map (g := nv) lr8
    refine ⟨D7, (m.firsts.map (piN L)).map ci, rfl, .inl (.inl (by rw [hA8, e8, nv_ints])), by rw [List.length_map, List.length_map]; omega, fun ns9 p9 hp9 hs9 n9 => ?_⟩
    have e9 := sorted_pi hL ok.fi ok.fb hp9 hs9
    subst e9
    rw [← nv_ints]
    have s9 := s8.trans (same_new (o := .lst (((List.range m.many).filter fun r => (m.firsts.map (piN L)).contains r).map nv)) n9)
    have i9 : IntsAt (upd H8 p9 (.lst (((List.range m.many).filter fun r => (m.firsts.map (piN L)).contains r).map nv))) p9 (callM m L).firsts := upd_same
    generalize upd H8 p9 (.lst (((List.range m.many).filter fun r => (m.firsts.map (piN L)).contains r).map nv)) = H9 at s9 i9 ⊢
    have s19 := s16.trans s9
    -- the lasts
    refine ⟨_, rfl, la, rfl, ⟨_, nv_sq (show IntsAt H9 la m.lasts from s19 _ _ M.la)⟩, fun Da na => ?_⟩
    refine lc_map (R := fun _ x (n : Nat) => x = nv n) grow_same (fun _ _ _ _ _ h => h) (lr_nv H9 m.lasts) (piN L) (small1000 (by omega)) na (fun H' sm => sm.seq (nv_sq (show IntsAt H9 la m.lasts from s19 _ _ M.la))) (fun i x y Hb Ka ey ry sm ka => ?_) (fun Hb accb sb hAb lrb => ?_) (mono_name 7)
    · subst ry
      refine ⟨rfl, _, rfl, _, rfl, b, _, y, _, rfl, rfl, .inl (.inl (sm _ _ (s9 _ _ sB6))), atI_nat (inL _ (ok.lb y (List.mem_of_getElem? ey))), ?_⟩
      exact ka _ _ rfl (Same.refl _)
    have eb := LR.eq_map (g := nv) lrb
    refine ⟨Da, (m.lasts.map (piN L)).map ci, rfl, .inl (.inl (by rw [hAb, eb, nv_ints])), by rw [List.length_map, List.length_map]; omega, fun nsc pc hpc hsc nc => ?_⟩
    have ec := sorted_pi hL ok.li ok.lb hpc hsc
    subst ec
    rw [← nv_ints]
    have sc := sb.trans (same_new (o := .lst (((List.range m.many).filter fun r => (m.lasts.map (piN L)).contains r).map nv)) nc)
    have ic : IntsAt (upd Hb pc (.lst (((List.range m.many).filter fun r => (m.lasts.map (piN L)).contains r).map nv))) pc (callM m L).lasts := upd_same
    generalize upd Hb pc (.lst (((List.range m.many).filter fun r => (m.lasts.map (piN L)).contains r).map nv)) = Hc at sc ic ⊢
    refine ⟨_, rfl, by show 4 ≤ sizeLine; decide, fun pd nd' => ?_⟩
    have sd := same_new (o := .tup [nv m.many, .ref p9, .ref pc, .ref D5]) nd'
    have s6d := s9.trans (sc.trans sd)
    refine q _ _ pd p9 pc D5 (s19.trans (sc.trans sd)) ⟨rfl, upd_same, ?_, sd _ _ ic, ⟨acc6, s6d _ _ hA6, lr6.mono fun x y k => k.mono (Same.tups s6d)⟩⟩
    exact sd _ _ (sc _ _ i9)
end
end K44

set_option Elab.async false
set_option linter.all false
set_option maxRecDepth 100000
set_option maxHeartbeats 4000000
namespace K44
open PySem PySem.Spec PyProof.Rows L2
/-! ### come_to -/
/-- a pair of rooms -/
def RP (H : Hp) (x : V) (p : Nat × Nat) : Prop := ∃ a, x = .ref a ∧ H a = some (.tup [nv p.1, nv p.2])
theorem RP.mono {H H' : Hp} {x : V} {p : Nat × Nat} (h : RP H x p) (e : Tups H H') : RP H' x p := by
  obtain ⟨a, h1, h2⟩ := h
  exact ⟨a, h1, e _ _ h2⟩
def PairsAt (H : Hp) (a : Addr) (l : List (Nat × Nat)) : Prop := ∃ xs, H a = some (.lst xs) ∧ LR RP H xs l
theorem PairsAt.mono {H H' : Hp} {a : Addr} {l : List (Nat × Nat)} (h : PairsAt H a l) (e : Same H H') : PairsAt H' a l := by
  obtain ⟨xs, h1, h2⟩ := h
  exact ⟨xs, e _ _ h1, h2.mono fun x y k => k.mono (Same.tups e)⟩
def foundK (fs : List Nat) : List (Key × V) := fs.map fun (x : Nat) => ((Sum.inl (x : Int) : Key), V.bl true)
theorem found_val (x : Nat) : ∀ fs : List Nat, valV (foundK fs) (Sum.inl (x : Int) : Key) = if x ∈ fs then some (.bl true) else none
  | [] => rfl
  | y :: fs => by
    have ih := found_val x fs
    by_cases e : y = x
    · subst e
      rw [if_pos List.mem_cons_self]
      exact valV_pos (p := ((Sum.inl (y : Int) : Key), V.bl true)) rfl
    · have e1 : ¬ (Sum.inl (y : Int) : Key) = Sum.inl (x : Int) := fun z => e (by injection z with z; omega)
      show valV (((Sum.inl (y : Int) : Key), V.bl true) :: foundK fs) _ = _
      rw [valV_neg e1, ih]
      by_cases h : x ∈ fs
      · rw [if_pos h, if_pos (List.mem_cons_of_mem _ h)]
      · rw [if_neg h, if_neg (fun z => (List.mem_cons.mp z).elim (fun z => e z.symm) h)]
structure CInv (es : List (Nat × Nat)) (rs fs ws : List Nat) : Prop where
  frm : ∀ x, x ∈ fs ∨ x ∈ ws → From es rs x
  has : ∀ x ∈ rs, x ∈ fs ∨ x ∈ ws
  cl : ∀ x ∈ fs, ∀ y, (x, y) ∈ es → y ∈ fs ∨ y ∈ ws
  nd : fs.Nodup
  bd : ∀ x, x ∈ fs ∨ x ∈ ws → x < 12
  len : ws.length ≤ 12 + 200 * fs.length
theorem CInv.few {es : List (Nat × Nat)} {rs fs ws : List Nat} (c : CInv es rs fs ws) : fs.length ≤ 12 := by
  have h := List.Nodup.length_le_of_subset (l₂ := List.range 12) c.nd fun r hr => List.mem_range.mpr (c.bd r (.inl hr))
  rw [List.length_range] at h
  exact h
theorem CInv.done {es : List (Nat × Nat)} {rs fs : List Nat} (c : CInv es rs fs []) (x : Nat) : x ∈ fs ↔ From es rs x := by
  constructor
  · intro h
    exact c.frm x (.inl h)
  · rintro ⟨r, hr, k⟩
    induction k with
    | refl =>
      rcases c.has _ hr with h | h
      · exact h
      · cases h
    | step _ e ih =>
      rcases c.cl _ ih _ e with h | h
      · exact h
      · cases h
theorem CInv.old {es : List (Nat × Nat)} {rs fs ws : List Nat} {x : Nat} (c : CInv es rs fs (ws ++ [x])) (h : x ∈ fs) : CInv es rs fs ws := by
  have key : ∀ y, y ∈ fs ∨ y ∈ ws ++ [x] → y ∈ fs ∨ y ∈ ws := fun y hy => by
    rcases hy with hy | hy
    · exact .inl hy
    · rcases List.mem_append.mp hy with hy | hy
      · exact .inr hy
      · rw [List.mem_singleton.mp hy]
        exact .inl h
  have up : ∀ y, y ∈ fs ∨ y ∈ ws → y ∈ fs ∨ y ∈ ws ++ [x] := fun y hy => hy.imp id fun z => List.mem_append_left _ z
  refine ⟨fun y hy => c.frm y (up y hy), fun y hy => key y (c.has y hy), fun y hy z hz => key z (c.cl y hy z hz), c.nd, fun y hy => c.bd y (up y hy), ?_⟩
  have := c.len
  rw [List.length_append] at this
  omega
theorem CInv.new {es : List (Nat × Nat)} {rs fs ws ts : List Nat} {x : Nat} (c : CInv es rs fs (ws ++ [x])) (h : x ∉ fs) (ht : ∀ y, y ∈ ts ↔ (x, y) ∈ es) (hb : ∀ p ∈ es, p.2 < 12) (hl : ts.length ≤ 200) : CInv es rs (fs ++ [x]) (ws ++ ts) := by
  have key : ∀ y, y ∈ fs ∨ y ∈ ws ++ [x] → y ∈ fs ++ [x] ∨ y ∈ ws ++ ts := fun y hy => by
    rcases hy with hy | hy
    · exact .inl (List.mem_append_left _ hy)
    · rcases List.mem_append.mp hy with hy | hy
      · exact .inr (List.mem_append_left _ hy)
      · exact .inl (List.mem_append_right _ hy)
  have hx : From es rs x := c.frm x (.inr (List.mem_append_right _ (List.mem_singleton.mpr rfl)))
  have fx : ∀ y, (x, y) ∈ es → From es rs y := fun y hy => by
    obtain ⟨r, hr, k⟩ := hx
    exact ⟨r, hr, k.step hy⟩
  have down : ∀ y, y ∈ fs ++ [x] ∨ y ∈ ws ++ ts → (y ∈ fs ∨ y ∈ ws ++ [x]) ∨ (x, y) ∈ es := fun y hy => by
    rcases hy with hy | hy
    · rcases List.mem_append.mp hy with hy | hy
      · exact .inl (.inl hy)
      · exact .inl (.inr (List.mem_append_right _ hy))
    · rcases List.mem_append.mp hy with hy | hy
      · exact .inl (.inr (List.mem_append_left _ hy))
      · exact .inr ((ht y).mp hy)
  refine ⟨fun y hy => (down y hy).elim (c.frm y) (fx y), fun y hy => key y (c.has y hy), fun y hy z hz => ?_, nd_snoc c.nd h, fun y hy => (down y hy).elim (c.bd y) fun e => hb _ e, ?_⟩
  · rcases List.mem_append.mp hy with hy | hy
    · exact key z (c.cl y hy z hz)
    · rw [List.mem_singleton.mp hy] at hz
      exact .inr (List.mem_append_right _ ((ht z).mpr hz))
  · have := c.len
    rw [List.length_append] at this
    rw [List.length_append, List.length_append]
    simp only [List.length_cons, List.length_nil] at *
    omega
theorem eqv_nil (f : Nat → PyData) : ∀ ws : List Nat, PyData.eqv (.list (ws.map f)) (.list []) = ws.isEmpty
  | [] => by simp [PyData.eqv, PyData.eqvAll]
  | _ :: _ => by simp [PyData.eqv, PyData.eqvAll]
section
variable {P : Program} {w : World} {K : PySem.W.Frag} {mg : Str → Option Value} {base : Heap}
def sp_come_to : Sp := fun vs H Q _ => ∃ (a b : Addr) (es : List (Nat × Nat)) (rs : List Nat), vs = [.ref a, .ref b] ∧ PairsAt H a es ∧ IntsAt H b rs ∧ es.length ≤ 200 ∧ (∀ p ∈ es, p.1 < 12 ∧ p.2 < 12) ∧ rs.length ≤ 12 ∧ (∀ r ∈ rs, r < 12) ∧
  ∀ H' d fs, Same H H' → H d = none → H' d = some (.dK (foundK fs)) → (∀ x, x ∈ fs ↔ From es rs x) → Q (.ref d) H'
theorem cl_come_to (T : Txt mg) (F : Has K mg "come_to" s_come_to) : Cal P w K mg base 1 "come_to" ["steps", "rooms"] sp_come_to := by
  refine cal_mk F s_come_to_sc (fun _ _ _ _ _ _ us hl => match us, hl with | [_, _], _ => rfl) (fun vs H Q E h => ?_) (fun f cdv A outer s H vs Q E hr h => ?_)
  · obtain ⟨_, _, _, _, rfl, _⟩ := h
    rfl
  · obtain ⟨a, b, es, rs, rfl, hE, hR, le, be, lr, br, q⟩ := h
    have nd := s_come_to_sc.nd
    have hu := hu_of hr
    refine ⟨_, pss_cons (ps_set (i := 2) nd rfl (.inl rfl) pe_dnewK)
      (pss_cons (ps_set (i := 3) nd rfl (.inl rfl) (pe_callTy call_list_of (by rfl) T.list (by decide +kernel) (pa_cons (pv 1) pa_nil)))
      (pss_cons (ps_while PassesOwn.never (pt_cmpR (op_neD hr.units) (pv 3) (pe_lst pa_nil) (nomark _))
        (pss_cons (ps_set (i := 4) nd rfl (.inr rfl) (pe_bm0 PySem.F.plainAttrs_list PySem.F.slot_list_pop PySem.F.type_list_pop mt_pop (pv 3)))
        (pss_one (ps_if (pt_cmp (pc_dnotin hu (pv 4) (pv 2)))
          (pss_cons (ps_dput hu (pv 2) (pv 4) pe_bl rfl)
          (pss_one (ps_expr (pe_bm PySem.F.plainAttrs_list PySem.F.slot_list_extend PySem.F.type_list_extend mt_extend (pv 3) (pa_cons
            (pe_lc (own := [("here", 5), ("to", 6)]) (g := gTup K 2 (gCons (gName 5) (gCons (gName 6) gNil))) rfl nd (pi_list (pv 0)) (blkOk_by (N := s_come_to_N) (sc := defScope s_come_to) (by decide +kernel))
              (fun _ _ _ _ _ => pg_tup rfl (pgs_cons (pg_name (i := 5) nd rfl (.inl rfl)) (pgs_cons (pg_name (i := 6) nd rfl (.inl rfl)) pgs_nil))) (fun _ _ _ _ _ => pts_one (pt_cmpR op_eq (pv 5) (pv 4) (nomark _)))
              (fun _ _ _ _ _ => pv 6)) pa_nil))))) pss_nil))))
      (pss_one (ps_ret (pv 2))))), ?_⟩
    intro d hd
    have s1 : Same H (upd H d (.dK [])) := same_new hd
    refine ⟨_, rfl, b, _, rfl, .inl (s1.seq (nv_sq hR)), fun p hp => ?_⟩
    have s2 := s1.trans (same_new (o := .lst (rs.map nv)) hp)
    have np : H p = none := s1.free hp
    refine ⟨fun μ σ H' => ∃ fs ws y4 y5 y6, μ = ws.length + (12 - fs.length) * 201 ∧ σ = [some (.ref a), some (.ref b), some (.ref d), some (.ref p), y4, y5, y6] ∧ Same H H' ∧ H' d = some (.dK (foundK fs)) ∧ IntsAt H' p ws ∧ CInv es rs fs ws,
      ⟨_, [], rs, _, _, _, rfl, rfl, s2, ?_, upd_same, ?_⟩, fun μ σ H' hW => ?_⟩
    · rw [upd_ne (fun z => by rw [← z, upd_same] at hp; cases hp), upd_same]
      rfl
    · exact ⟨fun x hx => hx.elim (fun z => by cases z) fun z => ⟨x, z, .refl x⟩, fun x hx => .inr hx, fun x hx => by (cases hx), List.nodup_nil, fun x hx => hx.elim (fun z => by cases z) (br x), by simp; omega⟩
    · obtain ⟨fs, ws, y4, y5, y6, rfl, rfl, sm, hF, hP, c⟩ := hW
      refine ⟨_, rfl, Nat.zero_le _, fun z hz => ?_⟩
      have sz := same_new (o := .lst []) hz
      refine ⟨_, _, dp_ints (show IntsAt (upd H' z (.lst [])) p ws from sz _ _ hP), dp_ints (ns := []) (show IntsAt (upd H' z (.lst [])) z [] from upd_same), (fit_ints _).shaped, (fit_ints []).shaped, ?_⟩
      rw [show (([] : List Nat).map dN) = [] from rfl, eqv_nil]
      have smz := sm.trans sz
      have hFz : (upd H' z (.lst [])) d = some (.dK (foundK fs)) := sz _ _ hF
      have hPz : (upd H' z (.lst [])) p = some (.lst (ws.map nv)) := sz _ _ hP
      generalize upd H' z (.lst []) = H1 at smz hFz hPz ⊢
      cases hw : ws.isEmpty with
      | true =>
        have e0 : ws = [] := List.isEmpty_iff.mp hw
        subst e0
        refine ⟨false, rfl, iteF ?_⟩
        exact ⟨_, rfl, q H1 d fs smz hd hFz c.done⟩
      | false =>
        refine ⟨true, rfl, iteT ?_⟩
        have ne : ws ≠ [] := fun z => by
          rw [z] at hw
          cases hw
        obtain ⟨ws', x, rfl⟩ : ∃ ws' x, ws = ws' ++ [x] := ⟨ws.dropLast, ws.getLast ne, (List.dropLast_concat_getLast ne).symm⟩
        rw [List.map_append] at hPz
        have npd : p ≠ d := ne_of hPz hFz (by intro z; cases z)
        refine ⟨fun σ' H2 => ∃ μ', μ' < (ws' ++ [x]).length + (12 - fs.length) * 201 ∧ ∃ fs ws y4 y5 y6, μ' = ws.length + (12 - fs.length) * 201 ∧ σ' = [some (.ref a), some (.ref b), some (.ref d), some (.ref p), y4, y5, y6] ∧ Same H H2 ∧ H2 d = some (.dK (foundK fs)) ∧ IntsAt H2 p ws ∧ CInv es rs fs ws,
          fun σ' H2 h => h, ?_⟩
        refine ⟨_, rfl, .inl ⟨rfl, _, .inl (.inl hPz)⟩, p, ws'.map nv ++ [nv x], nv x, rfl, rfl, hPz, ?_, ?_⟩
        · rw [List.length_append]
          show (ws'.map nv ++ [nv x])[(ws'.map nv).length + 1 - 1]? = some (nv x)
          rw [Nat.add_sub_cancel, List.getElem?_append_right (Nat.le_refl _), Nat.sub_self]
          rfl
        have ed : (ws'.map nv ++ [nv x]).dropLast = ws'.map nv := List.dropLast_concat
        show _
        have s3 : Same H (upd H1 p (.lst ((ws'.map nv ++ [nv x]).dropLast))) := same_upd smz np
        have hP3 : (upd H1 p (.lst ((ws'.map nv ++ [nv x]).dropLast))) p = some (.lst (ws'.map nv)) := by rw [upd_same, ed]
        have hF3 : (upd H1 p (.lst ((ws'.map nv ++ [nv x]).dropLast))) d = some (.dK (foundK fs)) := by
          rw [upd_ne (Ne.symm npd)]
          exact hFz
        generalize upd H1 p (.lst ((ws'.map nv ++ [nv x]).dropLast)) = H3 at s3 hP3 hF3 ⊢
        refine ⟨_, rfl, _, rfl, d, _, rfl, DGet.k (k := Sum.inl (x : Int)) hF3, ?_⟩
        rw [found_val]
        by_cases hx : x ∈ fs
        · rw [if_pos hx]
          refine ⟨false, rfl, iteF ?_⟩
          refine ⟨_, ?_, fs, ws', _, _, _, rfl, rfl, s3, hF3, hP3, c.old hx⟩
          rw [List.length_append]
          simp only [List.length_cons, List.length_nil]
          omega
        · rw [if_neg hx]
          refine ⟨true, rfl, iteT ?_⟩
          have few := c.few
          refine ⟨_, rfl, _, rfl, d, _, rfl, DPut.k (k := Sum.inl (x : Int)) hF3 ?_, ?_⟩
          · show (foundK fs).length < sizeLine
            unfold foundK
            rw [List.length_map]
            exact small1000 (by omega)
          have vn : valV (foundK fs) (Sum.inl (x : Int) : Key) = none := by rw [found_val, if_neg hx]
          have s4 : Same H (upd H3 d (.dK (putK (foundK fs) (Sum.inl (x : Int)) (.bl true)))) := same_upd s3 hd
          have hP4 : (upd H3 d (.dK (putK (foundK fs) (Sum.inl (x : Int)) (.bl true)))) p = some (.lst (ws'.map nv)) := by
            rw [upd_ne npd]
            exact hP3
          have hF4 : (upd H3 d (.dK (putK (foundK fs) (Sum.inl (x : Int)) (.bl true)))) d = some (.dK (foundK (fs ++ [x]))) := by
            rw [upd_same, putK_new _ vn]
            unfold foundK
            rw [List.map_append]
            rfl
          generalize upd H3 d (.dK (putK (foundK fs) (Sum.inl (x : Int)) (.bl true))) = H4 at s4 hP4 hF4 ⊢
          obtain ⟨xs, hxs, lrx⟩ := hE
          refine ⟨_, rfl, .inl ⟨rfl, _, .inl (.inl hP4)⟩, ?_⟩
          refine ⟨_, rfl, a, rfl, ⟨xs, .inl (.inl (s4 _ _ hxs))⟩, fun D hD => ?_⟩
          refine lc_fm (R := fun _ v (n : Nat) => v = nv n) grow_same (fun _ _ _ _ _ h => h) lrx (fun e => if e.1 = x then some e.2 else none) (small1000 (by omega)) hD (fun H' sm => .inl (.inl (sm _ _ (s4 _ _ hxs)))) (fun i v y H5 Ka Kb ey ry sm ka kb => ?_) (fun H5 acc s5 hA lr5 => ?_)
          · obtain ⟨o, rfl, ho⟩ := ry
            refine ⟨o, _, rfl, .inl (.inl (sm _ _ (s4 _ _ ho))), rfl, _, _, rfl, _, _, rfl, rfl, rfl, ?_⟩
            refine ⟨_, rfl, _, rfl, rfl, _, rfl, ite2 (fun e => ?_) (fun e => ?_)⟩
            · have e1 : y.1 = x := by
                have e2 : (y.1 : Int) = x := V.int.inj (of_decide_eq_true e)
                omega
              exact ⟨_, rfl, ka _ y.2 _ (if_pos e1) rfl (Same.refl _)⟩
            · have e1 : ¬ y.1 = x := fun z => e (decide_eq_true (by rw [z]))
              exact kb _ (if_neg e1) (Same.refl _)
          · have eacc := LR.eq_map (g := nv) lr5
            have hts : ∀ y, y ∈ es.filterMap (fun e => if e.1 = x then some e.2 else none) ↔ (x, y) ∈ es := fun y => by
              rw [List.mem_filterMap]
              constructor
              · rintro ⟨e, h1, h2⟩
                split at h2
                · rename_i h3
                  have h4 : e.2 = y := Option.some.inj h2
                  rw [← h3, ← h4]
                  exact h1
                · cases h2
              · intro h1
                exact ⟨(x, y), h1, if_pos rfl⟩
            have htl : (es.filterMap (fun e => if e.1 = x then some e.2 else none)).length ≤ 200 := Nat.le_trans (List.length_filterMap_le _ _) le
            have c2 := c.new hx hts (fun e he => (be e he).2) htl
            have lw := c2.len
            have few2 := c2.few
            have hP5 : H5 p = some (.lst (ws'.map nv)) := s5 _ _ hP4
            have nDp : D ≠ p := fun z => by
              rw [z] at hD
              rw [hD] at hP4
              cases hP4
            refine ⟨p, D, ws'.map nv, acc, rfl, rfl, hP5, hA, ?_, ?_⟩
            · rw [eacc, List.length_map, List.length_map]
              rw [List.length_append] at lw
              have : ws'.length + (List.filterMap (fun e : Nat × Nat => if e.1 = x then some e.2 else none) es).length ≤ 3000 := by omega
              exact Nat.le_trans this (by decide)
            · refine ⟨_, ?_, fs ++ [x], ws' ++ es.filterMap (fun e => if e.1 = x then some e.2 else none), _, _, _, rfl, rfl, same_upd (s4.trans s5) np, ?_, ?_, c2⟩
              · rw [List.length_append, List.length_append, List.length_append] at *
                simp only [List.length_cons, List.length_nil] at *
                omega
              · rw [upd_ne (Ne.symm npd)]
                exact s5 _ _ hF4
              · show upd _ _ _ _ = _
                rw [upd_same, eacc, List.map_append]
end
end K44

set_option Elab.async false
set_option linter.all false
set_option maxRecDepth 100000
set_option maxHeartbeats 4000000
namespace K44
open PySem PySem.Spec PyProof.Rows L2
theorem few_of {l : List Nat} (h : l.Pairwise (· < ·)) (b : ∀ r ∈ l, r < 12) : l.length ≤ 12 := by
  have h2 := List.Nodup.length_le_of_subset (l₂ := List.range 12) (h.imp fun h => Nat.ne_of_lt h) fun r hr => List.mem_range.mpr (b r hr)
  rw [List.length_range] at h2
  exact h2
theorem MOk.f12 {m : Mach} (ok : MOk m) (r : Nat) (h : r ∈ m.firsts) : r < 12 := Nat.lt_of_lt_of_le (ok.fb r h) ok.top
theorem MOk.l12 {m : Mach} (ok : MOk m) (r : Nat) (h : r ∈ m.lasts) : r < 12 := Nat.lt_of_lt_of_le (ok.lb r h) ok.top
theorem fm_filter {α : Type} (p : α → Prop) [DecidablePred p] : ∀ l : List α, l.filterMap (fun r => if p r then some r else none) = l.filter (fun r => decide (p r))
  | [] => rfl
  | x :: l => by
    by_cases h : p x
    · rw [List.filterMap_cons, if_pos h, List.filter_cons, if_pos (decide_eq_true h)]
      show x :: _ = x :: _
      rw [fm_filter p l]
    · rw [List.filterMap_cons, if_neg h, List.filter_cons, if_neg (by rw [decide_eq_false h]; exact Bool.false_ne_true)]
      exact fm_filter p l
theorem fm_useful (m : Mach) : (List.range m.many).filterMap (fun r => if r ∈ usefulL m then some r else none) = usefulL m := by
  rw [fm_filter (fun r => r ∈ usefulL m)]
  show _ = (List.range m.many).filter _
  refine List.filter_congr fun r hr => ?_
  rw [decide_eq_decide]
  exact ⟨fun z => (mem_useful.mp z).2, fun z => mem_useful.mpr ⟨List.mem_range.mp hr, z⟩⟩
section
variable {P : Program} {w : World} {K : PySem.W.Frag} {mg : Str → Option Value} {base : Heap}
def sp_useful : Sp := fun vs H Q _ => ∃ (v : V) (m : Mach) (t fa la sa : Addr), vs = [v] ∧ MacAt H v m t fa la sa ∧ MOk m ∧ ∀ H' p, Same H H' → H p = none → IntsAt H' p (usefulL m) → Q (.ref p) H'
theorem cl_useful (T : Txt mg) (F : Has K mg "useful" s_useful) (CL : Cal P w K mg base 5 "look_at" ["thing"] sp_look_at) (CC : Cal P w K mg base 1 "come_to" ["steps", "rooms"] sp_come_to) : Cal P w K mg base 6 "useful" ["machine"] sp_useful := by
  refine cal_mk F s_useful_sc (fun _ _ _ _ _ _ us hl => match us, hl with | [_], _ => rfl) (fun vs H Q E h => ?_) (fun f cdv A outer s H vs Q E hr h => ?_)
  · obtain ⟨_, _, _, _, _, _, rfl, _⟩ := h
    rfl
  · obtain ⟨v, m, t, fa, la, sa, rfl, M, ok, q⟩ := h
    have nd := s_useful_sc.nd
    have ev := M.v
    subst ev
    have hu := hu_of hr
    have CC5 := CC.mono (k := 5) (by decide)
    refine ⟨_, pss_cons (ps_expr (pe_cal CL hr (pa_cons (pv 0) pa_nil)))
      (pss_cons (ps_set (i := 1) nd rfl (.inr rfl) (pe_cal CC5 hr (pa_cons
        (pe_lc (own := [("room", 3), ("sign", 4), ("to", 5)]) (g := gTup K 3 (gCons (gName 3) (gCons (gName 4) (gCons (gName 5) gNil)))) (tt := tYes) rfl nd (pi_list (pe_ix ix_tup (pv 0) pe_int (fun _ _ => rfl))) (blkOk_by (N := s_useful_N) (sc := defScope s_useful) (by decide +kernel))
          (fun _ _ _ _ _ => pg_tup rfl (pgs_cons (pg_name (i := 3) nd rfl (.inl rfl)) (pgs_cons (pg_name (i := 4) nd rfl (.inl rfl)) (pgs_cons (pg_name (i := 5) nd rfl (.inl rfl)) pgs_nil)))) (fun _ _ _ _ _ => pts_nil)
          (fun _ _ _ _ _ => pe_tup (pa_cons (pv 3) (pa_cons (pv 5) pa_nil)))) (pa_cons (pe_ix ix_tup (pv 0) pe_int (fun _ _ => rfl)) pa_nil))))
      (pss_cons (ps_set (i := 2) nd rfl (.inr rfl) (pe_cal CC5 hr (pa_cons
        (pe_lc (own := [("room", 3), ("sign", 4), ("to", 5)]) (g := gTup K 3 (gCons (gName 3) (gCons (gName 4) (gCons (gName 5) gNil)))) (tt := tYes) rfl nd (pi_list (pe_ix ix_tup (pv 0) pe_int (fun _ _ => rfl))) (blkOk_by (N := s_useful_N) (sc := defScope s_useful) (by decide +kernel))
          (fun _ _ _ _ _ => pg_tup rfl (pgs_cons (pg_name (i := 3) nd rfl (.inl rfl)) (pgs_cons (pg_name (i := 4) nd rfl (.inl rfl)) (pgs_cons (pg_name (i := 5) nd rfl (.inl rfl)) pgs_nil)))) (fun _ _ _ _ _ => pts_nil)
          (fun _ _ _ _ _ => pe_tup (pa_cons (pv 5) (pa_cons (pv 3) pa_nil)))) (pa_cons (pe_ix ix_tup (pv 0) pe_int (fun _ _ => rfl)) pa_nil))))
      (pss_one (ps_ret (pe_lc (own := [("room", 3)]) (g := gName 3) rfl nd (pi_range1 (by rfl) T.range (pa_cons (pe_ix ix_tup (pv 0) pe_int (fun _ _ => rfl)) pa_nil)) (blkOk_by (N := s_useful_N) (sc := defScope s_useful) (by decide +kernel))
        (fun _ _ _ _ _ => pg_name (i := 3) nd rfl (.inl rfl)) (fun _ _ _ _ _ => pts_one (PW.pt (pw_and (pt_cmp (pc_din hu (pv 3) (pv 1))) (pw_and1 (pt_cmp (pc_din hu (pv 3) (pv 2)))))))
        (fun _ _ _ _ _ => pv 3)))))), ?_⟩
    obtain ⟨xs, hx, lr⟩ := M.sa
    have hE : ∀ p ∈ edges m, p.1 < 12 ∧ p.2 < 12 := fun p hp => by
      obtain ⟨s, hs, rfl⟩ := List.mem_map.mp hp
      have := ok.sb _ hs
      have := ok.top
      exact ⟨by show s.1 < 12; omega, by show s.2.2 < 12; omega⟩
    have hE2 : ∀ p ∈ redges m, p.1 < 12 ∧ p.2 < 12 := fun p hp => by
      obtain ⟨s, hs, rfl⟩ := List.mem_map.mp hp
      have := ok.sb _ hs
      have := ok.top
      exact ⟨by show s.2.2 < 12; omega, by show s.1 < 12; omega⟩
    refine ⟨_, rfl, _, m, t, fa, la, sa, rfl, M, ok, fun H1 s1 => ?_⟩
    refine ⟨_, rfl, t, _, 3, .ref sa, rfl, rfl, .inl (.inl (s1 _ _ M.t)), atI_nat (j := 3) rfl, sa, rfl, ⟨xs, .inl (.inl (s1 _ _ hx))⟩, fun D hD => ?_⟩
    refine lc_map (R := RP) grow_same (fun _ _ _ _ e h => h.mono e) lr (fun t => (t.1, t.2.2)) (small1000 (by have := ok.sl; omega)) hD (fun H' sm => .inl (.inl (sm _ _ (s1 _ _ hx)))) (fun i x y H4 Ka ey ry sm ka => ?_) (fun H4 acc sm hA lr' => ?_)
      (mono_tup (mono_cons (mono_name 3) (mono_cons (mono_name 4) (mono_cons (mono_name 5) mono_nil))))
    · obtain ⟨a, rfl, ha⟩ := ry
      refine ⟨a, _, rfl, .inl (.inl (sm _ _ (s1 _ _ ha))), rfl, _, _, rfl, _, _, rfl, _, _, rfl, rfl, rfl, ?_⟩
      refine ⟨_, rfl, _, rfl, by show 2 ≤ sizeLine; decide, fun p np => ?_⟩
      exact ka _ _ ⟨p, rfl, upd_same⟩ (same_new np)
    have s4 := s1.trans sm
    refine ⟨_, rfl, t, _, 1, .ref fa, rfl, rfl, .inl (.inl (s4 _ _ M.t)), atI_nat (j := 1) rfl, ?_⟩
    refine ⟨D, fa, edges m, m.firsts, rfl, ⟨acc, hA, lr'⟩, s4 _ _ M.fa, ?_, hE, ?_, ?_, fun H5 d1 f1 s5 nd1 hd1 hm1 => ?_⟩
    · unfold edges
      rw [List.length_map]
      exact ok.sl
    · exact few_of ok.fi ok.f12
    · exact ok.f12
    have s6 := s4.trans s5
    refine ⟨_, rfl, t, _, 3, .ref sa, rfl, rfl, .inl (.inl (s6 _ _ M.t)), atI_nat (j := 3) rfl, sa, rfl, ⟨xs, .inl (.inl (s6 _ _ hx))⟩, fun D2 hD2 => ?_⟩
    refine lc_map (R := RP) grow_same (fun _ _ _ _ e h => h.mono e) lr (fun t => (t.2.2, t.1)) (small1000 (by have := ok.sl; omega)) hD2 (fun H' sm => .inl (.inl (sm _ _ (s6 _ _ hx)))) (fun i x y H4 Ka ey ry sm ka => ?_) (fun H7 acc2 sm7 hA2 lr2 => ?_)
      (mono_tup (mono_cons (mono_name 3) (mono_cons (mono_name 4) (mono_cons (mono_name 5) mono_nil))))
    · obtain ⟨a, rfl, ha⟩ := ry
      refine ⟨a, _, rfl, .inl (.inl (sm _ _ (s6 _ _ ha))), rfl, _, _, rfl, _, _, rfl, _, _, rfl, rfl, rfl, ?_⟩
      refine ⟨_, rfl, _, rfl, by show 2 ≤ sizeLine; decide, fun p np => ?_⟩
      exact ka _ _ ⟨p, rfl, upd_same⟩ (same_new np)
    have s7 := s6.trans sm7
    refine ⟨_, rfl, t, _, 2, .ref la, rfl, rfl, .inl (.inl (s7 _ _ M.t)), atI_nat (j := 2) rfl, ?_⟩
    refine ⟨D2, la, redges m, m.lasts, rfl, ⟨acc2, hA2, lr2⟩, s7 _ _ M.la, ?_, hE2, ?_, ?_, fun H8 d2 f2 s8 nd2 hd2 hm2 => ?_⟩
    · unfold redges
      rw [List.length_map]
      exact ok.sl
    · exact few_of ok.li ok.l12
    · exact ok.l12
    have s9 := s7.trans s8
    have hd1' := s8 _ _ (sm7 _ _ hd1)
    refine ⟨_, rfl, t, _, 0, nv m.many, rfl, rfl, .inl (.inl (s9 _ _ M.t)), atI_nat (j := 0) rfl, m.many, rfl, by have := ok.top; omega, by have := ok.top; omega, fun D3 hD3 => ?_⟩
    have hD0 : H D3 = none := s9.free hD3
    refine lc_rows (R := fun _ v (n : Nat) => v = nv n) grow_same (fun _ _ _ _ _ h => h) walk_range (fun r => if r ∈ usefulL m then some r else none) (small1000 (by have := ok.top; omega)) hD3 (fun _ _ => trivial) (fun i x H1 H2 Ka Kb hi sm y ka kb => ?_) (fun H1 acc sm hA lr => ?_)
    · obtain ⟨rfl, rfl⟩ := y
      have ei : V.int (0 + (i : Int)) = nv i := by rw [Int.zero_add]; rfl
      show gName 3 (V.int (0 + (i : Int))) _ _ _
      rw [ei]
      refine ⟨rfl, ?_⟩
      refine ⟨_, rfl, _, rfl, d1, _, rfl, DGet.k (k := Sum.inl (i : Int)) (sm _ _ hd1'), ?_⟩
      rw [found_val]
      by_cases h1 : i ∈ f1
      · rw [if_pos h1]
        refine ⟨true, rfl, iteT ?_⟩
        refine ⟨_, rfl, _, rfl, d2, _, rfl, DGet.k (k := Sum.inl (i : Int)) (sm _ _ hd2), ?_⟩
        rw [found_val]
        by_cases h2 : i ∈ f2
        · rw [if_pos h2]
          refine ⟨true, rfl, iteT ?_⟩
          refine ⟨_, rfl, ka _ i _ (if_pos ?_) rfl (Same.refl _)⟩
          exact mem_useful.mpr ⟨by rw [Int.toNat_natCast] at hi; exact hi, (hm1 i).mp h1, (hm2 i).mp h2⟩
        · rw [if_neg h2]
          refine ⟨false, rfl, iteF ?_⟩
          exact kb _ (if_neg fun z => h2 ((hm2 i).mpr (mem_useful.mp z).2.2)) (Same.refl _)
      · rw [if_neg h1]
        refine ⟨false, rfl, iteF ?_⟩
        exact kb _ (if_neg fun z => h1 ((hm1 i).mpr (mem_useful.mp z).2.1)) (Same.refl _)
    · have e := LR.eq_map (g := nv) lr
      rw [Int.toNat_natCast] at e
      refine q _ _ (s9.trans sm) hD0 ?_
      show H1 D3 = _
      rw [hA, e, fm_useful]
end
end K44

set_option Elab.async false
set_option linter.all false
set_option maxRecDepth 100000
set_option maxHeartbeats 4000000
namespace K44
open PySem PySem.Spec PyProof.Rows L2
section
variable {P : Program} {w : World} {K : PySem.W.Frag} {mg : Str → Option Value} {base : Heap}
def sp_trimmed : Sp := fun vs H Q _ => ∃ (v : V) (m : Mach) (t fa la sa : Addr), vs = [v] ∧ MacAt H v m t fa la sa ∧ MOk m ∧ ∀ H' v' t' fa' la' sa', Same H H' → MacAt H' v' (trimM m) t' fa' la' sa' → Q v' H'
theorem in_nv {K : PySem.W.Frag} {H : Hp} {b : Addr} {r : Nat} {rs : List Nat} {Q : VK} (hI : IntsAt H b rs) (q : Q (.bl (decide (r ∈ rs))) H) : rIn K false (nv r) (.ref b) H Q :=
  ⟨b, rs.map nv, rfl, .inl (.inl (.inl hI)), rfl, flat_nv rs, by
    show Q (.bl (inV (nv r) (rs.map nv))) H
    rw [inV_nv]
    exact q⟩
theorem iteTb {A B : Prop} {b : Bool} (e : b = true) (h : A) : if b = true then A else B := by
  rw [if_pos e]
  exact h
theorem iteFb {A B : Prop} {b : Bool} (e : b = false) (h : B) : if b = true then A else B := by
  rw [e]
  exact iteF h
theorem fm_dec {α : Type} (p : α → Prop) [DecidablePred p] (l : List α) : l.filterMap (fun r => if p r then some r else none) = l.filter (fun r => decide (p r)) := fm_filter p l
theorem cl_trimmed (T : Txt mg) (F : Has K mg "trimmed" s_trimmed) (CU : Cal P w K mg base 6 "useful" ["machine"] sp_useful) : Cal P w K mg base 7 "trimmed" ["machine"] sp_trimmed := by
  refine cal_mk F s_trimmed_sc (fun _ _ _ _ _ _ us hl => match us, hl with | [_], _ => rfl) (fun vs H Q E h => ?_) (fun f cdv A outer s H vs Q E hr h => ?_)
  · obtain ⟨_, _, _, _, _, _, rfl, _⟩ := h
    rfl
  · obtain ⟨v, m, t, fa, la, sa, rfl, M, ok, q⟩ := h
    have nd := s_trimmed_sc.nd
    have ev := M.v
    subst ev
    refine ⟨_, pss_cons (ps_set (i := 1) nd rfl (.inr rfl) (pe_cal CU hr (pa_cons (pv 0) pa_nil)))
      (pss_cons (ps_setLc (i := 2) (own := [("room", 4)]) (g := gName 4) rfl nd rfl rfl (sw_true rfl rfl rfl (by decide +kernel)) (pi_list (pe_ix ix_tup (pv 0) pe_int (fun _ _ => rfl))) (blkOk_by (N := s_trimmed_N) (sc := defScope s_trimmed) (by decide +kernel))
          (fun _ _ _ _ _ => pg_name (i := 4) nd rfl (.inl rfl)) (fun _ _ _ _ _ => pts_one (pt_cmpR (r := rIn K false) op_in_seq (pv 4) (pv 1) (by rfl))) (fun _ _ _ _ _ => pv 4))
      (pss_cons (ps_setLc (i := 3) (own := [("room", 4)]) (g := gName 4) rfl nd rfl rfl (sw_true rfl rfl rfl (by decide +kernel)) (pi_list (pe_ix ix_tup (pv 0) pe_int (fun _ _ => rfl))) (blkOk_by (N := s_trimmed_N) (sc := defScope s_trimmed) (by decide +kernel))
          (fun _ _ _ _ _ => pg_name (i := 4) nd rfl (.inl rfl)) (fun _ _ _ _ _ => pts_one (pt_cmpR (r := rIn K false) op_in_seq (pv 4) (pv 1) (by rfl))) (fun _ _ _ _ _ => pv 4))
      (pss_one (ps_ret (pe_tup (pa_cons (pe_ix ix_tup (pv 0) pe_int (fun _ _ => rfl)) (pa_cons (pv 2) (pa_cons (pv 3) (pa_cons
        (pe_lc (own := [("step", 5)]) (g := gName 5) rfl nd (pi_list (pe_ix ix_tup (pv 0) pe_int (fun _ _ => rfl))) (blkOk_by (N := s_trimmed_N) (sc := defScope s_trimmed) (by decide +kernel))
          (fun _ _ _ _ _ => pg_name (i := 5) nd rfl (.inl rfl)) (fun _ _ _ _ _ => pts_one (PW.pt (pw_and (pt_cmpR (r := rIn K false) op_in_seq (pe_ix (r := rIxT K) ix_tup (pv 5) pe_int (fun _ _ => rfl)) (pv 1) (by rfl)) (pw_and1 (pt_cmpR (r := rIn K false) op_in_seq (pe_ix (r := rIxT K) ix_tup (pv 5) pe_int (fun _ _ => rfl)) (pv 1) (by rfl)))))) (fun _ _ _ _ _ => pv 5)) pa_nil))))))))), ?_⟩
    obtain ⟨xs, hx, lr⟩ := M.sa
    refine ⟨_, rfl, _, m, t, fa, la, sa, rfl, M, ok, fun H1 b s1 nb hI => ?_⟩
    -- the firsts
    refine ⟨_, rfl, t, _, 1, .ref fa, rfl, rfl, .inl (.inl (s1 _ _ M.t)), atI_nat (j := 1) rfl, fa, rfl, ⟨_, .inl (.inl (s1 _ _ M.fa))⟩, fun D hD => ?_⟩
    refine lc_fm (R := fun _ v (n : Nat) => v = nv n) grow_same (fun _ _ _ _ _ h => h) (lr_nv H1 m.firsts) (fun r => if r ∈ usefulL m then some r else none) (small1000 (by have := few_of ok.fi ok.f12; omega)) hD (fun H' sm => .inl (.inl (sm _ _ (s1 _ _ M.fa)))) (fun i x y H4 Ka Kb ey ry sm ka kb => ?_) (fun H4 acc sm hA lr' => ?_)
    · subst ry
      refine ⟨rfl, ?_⟩
      refine ⟨_, rfl, _, rfl, in_nv (sm _ _ hI) ⟨_, rfl, ?_⟩⟩
      refine ite2 (fun e => ?_) (fun e => ?_)
      · exact ⟨_, rfl, ka _ y _ (if_pos (of_decide_eq_true e)) rfl (Same.refl _)⟩
      · exact kb _ (if_neg fun z => e (decide_eq_true z)) (Same.refl _)
    have ef : acc = (trimM m).firsts.map nv := by
      rw [LR.eq_map (g := nv) lr', fm_filter (fun r => r ∈ usefulL m)]
      rfl
    subst ef
    have s4 := s1.trans sm
    refine ⟨_, rfl, t, _, 2, .ref la, rfl, rfl, .inl (.inl (s4 _ _ M.t)), atI_nat (j := 2) rfl, la, rfl, ⟨_, .inl (.inl (s4 _ _ M.la))⟩, fun D2 hD2 => ?_⟩
    refine lc_fm (R := fun _ v (n : Nat) => v = nv n) grow_same (fun _ _ _ _ _ h => h) (lr_nv H1 m.lasts) (fun r => if r ∈ usefulL m then some r else none) (small1000 (by have := few_of ok.li ok.l12; omega)) hD2 (fun H' sm' => .inl (.inl (sm' _ _ (s4 _ _ M.la)))) (fun i x y H4 Ka Kb ey ry sm' ka kb => ?_) (fun H6 acc2 sm6 hA2 lr2 => ?_)
    · subst ry
      refine ⟨rfl, ?_⟩
      refine ⟨_, rfl, _, rfl, in_nv (sm' _ _ (sm _ _ hI)) ⟨_, rfl, ?_⟩⟩
      refine ite2 (fun e => ?_) (fun e => ?_)
      · exact ⟨_, rfl, ka _ y _ (if_pos (of_decide_eq_true e)) rfl (Same.refl _)⟩
      · exact kb _ (if_neg fun z => e (decide_eq_true z)) (Same.refl _)
    have el : acc2 = (trimM m).lasts.map nv := by
      rw [LR.eq_map (g := nv) lr2, fm_filter (fun r => r ∈ usefulL m)]
      rfl
    subst el
    have s6 := s4.trans sm6
    have hI6 : IntsAt H6 b (usefulL m) := sm6 _ _ (sm _ _ hI)
    refine ⟨_, rfl, t, _, 0, nv m.many, rfl, rfl, .inl (.inl (s6 _ _ M.t)), atI_nat (j := 0) rfl, _, rfl, _, rfl, ?_⟩
    refine ⟨_, rfl, t, _, 3, .ref sa, rfl, rfl, .inl (.inl (s6 _ _ M.t)), atI_nat (j := 3) rfl, sa, rfl, ⟨_, .inl (.inl (s6 _ _ hx))⟩, fun D3 hD3 => ?_⟩
    refine lc_fm (R := RS) grow_same (fun _ _ _ _ e h => h.mono e) lr (fun s => if (decide (s.1 ∈ usefulL m) && decide (s.2.2 ∈ usefulL m)) = true then some s else none) (small1000 (by have := ok.sl; omega)) hD3 (fun H' sm' => .inl (.inl (sm' _ _ (s6 _ _ hx)))) (fun i x y H4 Ka Kb ey ry sm' ka kb => ?_) (fun H8 acc3 sm8 hA3 lr3 => ?_)
    · have ry0 := ry
      obtain ⟨a, rfl, ha⟩ := ry
      have ha4 := sm' _ _ (s6 _ _ ha)
      refine ⟨rfl, ?_⟩
      refine ⟨_, rfl, a, _, 0, nv y.1, rfl, rfl, .inl (.inl ha4), atI_nat (j := 0) rfl, _, rfl, in_nv (sm' _ _ hI6) ⟨_, rfl, ?_⟩⟩
      by_cases h1 : y.1 ∈ usefulL m
      · refine iteTb (decide_eq_true h1) ?_
        refine ⟨_, rfl, a, _, 2, nv y.2.2, rfl, rfl, .inl (.inl ha4), atI_nat (j := 2) rfl, _, rfl, in_nv (sm' _ _ hI6) ⟨_, rfl, ?_⟩⟩
        by_cases h2 : y.2.2 ∈ usefulL m
        · refine iteTb (decide_eq_true h2) ?_
          exact ⟨_, rfl, ka _ y _ (if_pos (by rw [decide_eq_true h1, decide_eq_true h2]; rfl)) ⟨a, rfl, ha4⟩ (Same.refl _)⟩
        · refine iteFb (decide_eq_false h2) ?_
          exact kb _ (if_neg (by rw [decide_eq_true h1, decide_eq_false h2]; exact Bool.false_ne_true)) (Same.refl _)
      · refine iteFb (decide_eq_false h1) ?_
        exact kb _ (if_neg (by rw [decide_eq_false h1]; exact Bool.false_ne_true)) (Same.refl _)
    have s8 := s6.trans sm8
    refine ⟨by show 4 ≤ sizeLine; decide, fun p np => ?_⟩
    have s9 := same_new (o := .tup [nv m.many, .ref D, .ref D2, .ref D3]) np
    refine q _ _ p D D2 D3 (s8.trans s9) ⟨rfl, upd_same, ?_, ?_, acc3, s9 _ _ hA3, ?_⟩
    · exact s9 _ _ (sm8 _ _ (sm6 _ _ hA))
    · exact s9 _ _ (sm8 _ _ hA2)
    · rw [fm_filter (fun s : Nat × Nat × Nat => (decide (s.1 ∈ usefulL m) && decide (s.2.2 ∈ usefulL m)) = true)] at lr3
      have e : (trimM m).steps = m.steps.filter (fun s => decide ((decide (s.1 ∈ usefulL m) && decide (s.2.2 ∈ usefulL m)) = true)) := by
        show m.steps.filter _ = _
        refine List.filter_congr fun s _ => ?_
        rw [Bool.decide_eq_true]
      rw [e]
      exact lr3.mono fun x y k => k.mono (Same.tups s9)
end
end K44

set_option Elab.async false
set_option linter.all false
set_option maxRecDepth 100000
set_option maxHeartbeats 4000000
namespace K44
open PySem PySem.Spec PyProof.Rows L2 LamX NdefX
/-! ### a def within a def that has cells of its own -/
theorem cf_app : ∀ (names : List (Str × NameKind)) (n : Nat) (acc : List (Str × Addr)), cellsFrom n names acc = cellsFrom n names [] ++ acc
  | [], _, _ => rfl
  | (nm, k) :: r, n, acc => by
    unfold cellsFrom
    split
    · rw [cf_app r (n + 1) ((nm, n) :: acc), cf_app r (n + 1) [(nm, n)], List.append_assoc]
      rfl
    · exact cf_app r n acc
theorem cf_kind : ∀ (names : List (Str × NameKind)) (n : Nat) (acc : List (Str × Addr)) (x : Str) (c : Addr), (x, c) ∈ cellsFrom n names acc → (x, c) ∈ acc ∨ (x, NameKind.cell) ∈ names
  | [], _, _, _, _, h => .inl h
  | (nm, k) :: r, n, acc, x, c, h => by
    unfold cellsFrom at h
    split at h
    · rename_i hk
      rcases cf_kind r _ _ x c h with z | z
      · rcases List.mem_cons.mp z with e | z
        · cases e
          have ek : k = .cell := beq_iff_eq.mp hk
          rw [ek]
          exact .inr List.mem_cons_self
        · exact .inl z
      · exact .inr (List.mem_cons_of_mem _ z)
    · rcases cf_kind r _ _ x c h with z | z
      · exact .inl z
      · exact .inr (List.mem_cons_of_mem _ z)
section
variable {M : Model} {A : Around} {E : Value → Shared → Prop} {s : Shared}
theorem nfe_own {scope : Scope} {globals : Addr} {closure : List (Str × Addr)} {binds : List (Str × Value)} {qual : Str} {func : Option Addr} {code : Value} {builtins : Addr} {Q : Env → Shared → Prop}
    (hk : scope.kind = .function) (hl : ∀ x ∈ binds, scope.names.lookup x.1 = some .local)
    (hQ : ∀ h', h'.Ns s.heap.objs.size (fun x => binds.reverse.lookup x) → Heap.SameBut s.heap.objs.size (pushCells (s.heap.push { cls := .type "frame", data := .dict #[] }) scope.names) h' →
      Q (newEnv scope s.heap.objs.size globals (cellsFrom (s.heap.objs.size + 1) scope.names closure) qual func code none builtins) { s with heap := h', toks := s.toks + binds.length }) :
    wpAny M A (newFunctionEnv scope globals closure binds qual func code none builtins) Q E s := by
  simp only [newFunctionEnv, Option.isSome_none, Bool.false_eq_true, if_false]
  refine wpAny_bind (wpAny_alloc ?_)
  refine wpAny_bind (wpAny_layCells _ (fun name kind cells => by cases hkc : kind == NameKind.cell <;> simp [hkc]) _ _ _ _ ?_)
  rw [show ({ s with heap := s.heap.push { cls := .type "frame", data := .dict #[] } } : Shared).heap.objs.size = s.heap.objs.size + 1 from Heap.size_push ..]
  refine wpAny_bind ?_
  refine wpAny_forIn_list _
    (fun rest _ s' => ∃ done h', binds = done ++ rest ∧ s' = { s with heap := h', toks := s.toks + done.length } ∧
      h'.Ns s.heap.objs.size (fun x => done.reverse.lookup x) ∧
      Heap.SameBut s.heap.objs.size (pushCells (s.heap.push { cls := .type "frame", data := .dict #[] }) scope.names) h') _ ?_ ?_ binds _
    ⟨[], _, rfl, rfl, (Heap.Ns.new s.heap (.type "frame")).keeps (pushCells_keeps _ _), Heap.SameBut.refl ..⟩
  · rintro ⟨name, v⟩ rest _ s' ⟨done, h', hb, rfl, hns, hsb⟩
    have hk' : Env.kindOf { scope, locals := s.heap.objs.size, globals, cells := cellsFrom (s.heap.objs.size + 1) scope.names closure, qual, func, code, frame := some s.heap.objs.size, builtins } name = some .local :=
      hl (name, v) (by rw [hb]; simp)
    have hp : (({ scope, locals := s.heap.objs.size, globals, cells := cellsFrom (s.heap.objs.size + 1) scope.names closure, qual, func, code, frame := some s.heap.objs.size, builtins } : Env).scope.kind == .class || (({ scope, locals := s.heap.objs.size, globals, cells := cellsFrom (s.heap.objs.size + 1) scope.names closure, qual, func, code, frame := some s.heap.objs.size, builtins } : Env).scope.kind == .module &&
        ({ scope, locals := s.heap.objs.size, globals, cells := cellsFrom (s.heap.objs.size + 1) scope.names closure, qual, func, code, frame := some s.heap.objs.size, builtins } : Env).locals != ({ scope, locals := s.heap.objs.size, globals, cells := cellsFrom (s.heap.objs.size + 1) scope.names closure, qual, func, code, frame := some s.heap.objs.size, builtins } : Env).globals)) = false := by
      show (scope.kind == .class || (scope.kind == .module && _)) = false
      rw [hk]; rfl
    simp only [storeName_local hk' hp]
    refine wpAny_bind (wpAny_nsSet hns fun h'' hns' hsb' => wpAny_pure ⟨done ++ [(name, v)], h'', by simp [hb], ?_, ?_, hsb.trans hsb'⟩)
    · simp [Nat.add_assoc]
    · rw [lookup_reverse_snoc]; exact hns'
  · rintro _ s' ⟨done, h', hb, rfl, hns, hsb⟩
    rw [List.append_nil] at hb; subst hb
    exact wpAny_pure (hQ h' hns hsb)
end
structure OScope (N ps fr : List Str) (sc : Scope) : Prop where
  kind : sc.kind = .function
  co : sc.isCoroutine = false
  gen : sc.isGenerator = false
  nd : N.Nodup
  pre : N.take (ps.length + fr.length) = ps ++ fr
  par : ∀ x ∈ ps, sc.names.lookup x = some .local
  cellf : ∀ y ∈ sc.names, y.2 = .cell → y.1 ∉ fr
  free : ∀ y ∈ sc.names, y.2 = .free → y.1 ∈ fr
  frk : ∀ x ∈ fr, sc.names.lookup x = some .free
abbrev envW (F : NF) (f L : Addr) : Env := PySem.W.envX F.qual F.scope L f (.ref F.c) (cellsFrom (L + 1) F.scope.names F.cl)
def ocx (CX : CXT) (P : Program) (w : World) (K : PySem.W.Frag) (mg : Str → Option Value) (base : Heap) (N : List Str) (F : NF) (f : Addr) (A : Around) (outer : List Env) (s : Shared) (H : Hp) (E : XK) : Cx where
  prog := P
  w := w
  K := K
  mg := mg
  base := base
  A := A.deeper (envW F f s.heap.objs.size)
  N := N
  s_0 := s
  H_0 := H
  env := envW F f s.heap.objs.size
  outer := outer
  stack := envW F f s.heap.objs.size :: outer
  ex := []
  calm := true
  fn := fun x => match F.scope.names.lookup x with | some .cell => true | _ => false
  pn := []
  xe := fun e s' => wpAny (model P w) (A.deeper (envW F f s.heap.objs.size)) (leaving (envW F f s.heap.objs.size) e) (fun _ s'' => CX outer H s E e s'') (fun e' s'' => CX outer H s E e' s'') s'
section
variable {CX : CXT} {P : Program} {w : World} {K : PySem.W.Frag} {mg : Str → Option Value} {base : Heap} {N ps fr : List Str} {F : NF} {f : Addr} {A : Around} {outer : List Env} {s : Shared} {H : Hp} {E : XK} {us : List Value} {vs : List V} {ws : List (Option V)}
theorem inv_startO {h₁ : Heap} {tk : Nat} (S : OScope N ps fr F.scope) (hd : A.handled = none) (e0 : Env0 P w K mg base A outer s H) (hl : vs.length = ps.length) (r : Vals vs us) (C : CellsAt F.cl fr ws s.heap H) (hns : h₁.Ns s.heap.objs.size fun y => (ps.zip us).reverse.lookup y)
    (hsb : Heap.SameBut s.heap.objs.size (pushCells (s.heap.push { cls := .type "frame", data := .dict #[] }) F.scope.names) h₁) : Inv (ocx CX P w K mg base N F f A outer s H E) [] (startF N vs ws) H { s with heap := h₁, toks := tk } := by
  have kp : ∀ b o, s.heap.get? b = some o → h₁.get? b = some o := fun b o e => hsb.extBut b o (Nat.ne_of_lt (Heap.lt_size e)) (pushCells_keeps _ _ b o (Heap.get?_push_of_some _ e))
  have ok := cellsFrom_ok F.scope.names (s.heap.push { cls := .type "frame", data := .dict #[] }) (s.heap.objs.size + 1) [] ⟨fun _ _ hm => (nomatch hm), List.Pairwise.nil⟩ (by rw [Heap.size_push]; exact Nat.le_refl _)
  rw [Heap.size_push] at ok
  have hpl : ps.length + fr.length ≤ N.length := by
    have q := congrArg List.length S.pre
    rw [List.length_take, List.length_append] at q
    omega
  have noA : ∀ b : Addr, b ∉ (ocx CX P w K mg base N F f A outer s H E).ex := fun b z => absurd (show b ∈ ([] : List Addr) from z) (by simp)
  have cellK : ∀ {c : Addr} {v : Option Value}, s.heap.IsCell c v → h₁.IsCell c v := fun {c v} ⟨o, ho, hd⟩ => ⟨o, kp _ _ ho, hd⟩
  have app : ∀ y, (envW F f s.heap.objs.size).cells.lookup y = ((cellsFrom (s.heap.objs.size + 1) F.scope.names []).lookup y).or (F.cl.lookup y) := fun y => by
    show (cellsFrom (s.heap.objs.size + 1) F.scope.names F.cl).lookup y = _
    rw [cf_app, List.lookup_append]
  have ownM : ∀ y c, (cellsFrom (s.heap.objs.size + 1) F.scope.names []).lookup y = some c → (y, c) ∈ cellsFrom (s.heap.objs.size + 1) F.scope.names [] := fun y c e => PySem.mem_of_lookup e
  have ownA : ∀ y c, (cellsFrom (s.heap.objs.size + 1) F.scope.names []).lookup y = some c → s.heap.objs.size < c := fun y c e => (ok.empty y c (ownM y c e)).2
  have ownC : ∀ y c, (cellsFrom (s.heap.objs.size + 1) F.scope.names []).lookup y = some c → h₁.IsCell c none := fun y c e => ((ok.empty y c (ownM y c e)).1).sameBut hsb (Nat.ne_of_gt (ownA y c e))
  have clS : ∀ y c, F.cl.lookup y = some c → c < s.heap.objs.size := fun y c e => by
    obtain ⟨_, v, o, ho, _⟩ := C.all y c e
    exact Heap.lt_size ho
  have part : ∀ y c, (envW F f s.heap.objs.size).cells.lookup y = some c → (cellsFrom (s.heap.objs.size + 1) F.scope.names []).lookup y = some c ∨ F.cl.lookup y = some c := fun y c e => by
    rw [app] at e
    cases q : (cellsFrom (s.heap.objs.size + 1) F.scope.names []).lookup y with
    | none =>
      rw [q] at e
      exact .inr e
    | some d =>
      rw [q] at e
      exact .inl e
  have notOwn : ∀ y ∈ fr, (cellsFrom (s.heap.objs.size + 1) F.scope.names []).lookup y = none := fun y hy => by
    cases q : (cellsFrom (s.heap.objs.size + 1) F.scope.names []).lookup y with
    | none => rfl
    | some d =>
      rcases cf_kind _ _ _ _ _ (ownM y d q) with z | z
      · cases z
      · exact absurd hy (S.cellf _ z rfl)
  have ownSome : ∀ y, F.scope.names.lookup y = some .cell → ∃ c, (cellsFrom (s.heap.objs.size + 1) F.scope.names []).lookup y = some c := fun y e => Option.isSome_iff_exists.mp (PySem.W.cellsFrom_some _ _ _ (.inl e))
  refine ⟨⟨e0.mod, S.kind, rfl, rfl, Nat.le_refl _, fun y z c h1 h2 => ?_, fun y hy => ?_, fun y c z e => ?_, fun _ => hd, Around.frames_deeper e0.frames, .inr ⟨rfl, rfl⟩, fun b z => absurd z (noA b), e0.bs, e0.bsz, fun b _ _ => noA b,
      fun b z => absurd z (noA b), e0.funs, e0.frf⟩,
    rfl, e0.bare, Un.kept kp, ⟨_, hns, fun i y v e1 e2 e3 => ?_⟩, fun y c e => ?_, e0.hok.fresh (Nat.le_refl _), fun y c e => ?_, fun q hq => absurd (show q ∈ ([] : List (Addr × Obj)) ++ [] from hq) (by simp), e0.hok.kept kp, ?_⟩
  · rcases part y c h1 with a | a
    · rcases part z c h2 with b | b
      · exact name_of_addr ok.apart (ownM _ _ a) (ownM _ _ b)
      · exact absurd (ownA _ _ a) (Nat.lt_asymm (clS _ _ b))
    · rcases part z c h2 with b | b
      · exact absurd (ownA _ _ b) (Nat.lt_asymm (clS _ _ a))
      · exact C.inj _ _ _ a b
  · have hy : F.scope.names.lookup y = some .cell ∨ F.scope.names.lookup y = some .free := hy
    show ∃ c, (envW F f s.heap.objs.size).cells.lookup y = some c
    rw [app]
    rcases hy with hy | hy
    · obtain ⟨c, hc⟩ := ownSome y hy
      exact ⟨c, by rw [hc]; rfl⟩
    · have hf := S.free _ (PySem.mem_of_lookup hy) rfl
      obtain ⟨i, hi⟩ := List.mem_iff_getElem?.mp hf
      obtain ⟨c, hc, _⟩ := C.has i y hi
      exact ⟨c, by rw [notOwn y hf, hc]; rfl⟩
  · have z : (match F.scope.names.lookup y with | some .cell => true | _ => false) = true := z
    have e : (envW F f s.heap.objs.size).cells.lookup y = some c := e
    have hy : F.scope.names.lookup y = some .cell := by
      split at z
      · rename_i q
        exact q
      · cases z
    obtain ⟨d, hd⟩ := ownSome y hy
    rw [app, hd] at e
    have e2 : d = c := Option.some.inj e
    rw [← e2]
    exact Nat.le_of_lt (ownA _ _ hd)
  · have e1 : N[i]? = some y := e1
    have clen := C.len
    unfold startF at e2
    by_cases h1 : i < ps.length
    · have hq : (ps ++ fr)[i]? = some y := by
        rw [← S.pre, List.getElem?_take_of_lt (by omega)]
        exact e1
      rw [List.getElem?_append_left h1] at hq
      rw [List.getElem?_append_left (by rw [List.length_map]; omega), List.getElem?_map] at e2
      have ha : vs[i]? = some v := by
        cases e : vs[i]? with
        | none => rw [e] at e2; cases e2
        | some a => rw [e] at e2; cases e2; rfl
      obtain ⟨u, hu, rv⟩ := r.get ha
      have ndP : ps.Nodup := by
        have q := S.nd.sublist (List.take_sublist (ps.length + fr.length) N)
        rw [S.pre] at q
        exact (List.nodup_append.mp q).1
      exact ⟨u, rv, .inl ⟨S.par y (List.mem_of_getElem? hq), zip_look ndP hq hu⟩⟩
    · rw [List.getElem?_append_right (by rw [List.length_map]; omega), List.length_map] at e2
      by_cases h2 : i < ps.length + fr.length
      · have hq : (ps ++ fr)[i]? = some y := by
          rw [← S.pre, List.getElem?_take_of_lt (by omega)]
          exact e1
        rw [List.getElem?_append_right (by omega)] at hq
        rw [List.getElem?_append_left (by omega), hl] at e2
        obtain ⟨c, hc, hv⟩ := C.has (i - ps.length) y hq
        obtain ⟨u, ru, hu⟩ := hv v e2
        refine ⟨u, ru, .inr ⟨.inr (S.frk y (List.mem_of_getElem? hq)), c, ?_, cellK hu⟩⟩
        show (envW F f s.heap.objs.size).cells.lookup y = some c
        rw [app, notOwn y (List.mem_of_getElem? hq), hc]
        rfl
      · rw [List.getElem?_append_right (by omega), List.getElem?_replicate] at e2
        split at e2 <;> cases e2
  · rcases part y c e with a | a
    · exact ⟨_, ownC _ _ a⟩
    · obtain ⟨v, z⟩ := (C.all y c a).2
      exact ⟨v, cellK z⟩
  · rcases part y c e with a | a
    · exact e0.hok.fresh (Nat.le_of_lt (ownA _ _ a))
    · exact (C.all y c a).1
  · have clen := C.len
    unfold startF
    show _ = N.length
    rw [List.length_append, List.length_append, List.length_map, List.length_replicate]
    omega
end
section
variable {CX : CXT} {P : Program} {w : World} {K : PySem.W.Frag} {mg : Str → Option Value} {base : Heap} {N ps fr : List Str} {F : NF} {f : Addr} {k j : Nat} {sp sp' : List (Option V) → Sp}
theorem nok_own (S : OScope N ps fr F.scope) (hb : ∀ (doc pm ctv : Value) (us : List Value), us.length = ps.length → bindArgs (F.fd doc pm ctv) ⟨us, []⟩ = pure (ps.zip us)) (len : ∀ ws vs H Q E, sp ws vs H Q E → vs.length = ps.length)
    (hbody : ∀ (A : Around) (outer : List Env) (s : Shared) (H : Hp) (vs : List V) (ws : List (Option V)) (Q : VK) (E : XK), Room k (A.deeper (envW F f s.heap.objs.size)) → H f = some (FnO f F) → H F.c = some (CodeO F.c F.qual) → ws.length = fr.length → sp ws vs H Q E →
      ∃ t, PSs (ocx CX P w K mg base N F f A outer s H E).nox F.body t ∧ t { nx := fun _ H' => Q .non H', rt := Q } (startF N vs ws) H) :
    NOk P w K mg base CX (k + 1) f F ps fr sp := by
  refine ⟨len, fun A outer s H us vs ws Q E hr e0 hf hc C r hsp => ?_⟩
  have hl := len _ _ _ _ _ hsp
  have lim : s.heap.NoLimit := e0.mod.nolimit.keeps fun b o e => (e0.bs b o e).1
  obtain ⟨od, sl, doc, pm, ctv, ho⟩ := fnO_at e0.hok hf
  refine codeAny_call_function hr.depth ho rfl S.co S.gen rfl (codeO_at e0.hok hc) ?_
  rw [hb doc pm ctv us (by rw [← r.length]; exact hl)]
  refine wpAny_pure (nfe_own S.kind (fun ⟨n, _⟩ hy => S.par n (List.of_mem_zip hy).1) (fun h₁ hns hsb => ?_))
  have kp : ∀ b o, s.heap.get? b = some o → h₁.get? b = some o := fun b o e => hsb.extBut b o (Nat.ne_of_lt (Heap.lt_size e)) (pushCells_keeps _ _ b o (Heap.get?_push_of_some _ e))
  refine ⟨lim.keeps kp, ?_⟩
  show codeAny _ _ (.func F.body (envW F f s.heap.objs.size)) _ _
  refine codeAny_func ?_
  obtain ⟨t, ht0, hq⟩ := hbody A outer s H vs ws Q E (hr.deeper _) hf hc C.len hsp
  have ht := ht0.nox
  have I : Inv (ocx CX P w K mg base N F f A outer s H E) [] (startF N vs ws) H { s with heap := h₁, toks := s.toks + (ps.zip us).length } := inv_startO S hr.hd e0 hl r C hns hsb
  refine wpAny_mono (ht.run [] _ (startF N vs ws) H _ I hq) (fun fl s' hs => ?_) fun e s' hs => hs
  have fin : ∀ {σ' : L2.St} {H' : Hp} {v : V} {u : Value}, Inv (ocx CX P w K mg base N F f A outer s H E) [] σ' H' s' → L2.RelV v u → Q v H' → CE outer P w H s Q u s' :=
    fun {σ' H' v u} J rv q => ⟨v, H', J.os, J.bare, J.base, J.hok, rv, q⟩
  cases fl with
  | ret u =>
    obtain ⟨v, σ', H', J, rv, q⟩ := hs
    exact fin J rv q
  | next =>
    obtain ⟨σ', H', J, q⟩ := hs
    exact fin (v := V.non) (u := Value.none) J rfl q
  | brk =>
    obtain ⟨_, _, _, q⟩ := hs
    exact False.elim q
  | cont =>
    obtain ⟨_, _, _, q⟩ := hs
    exact False.elim q
end
/-! ### a call of a parameter that holds a made function -/
def tNx (F : NF) (f : Addr) (i : Nat) (ws : List (Option V)) (sp : List (Option V) → Sp) (t : TA) : TE := fun σ H Q => σ[i]? = some (some (.ref f)) ∧ H f = some (FnO f F) ∧
  t σ H fun vs H1 => H1 f = some (FnO f F) ∧ H1 F.c = some (CodeO F.c F.qual) ∧ sp ws vs H1 Q C8.E0
section
variable {X : Cx} {F : NF} {f : Addr} {ps fr : List Str} {ws : List (Option V)} {i j k : Nat} {x : Str} {sp : List (Option V) → Sp} {t : TA} {e : Expr} {es : List Expr} {p pos : Pos}
theorem pe_nx (Fn : NOk X.prog X.w X.K X.mg X.base C8.CX0 k f F ps fr sp) (C : X.Ok → CellsAt F.cl fr ws X.s_0.heap X.H_0) (nf : X.Ok → ∀ y c, F.cl.lookup y = some c → c ∉ X.fs) (hex : X.ex = []) (hr : Room j X.A) (hk : k ≤ j) (hN : X.N[i]? = some x) (hv : Vis X.env.scope x) (ha : PA X (e :: es) t)
    (hd : (x == ("__debug__" : Str)) = false := by decide) (hcd : (x == ("__classdict__" : Str)) = false := by decide)
    (he : starEach (e :: es) X.env = (false, eval e X.env) :: starEach es X.env := by rfl) (hpl : (backTo pos (starEach es X.env)).any (·.1) = false := by rfl) :
    PE X (.Call (.Name x p) (e :: es) [] pos) (tNx F f i ws sp t) := by
  refine ⟨fun pins s σ H Q I h => ?_⟩
  obtain ⟨hs, hf, ht⟩ := h
  refine wpAny_Call_Name_kw (thn ((pe_var (pos := p) hN hv hd hcd).run pins s σ H (fun v H1 => v = .ref f ∧ H1 = H) I ⟨.ref f, hs, rfl, rfl⟩) fun u s1 ⟨v, H1, I1, r1, q1⟩ => ?_)
  obtain ⟨ev, eH⟩ := q1
  subst ev
  rw [eH] at I1
  obtain rfl : u = Value.ref f := r1
  refine PySem.W.callWith_F (first := []) (fnAt_of I1 hf) (thn (ha.run pos pins s1 σ H _ I1 ht) fun us s2 ⟨vs, H2, I2, r, h1, h2, q⟩ => ⟨fnAt_of I2 h1, ?_⟩) he hpl
  show wpAny _ _ (call (.ref f) us) _ _ _
  have C2 := CellsAt.later (C I2.ok) (nf I2.ok) (fun y c _ z => by rw [hex] at z; cases z) I2
  refine wpAny_call (codeAny_mono (Fn.run X.A X.stack s2 H2 us vs _ Q C8.E0 (hr.mono hk) I2.env0 h1 h2 C2 r q) fun r s' hq => ?_)
  cases r with
  | error e => exact pass0 pins σ H2 s2 e s' I2 hq
  | ok fl =>
    cases fl with
    | ret u => exact I2.after hq
    | next => exact False.elim hq
    | brk => exact False.elim hq
    | cont => exact False.elim hq
end
end K44

set_option Elab.async false
set_option linter.all false
set_option maxRecDepth 100000
set_option maxHeartbeats 4000000
namespace K44
open PySem PySem.Spec PyProof.Rows L2
/-! ### nodes, and the dict of the known ones -/
def ndV (md : Bool) (n : Nd) : List V := [nv n.1, nv n.2.1, if md = true then .bl (decide (n.2.2 = 1)) else nv n.2.2]
def gdN (md : Bool) (n : Nd) : Prop := (n.1 < 12 ∧ n.2.1 < 12 ∧ n.2.2 < 12) ∧ (md = true → n.2.2 ≤ 1)
def kN (n : Nd) : NestedKey := .tup [.num n.1, .num n.2.1, .num n.2.2]
theorem kN_inj {a b : Nd} (h : kN a = kN b) : a = b := by
  unfold kN at h
  injection h with h
  injection h with h1 h
  injection h with h2 h
  injection h with h3 h
  injection h1 with h1
  injection h2 with h2
  injection h3 with h3
  obtain ⟨a1, a2, a3⟩ := a
  obtain ⟨b1, b2, b3⟩ := b
  simp only at h1 h2 h3
  have e1 : a1 = b1 := by omega
  have e2 : a2 = b2 := by omega
  have e3 : a3 = b3 := by omega
  rw [e1, e2, e3]
def entK (x : Nd × Addr) : NestedKey × Addr × Value := (kN x.1, x.2, .bool true)
def KnO (P : Program) (w : World) (d : Addr) (ks : List (Nd × Addr)) : HO := .ext fun h => ks.length ≤ sizeLine ∧ (d == sysModules) = false ∧ (ks.map (·.1)).Nodup ∧
  ∃ o es ep, h.get? d = some o ∧ o.ExactDict ∧ o.data = .dict es ep ∧ es.toList = ks.map fun x => entryOfKey (nestedKind P w) (entK x)
/-- the keys' tuples -/
def KeysAt (md : Bool) (H : Hp) (ks : List (Nd × Addr)) : Prop := ∀ p ∈ ks, H p.2 = some (.tup (ndV md p.1)) ∧ gdN md p.1
theorem KeysAt.mono {md : Bool} {H H' : Hp} {ks : List (Nd × Addr)} (k : KeysAt md H ks) (e : Tups H H') : KeysAt md H' ks := fun p hp => ⟨e _ _ (k p hp).1, (k p hp).2⟩
section
variable {X : Cx} {pins : List (Addr × Obj)} {σ : L2.St} {H : Hp} {s : Shared} {md : Bool}
theorem nd_is (I : Inv X pins σ H s) {n : Nd} {b : Addr} (hb : H b = some (.tup (ndV md n))) (g : gdN md n) : (nestedKind X.prog X.w).is s.heap (kN n) b := by
  obtain ⟨_, its, r, o, h1, h2, k, h3⟩ := (show ObjOk X.prog X.w H s.heap b (.tup (ndV md n)) from I.hok b _ hb)
  refine ⟨.tup h1 h2 h3 ?_, by unfold kN; simp [NestedKey.depth, NestedKey.depthAll]⟩
  unfold ndV at r
  cases r with
  | @cons a u1 as us r1 r =>
  cases r with
  | @cons a u2 as us r2 r =>
  cases r with
  | @cons a u3 as us r3 r =>
  cases r
  obtain ⟨t1, rfl⟩ := r1
  obtain ⟨t2, rfl⟩ := r2
  refine .cons (.int _ t1) (.cons (.int _ t2) (.cons ?_ .nil))
  cases md with
  | true =>
    have r3 : RelV (.bl (decide (n.2.2 = 1))) u3 := r3
    cases r3
    refine .bool ?_
    have := g.2 rfl
    by_cases e : n.2.2 = 1
    · rw [e]; rfl
    · have e0 : n.2.2 = 0 := by omega
      rw [e0]; rfl
  | false =>
    have r3 : RelV (nv n.2.2) u3 := r3
    obtain ⟨t3, rfl⟩ := r3
    exact .int _ t3
theorem kn_keys {ks : List (Nd × Addr)} : (ks.map entK).map (·.1) = (ks.map (·.1)).map kN := by
  rw [List.map_map, List.map_map]
  rfl
theorem kn_nodup : ∀ {ns : List Nd}, ns.Nodup → (ns.map kN).Nodup
  | [], _ => List.nodup_nil
  | n :: ns, h => by
    obtain ⟨h1, h2⟩ := List.nodup_cons.mp h
    rw [List.map_cons]
    refine List.nodup_cons.mpr ⟨fun z => ?_, kn_nodup h2⟩
    obtain ⟨m, hm, e⟩ := List.mem_map.mp z
    rw [kN_inj e] at hm
    exact h1 hm
theorem kn_of (I : Inv X pins σ H s) {d : Addr} {ks : List (Nd × Addr)} (e : H d = some (KnO X.prog X.w d ks)) (K : KeysAt md H ks) : ks.length ≤ sizeLine ∧ (d == sysModules) = false ∧ s.heap.DictOfH (nestedKind X.prog X.w) d (ks.map entK) := by
  obtain ⟨⟨z, y, nd, o, es, ep, h1, h2, h3, h4⟩, _, _⟩ := (show ObjOk X.prog X.w H s.heap d (KnO X.prog X.w d ks) from I.hok d _ e)
  refine ⟨z, y, o, es, ep, h1, h2, h3, by rw [List.map_map]; exact h4, fun x hx => ?_, ?_⟩
  · obtain ⟨p, hp, rfl⟩ := List.mem_map.mp hx
    exact nd_is I (K p hp).1 (K p hp).2
  · rw [kn_keys]
    exact kn_nodup nd
theorem kn_at {ks : List (Nd × Addr)} (n : Nd) : (atKey (ks.map entK) (kN n)).isSome = decide (n ∈ ks.map (·.1)) := by
  unfold atKey
  rw [Option.isSome_map, Bool.eq_iff_iff, decide_eq_true_iff, List.find?_isSome]
  constructor
  · rintro ⟨x, hx, e⟩
    obtain ⟨p, hp, rfl⟩ := List.mem_map.mp hx
    rw [← kN_inj (of_decide_eq_true e)]
    exact List.mem_map_of_mem hp
  · intro h
    obtain ⟨p, hp, e⟩ := List.mem_map.mp h
    exact ⟨entK p, List.mem_map_of_mem hp, decide_eq_true (by rw [← e]; rfl)⟩
theorem kn_ok {P : Program} {w : World} {H : Hp} {h : Heap} {d : Addr} {ks : List (Nd × Addr)} (z : ks.length ≤ sizeLine) (hd : (d == sysModules) = false) (dd : h.DictOfH (nestedKind P w) d (ks.map entK)) (nd : (ks.map (·.1)).Nodup) : ObjOk P w H h d (KnO P w d ks) := by
  obtain ⟨o, es, ep, h1, h2, h3, h4, _, _⟩ := dd
  refine ⟨⟨z, hd, nd, o, es, ep, h1, h2, h3, by rw [List.map_map] at h4; exact h4⟩, ⟨o, h1⟩, fun g1 g2 ⟨z, hd, nd, o, es, ep, h1, r⟩ k => ⟨z, hd, nd, o, es, ep, k o h1, r⟩⟩
end
def tKNew (P : Program) (w : World) : TE := fun _ H Q => ∀ p, H p = none → Q (.ref p) (upd H p (KnO P w p []))
section
variable {X : Cx} {pos pos' : Pos} {o i value : Expr} {td ty tv : TE} {md : Bool}
theorem pe_knew : PE X (.Dict [] [] pos) (tKNew X.prog X.w) := ⟨fun pins s σ H Q I h =>
  wpAny_Dict_empty ⟨.ref s.heap.objs.size, _, I.laid (a := s.heap.objs.size) (o := KnO X.prog X.w s.heap.objs.size []) (t' := s.toks) (fun _ _ q => Heap.get?_push_of_some _ q) (Nat.le_refl _)
    (kn_ok (Nat.zero_le _) (beq_eq_false_iff_ne.mpr (Ne.symm (Nat.ne_of_lt I.big))) ⟨_, #[], 0, Heap.get?_push_size _ rfl, ⟨rfl, rfl, rfl⟩, rfl, rfl, fun _ h => (by cases h), List.nodup_nil⟩ List.nodup_nil), rfl, h _ (I.hok.fresh (Nat.le_refl _))⟩⟩
def rKnNot (P : Program) (w : World) : R2 := fun x y H Q => ∃ (md : Bool) (b a : Addr) (n : Nd) (ks : List (Nd × Addr)), x = .ref b ∧ y = .ref a ∧ H b = some (.tup (ndV md n)) ∧ gdN md n ∧ H a = some (KnO P w a ks) ∧ KeysAt md H ks ∧ Q (.bl (!decide (n ∈ ks.map (·.1)))) H
theorem op_knnot (hu : X.A.units + 9 < cLine) : OpR X (compareOp .NotIn) (rKnNot X.prog X.w) := by
  intro pins s σ H x y v u Q I rx ry h
  obtain ⟨md, b, a, n, ks, rfl, rfl, hb, g, ha, K, q⟩ := h
  cases rx
  cases ry
  obtain ⟨z, hd, dd⟩ := kn_of I ha K
  refine wpAny_notIn_heap (knd := nestedKind X.prog X.w) (show X.A.in1.units + 8 < cLine by rw [Around.in1_units]; omega) (nd_is I hb g) hd dd ⟨.bl _, H, I.tok _, ?_, q⟩
  show _ = Value.bool _
  rw [kn_at]
def sKnPut (P : Program) (w : World) (td ty tv : TE) : TS := fun D σ H => tv σ H fun v H1 => td σ H1 fun x H2 => ty σ H2 fun y H3 => ∃ (md : Bool) (a b : Addr) (n : Nd) (ks : List (Nd × Addr)), v = .bl true ∧ x = .ref a ∧ y = .ref b ∧ H3 b = some (.tup (ndV md n)) ∧ gdN md n ∧ H3 a = some (KnO P w a ks) ∧ KeysAt md H3 ks ∧ n ∉ ks.map (·.1) ∧ ks.length < sizeLine ∧
  D.nx σ (upd H3 a (KnO P w a (ks ++ [(n, b)])))
theorem ps_knput (hu : X.A.units + 9 < cLine) (ho : PE X o td) (hi : PE X i ty) (hv : PE X value tv) (hs : swapsWith value (some (.Subscript o i pos')) pos.line X.env = pure false) :
    PS X (.Assign [.Subscript o i pos'] value pos) (sKnPut X.prog X.w td ty tv) := by
  refine ⟨fun pins s σ H D I h => ?_⟩
  refine wpAny_Assign_Subscript (thn (hv.run pins s σ H _ I h) fun r s1 ⟨v, H1, I1, rv, q1⟩ => thn (ho.run pins s1 σ H1 _ I1 q1) fun u s2 ⟨x, H2, I2, rx, q2⟩ => thn (hi.run pins s2 σ H2 _ I2 q2) fun iv s3 ⟨y, H3, I3, ry, md, a, b, n, ks, ev, ex, ey, hb, g, ha, K, hn, hl, q3⟩ => ?_) hs
  subst ev ex ey
  obtain rfl : u = Value.ref a := rx
  obtain rfl : iv = Value.ref b := ry
  obtain rfl : r = Value.bool true := rv
  obtain ⟨z, hd, dd⟩ := kn_of I3 ha K
  have nn : atKey (ks.map entK) (kN n) = none := by
    have q := kn_at (ks := ks) n
    rw [decide_eq_false hn] at q
    cases e : atKey (ks.map entK) (kN n) with
    | none => rfl
    | some p =>
      rw [e] at q
      cases q
  refine wpAny_setItem_heap (knd := nestedKind X.prog X.w) (hsz := by rw [List.length_map]; exact z) (show X.A.in1.units + 8 < cLine by rw [Around.in1_units]; omega) (nd_is I3 hb g) dd fun h' dd' hs => ?_
  rw [storedH_new nn] at dd'
  have e : ks.map entK ++ [(kN n, b, Value.bool true)] = (ks ++ [(n, b)]).map entK := by rw [List.map_append]; rfl
  rw [e] at dd'
  have nd : ((ks ++ [(n, b)]).map (·.1)).Nodup := by
    obtain ⟨⟨_, _, nd0, _⟩, _, _⟩ := (show ObjOk X.prog X.w H3 s3.heap a (KnO X.prog X.w a ks) from I3.hok a _ ha)
    rw [List.map_append]
    exact nd_snoc nd0 hn
  have hq : ∃ q, h'.get? a = some q := let ⟨q, _, _, hq, _⟩ := dd'; ⟨q, hq⟩
  refine ⟨σ, _, ?_, q3⟩
  exact d_write I3 (by rw [ha]; exact True.intro) hs hq (kn_ok (by rw [List.length_append]; exact hl) hd dd' nd)
end
end K44

set_option Elab.async false
set_option linter.all false
set_option maxRecDepth 100000
set_option maxHeartbeats 4000000
namespace K44
open PySem PySem.Spec PyProof.Rows L2 NdefX LamX
/-! ### first_text: its data -/
def RNd (md : Bool) (H : Hp) (x : V) (n : Nd) : Prop := ∃ a, x = .ref a ∧ H a = some (.tup (ndV md n)) ∧ gdN md n
theorem RNd.mono {md : Bool} {H H' : Hp} {x : V} {n : Nd} (h : RNd md H x n) (e : Tups H H') : RNd md H' x n := by
  obtain ⟨a, h1, h2, h3⟩ := h
  exact ⟨a, h1, e _ _ h2, h3⟩
def NdsAt (md : Bool) (H : Hp) (a : Addr) (l : List Nd) : Prop := ∃ xs, H a = some (.lst xs) ∧ LR (RNd md) H xs l
/-- the words' entries in the row of what waits at p -/
def RWt (md : Bool) (ss : List Nat) (p : Addr) (H : Hp) (x : V) (e : List Nd × Nat) : Prop := ∃ a b xs, x = .ref a ∧ H a = some (.tup [.ref b, .str (txt (wd ss e.2))]) ∧ b ≠ p ∧ H b = some (.lst xs) ∧ LR (RNd md) H xs e.1
/-- all but the dict at d stays -/
def Kd (d : Addr) (H H' : Hp) : Prop := ∀ b o, b ≠ d → H b = some o → H' b = some o
theorem Kd.refl (d : Addr) (H : Hp) : Kd d H H := fun _ _ _ h => h
theorem Kd.same {d : Addr} {H H1 H2 : Hp} (k : Kd d H H1) (s : Same H1 H2) : Kd d H H2 := fun b o n h => s b o (k b o n h)
theorem RWt.kd {md : Bool} {ss : List Nat} {p d : Addr} {H H' : Hp} {x : V} {e : List Nd × Nat} (h : RWt md ss p H x e) (k : ∀ b o, b ≠ d → b ≠ p → H b = some o → H' b = some o) (dt : ∀ ys, H d ≠ some (.tup ys)) (dl : ∀ ys, H d ≠ some (.lst ys)) (pt : ∀ ys, H p ≠ some (.tup ys)) : RWt md ss p H' x e := by
  obtain ⟨a, b, xs, h1, h2, h3, h4, h5⟩ := h
  have tp : Tups H H' := fun b xs h => k b _ (fun z => by rw [z] at h; exact dt _ h) (fun z => by rw [z] at h; exact pt _ h) h
  exact ⟨a, b, xs, h1, tp _ _ h2, h3, k _ _ (fun z => by rw [z] at h4; exact dl _ h4) h3 h4, h5.mono fun x y r => r.mono tp⟩
/-! ### as data -/
def ndD (md : Bool) (n : Nd) : PyData := .tuple [.int n.1, .int n.2.1, if md = true then .bool (decide (n.2.2 = 1)) else .int n.2.2]
theorem ndD_fit (md : Bool) (n : Nd) : Fit (ndD md n) 1 := Fit.tuple (n := 0) fun d hd => by
  rcases List.mem_cons.mp hd with e | hd
  · rw [e]; exact fit_int _
  · rcases List.mem_cons.mp hd with e | hd
    · rw [e]; exact fit_int _
    · rw [List.mem_singleton.mp hd]
      cases md
      · exact fit_int _
      · exact fit_bool _
theorem ndD_inj {md : Bool} {a b : Nd} (ga : gdN md a) (gb : gdN md b) (h : PyData.eqv (ndD md a) (ndD md b) = true) : a = b := by
  unfold ndD at h
  obtain ⟨a1, a2, a3⟩ := a
  obtain ⟨b1, b2, b3⟩ := b
  have la := ga.2
  have lb := gb.2
  simp only [PyData.eqv, PyData.eqvAll, Bool.and_eq_true, Bool.and_true] at h
  obtain ⟨h1, h2, h3⟩ := h
  have e1 : (a1 : Int) = b1 := beq_iff_eq.mp h1
  have e2 : (a2 : Int) = b2 := beq_iff_eq.mp h2
  have e3 : a3 = b3 := by
    cases md with
    | true =>
      have z : (decide (a3 = 1) == decide (b3 = 1)) = true := h3
      have z2 : decide (a3 = 1) = decide (b3 = 1) := beq_iff_eq.mp z
      have l1 : a3 ≤ 1 := la rfl
      have l2 : b3 ≤ 1 := lb rfl
      have z3 := decide_eq_decide.mp z2
      omega
    | false =>
      have z : ((a3 : Int) == (b3 : Int)) = true := h3
      have z2 : (a3 : Int) = b3 := beq_iff_eq.mp z
      omega
  have f1 : a1 = b1 := by omega
  have f2 : a2 = b2 := by omega
  rw [f1, f2, e3]
theorem nd_any {md : Bool} {n : Nd} (g : gdN md n) : ∀ {l : List Nd}, (∀ m ∈ l, gdN md m) → (l.map (ndD md)).any (fun z => PyData.eqv z (ndD md n)) = decide (n ∈ l)
  | [], _ => rfl
  | m :: l, h => by
    rw [List.map_cons, List.any_cons, nd_any g fun x hx => h x (List.mem_cons_of_mem _ hx)]
    by_cases e : n = m
    · subst e
      rw [(ndD_fit md n).refl]
      simp
    · have e2 : PyData.eqv (ndD md m) (ndD md n) = false := by
        cases q : PyData.eqv (ndD md m) (ndD md n) with
        | false => rfl
        | true => exact absurd (ndD_inj (h m List.mem_cons_self) g q).symm e
      rw [e2, Bool.false_or]
      simp [e]
section
variable {K : PySem.W.Frag} {H : Hp} {md : Bool}
theorem dp_nd {a : Addr} {n : Nd} (h : H a = some (.tup (ndV md n))) : Dp K H (.ref a) (ndD md n) := .tup (.inl (.inl h)) (by
  unfold ndV
  refine .cons (.int _) (.cons (.int _) (.cons ?_ .nil))
  cases md
  · exact .int _
  · exact .bl _)
theorem dp_nds {a : Addr} {l : List Nd} (h : NdsAt md H a l) : Dp K H (.ref a) (.list (l.map (ndD md))) := by
  obtain ⟨xs, h1, h2⟩ := h
  refine dp_list (ndD md) h1 ⟨h2.1, fun i x y hx hy => ?_⟩
  obtain ⟨b, e, hb, _⟩ := h2.2 i x y hx hy
  rw [e]
  exact dp_nd hb
def wtD (md : Bool) (ss : List Nat) (e : List Nd × Nat) : PyData := .tuple [.list (e.1.map (ndD md)), .str (txt (wd ss e.2))]
theorem nds_fit (md : Bool) (l : List Nd) : Fit (.list (l.map (ndD md))) 2 := Fit.list fun d hd => by
  obtain ⟨n, _, e⟩ := List.mem_map.mp hd
  rw [← e]
  exact ndD_fit md n
theorem wd_mem {ss : List Nat} : ∀ (n s : Nat), s ∈ wd ss n → s ∈ ss ∨ s = 0 := by
  intro n
  induction n using Nat.strongRecOn with
  | ind n ih =>
    intro s hs
    by_cases h : n = 0
    · rw [h, wd_zero] at hs
      cases hs
    · rw [wd_pos (by omega)] at hs
      rcases List.mem_append.mp hs with hs | hs
      · refine ih _ ?_ s hs
        exact Nat.lt_of_le_of_lt (Nat.div_le_self _ _) (by omega)
      · rw [List.mem_singleton.mp hs, List.getD_eq_getElem?_getD]
        cases e : ss[(n - 1) % ss.length]? with
        | none => exact .inr rfl
        | some c => exact .inl (List.mem_of_getElem? e)
theorem wd_ok {ss : List Nat} (hs : ∀ c ∈ ss, c ≤ 122) (n : Nat) : PyData.strOk (txt (wd ss n)) = true := by
  unfold PyData.strOk txt
  rw [Array.all_eq_true']
  intro c hc
  rw [decide_eq_true_iff]
  have hc : c ∈ wd ss n := by simpa using hc
  rcases wd_mem n c hc with h | h
  · have := hs c h
    omega
  · omega
theorem wt_fit (md : Bool) {ss : List Nat} (hs : ∀ c ∈ ss, c ≤ 122) (l : List (List Nd × Nat)) : Fit (.list (l.map (wtD md ss))) 4 := Fit.list fun d hd => by
  obtain ⟨n, _, e⟩ := List.mem_map.mp hd
  rw [← e]
  refine Fit.tuple (n := 2) fun d hd => ?_
  rcases List.mem_cons.mp hd with e | hd
  · rw [e]
    exact nds_fit md _
  · rw [List.mem_singleton.mp hd]
    exact ⟨by rw [PyData.canLay0]; exact wd_ok hs _, by simp [PyData.depth]⟩
theorem dp_wt {ss : List Nat} {p : Addr} {xs : List V} {wt : List (List Nd × Nat)} (hp : H p = some (.lst xs)) (h : LR (RWt md ss p) H xs wt) : Dp K H (.ref p) (.list (wt.map (wtD md ss))) :=
  dp_list (wtD md ss) hp ⟨h.1, fun i x y hx hy => by
    obtain ⟨a, b, ys, e, ha, _, hb, r⟩ := h.2 i x y hx hy
    rw [e]
    exact .tup (.inl (.inl ha)) (.cons (dp_nds ⟨ys, hb, r⟩) (.cons (.str _) .nil))⟩
theorem dp_nil {z : Addr} (h : H z = some (.lst [])) : Dp K H (.ref z) (.list []) := .lst (.inl (.inl h)) .nil
end
theorem nil_fit : Fit (.list []) 1 := Fit.list fun d hd => by cases hd
theorem eqv_nilA {α : Type} (f : α → PyData) : ∀ ws : List α, PyData.eqv (.list (ws.map f)) (.list []) = ws.isEmpty
  | [] => by simp [PyData.eqv, PyData.eqvAll]
  | _ :: _ => by simp [PyData.eqv, PyData.eqvAll]
/-! ### how many nodes -/
theorem nodes_few {md : Bool} {ks : List Nd} (nd : ks.Nodup) (g : ∀ n ∈ ks, gdN md n) : ks.length ≤ 1728 := by
  have h := List.Nodup.length_le_of_subset (l₁ := ks.map fun n => n.1 * 144 + n.2.1 * 12 + n.2.2) (l₂ := List.range 1728) (List.pairwise_map.mpr (nd.imp_of_mem fun {a b} ha hb h z => ?_)) fun r hr => ?_
  · rw [List.length_map, List.length_range] at h
    exact h
  · obtain ⟨a1, a2, a3⟩ := a
    obtain ⟨b1, b2, b3⟩ := b
    have la := (g _ ha).1
    have lb := (g _ hb).1
    simp only at z la lb
    refine h ?_
    have e1 : a1 = b1 := by omega
    have e2 : a2 = b2 := by omega
    have e3 : a3 = b3 := by omega
    rw [e1, e2, e3]
  · obtain ⟨n, hn, e⟩ := List.mem_map.mp hr
    have l := (g _ hn).1
    exact List.mem_range.mpr (by omega)
theorem txt_snoc (w : List Nat) (c : Nat) : txt w ++ sg c = txt (w ++ [c]) := by
  show (⟨w.toArray ++ #[c]⟩ : Str) = ⟨(w ++ [c]).toArray⟩
  congr 1
  simp
theorem mem_take1 {α : Type} {l : List α} {k : Nat} {y : α} (h : l[k]? = some y) (x : α) : x ∈ l.take (k + 1) ↔ x ∈ l.take k ∨ x = y := by
  rw [List.take_add_one, h]
  simp
/-! ### its promise -/
def sp_next (md : Bool) (g : Nd → Nat → Nd → Prop) (G : Hp → Prop) (ss : List Nat) (ws0 : List (Option V)) : List (Option V) → Sp := fun ws vs H Q _ => ws = ws0 ∧ ∃ (p : Addr) (n : Nd) (c : Nat), vs = [.ref p, .str (sg c)] ∧ H p = some (.tup (ndV md n)) ∧ gdN md n ∧ c ∈ ss ∧ G H ∧
  ∀ H' D l, Same H H' → H D = none → NdsAt md H' D l → (∀ y, y ∈ l ↔ g n c y) → Q (.ref D) H'
def resV : Option (List Nat) → V
  | none => .non
  | some w => .str (txt w)
section
variable (P : Program) (w : World) (K : PySem.W.Frag) (mg : Str → Option Value) (base : Heap) (k : Nat)
structure FArg (F : NF) (fr : List Str) (ws : List (Option V)) (vs : List V) (H : Hp) (Q : VK) : Prop where
  ex : ∃ (md : Bool) (g : Nd → Nat → Nd → Prop) (G : Hp → Prop) (f sa pst pgo : Addr) (ss : List Nat) (start goal : Nd), vs = [.ref sa, .ref pst, .ref pgo, .ref f] ∧ NOk P w K mg base C8.CX0 k f F ["here", "sign"] fr (sp_next md g G ss ws) ∧ H f = some (FnO f F) ∧ H F.c = some (CodeO F.c F.qual) ∧
    (∀ H H', Same H H' → G H → G H') ∧ G H ∧ H sa = some (.lst (ss.map fun c => .str (sg c))) ∧ ss.length ≤ 26 ∧ (∀ c ∈ ss, c ≤ 122) ∧ H pst = some (.tup (ndV md start)) ∧ gdN md start ∧ H pgo = some (.tup (ndV md goal)) ∧ gdN md goal ∧ (∀ a s b, g a s b → s ∈ ss) ∧
    ∀ H', Same H H' → (∀ w, firstW ss g start goal = some w → w.length ≤ 2000) → Q (resV (firstW ss g start goal)) H'
def spF (outer : List Env) (s : Shared) (vs : List V) (H : Hp) (Q : VK) : Prop := ∃ (F : NF) (fr : List Str) (ws : List (Option V)), CellsAt F.cl fr ws s.heap H ∧ (∀ y c, F.cl.lookup y = some c → c ∉ frs outer) ∧ FArg P w K mg base k F fr ws vs H Q
structure FCal : Prop where
  ex : ∃ f fd, (∀ (A : Around) (outer : List Env) (s : Shared) (H : Hp) (args : Args) (us : List Value) (vs : List V) (Q : VK), Room (k + 1) A → Env0 P w K mg base A outer s H → BindsTo s fd args ((["signs", "start", "goal", "nexts"] : List Str).zip us) → Vals vs us → spF P w K mg base k outer s vs H Q →
    codeAny (model P w) A (.call (.ref f) args) (CR CX0 outer P w H s Q E0) s) ∧ mg "first_text" = some (.ref f) ∧ PySem.W.keepIn K (.ref f) = true ∧ Binds K fd ["signs", "start", "goal", "nexts"] []
end
/-! ### a def's run, of what is known at its entry -/
theorem fn_run {CX : CXT} {P : Program} {w : World} {K : PySem.W.Frag} {mg : Str → Option Value} {base : Heap} {f : Addr} {name qual : Str} {params : Arguments} {body : List Stmt} {scope : Scope} {dV kV doc pm cdv ct oc : Value} {an od : Option Addr}
    {osl : Array (Option Value)} {N ps : List Str} (lk : K.lookup f = some ⟨oc, od, .func (PySem.W.fnOf name qual params body scope dV kV doc pm an cdv ct), osl⟩) (hcd : PySem.W.codeIn K cdv qual = true) (S : FnScope N ps scope)
    {k : Nat} {A : Around} {outer : List Env} {s : Shared} {H : Hp} {args : Args} {us : List Value} {vs : List V} {Q : VK} {E : XK} (hr : Room (k + 1) A) (e0 : Env0 P w K mg base A outer s H) (hb : BindsTo s (PySem.W.fnOf name qual params body scope dV kV doc pm an cdv ct) args (ps.zip us)) (r : Vals vs us) (hl : vs.length = ps.length)
    (hbody : Room k (A.deeper (envOfC qual scope s.heap.objs.size f cdv)) → ∃ t, PSs (cxOf CX P w K mg base N qual scope f cdv A outer s H E) body t ∧ t { nx := fun _ H' => Q .non H', rt := Q } (start N vs) H) :
    codeAny (model P w) A (.call (.ref f) args) (CR CX outer P w H s Q E) s := by
  have KX : K.In s.heap := e0.mod.kin.keeps fun b o e => (e0.bs b o e).1
  have lim : s.heap.NoLimit := e0.mod.nolimit.keeps fun b o e => (e0.bs b o e).1
  have hkind : ∀ y ∈ ps.zip us, scope.names.lookup y.1 = some .local ∨ (scope.names.lookup y.1 = some .cell ∧ ((cellsFrom (s.heap.objs.size + 1) scope.names []).lookup y.1).isSome = true) := fun ⟨n, v⟩ hy => by
    rcases S.par n (List.of_mem_zip hy).1 with q | q
    · exact .inl q
    · exact .inr ⟨q, PySem.W.cellsFrom_some _ _ _ (.inl q)⟩
  refine codeAny_call_function hr.depth (KX _ _ lk) rfl S.co S.gen rfl (PySem.W.codeRec_of KX hcd) (hb _ _ _ _ ?_)
  refine wpAny_newFunctionEnv_cells S.kind hkind fun env he s1 x => ?_
  subst he
  refine ⟨lim.keeps x.toInCall.keep, codeAny_func ?_⟩
  obtain ⟨t, ht, hq⟩ := hbody (hr.deeper _)
  have I : Inv (cxOf CX P w K mg base N qual scope f cdv A outer s H E) [] (start N vs) H s1 := inv_start S hr.hd e0 hl r x
  refine wpAny_mono (ht.run [] s1 (start N vs) H _ I hq) (fun fl s' hs => ?_) fun e s' hs => hs
  have fin : ∀ {σ' : L2.St} {H' : Hp} {v : V} {u : Value}, Inv (cxOf CX P w K mg base N qual scope f cdv A outer s H E) [] σ' H' s' → L2.RelV v u → Q v H' → CE outer P w H s Q u s' :=
    fun {σ' H' v u} J rv q => ⟨v, H', J.os, J.bare, J.base, J.hok, rv, q⟩
  cases fl with
  | ret u =>
    obtain ⟨v, σ', H', J, rv, q⟩ := hs
    exact fin J rv q
  | next =>
    obtain ⟨σ', H', J, q⟩ := hs
    exact fin (v := V.non) (u := Value.none) J rfl q
  | brk =>
    obtain ⟨_, _, _, q⟩ := hs
    exact False.elim q
  | cont =>
    obtain ⟨_, _, _, q⟩ := hs
    exact False.elim q
end K44

set_option Elab.async false
set_option linter.all false
set_option maxRecDepth 100000
set_option maxHeartbeats 8000000
namespace K44
open PySem PySem.Spec PyProof.Rows L2 NdefX LamX
/-! ### first_text -/
section
variable {X : Cx} {pos pos' : Pos} {o i value : Expr} {td ty tv : TE} {P : Program} {w : World}
theorem pe_knewP (hP : X.prog = P) (hw : X.w = w) : PE X (.Dict [] [] pos) (tKNew P w) := by
  subst hP hw
  exact pe_knew
theorem op_knnotP (hP : X.prog = P) (hw : X.w = w) (hu : X.A.units + 9 < cLine) : OpR X (compareOp .NotIn) (rKnNot P w) := by
  subst hP hw
  exact op_knnot hu
theorem ps_knputP (hP : X.prog = P) (hw : X.w = w) (hu : X.A.units + 9 < cLine) (ho : PE X o td) (hi : PE X i ty) (hv : PE X value tv) (hs : swapsWith value (some (.Subscript o i pos')) pos.line X.env = pure false) :
    PS X (.Assign [.Subscript o i pos'] value pos) (sKnPut P w td ty tv) := by
  subst hP hw
  exact ps_knput hu ho hi hv hs
end
structure FI (md : Bool) (P : Program) (w : World) (H0 : Hp) (d p : Addr) (ss : List Nat) (ks : List Nd) (wt : List (List Nd × Nat)) (H : Hp) : Prop where
  sm : Same H0 H
  kn : ∃ ka : List (Nd × Addr), ka.map (·.1) = ks ∧ H d = some (KnO P w d ka) ∧ KeysAt md H ka
  wa : ∃ xs, H p = some (.lst xs) ∧ LR (RWt md ss p) H xs wt
  nd : ks.Nodup
  few : wt.length ≤ ks.length + 1
/-- while one sign's nodes are found: D the row of the new ones -/
structure In (md : Bool) (P : Program) (w : World) (H0 H1 : Hp) (d D : Addr) (ks fd : List Nd) (H : Hp) : Prop where
  sm : Same H0 H
  kd : Kd d H1 H
  kn : ∃ ka : List (Nd × Addr), ka.map (·.1) = ks ++ fd ∧ H d = some (KnO P w d ka) ∧ KeysAt md H ka
  fo : NdsAt md H D fd
  nd : (ks ++ fd).Nodup
theorem kn_ne_lst {P : Program} {w : World} {d : Addr} {ka : List (Nd × Addr)} (xs : List V) : KnO P w d ka ≠ .lst xs := fun z => by
  unfold KnO at z
  cases z
theorem kn_ne_tup {P : Program} {w : World} {d : Addr} {ka : List (Nd × Addr)} (xs : List V) : KnO P w d ka ≠ .tup xs := fun z => by
  unfold KnO at z
  cases z
theorem FI.gd {md : Bool} {P : Program} {w : World} {H0 : Hp} {d p : Addr} {ss : List Nat} {ks : List Nd} {wt : List (List Nd × Nat)} {H : Hp} (f : FI md P w H0 d p ss ks wt H) : ∀ n ∈ ks, gdN md n := fun n hn => by
  obtain ⟨ka, e, _, K⟩ := f.kn
  rw [← e] at hn
  obtain ⟨q, hq, e2⟩ := List.mem_map.mp hn
  rw [← e2]
  exact (K q hq).2
theorem In.gd {md : Bool} {P : Program} {w : World} {H0 H1 : Hp} {d D : Addr} {ks fd : List Nd} {H : Hp} (f : In md P w H0 H1 d D ks fd H) : ∀ n ∈ ks ++ fd, gdN md n := fun n hn => by
  obtain ⟨ka, e, _, K⟩ := f.kn
  rw [← e] at hn
  obtain ⟨q, hq, e2⟩ := List.mem_map.mp hn
  rw [← e2]
  exact (K q hq).2
theorem FI.few1 {md : Bool} {P : Program} {w : World} {H0 : Hp} {d p : Addr} {ss : List Nat} {ks : List Nd} {wt : List (List Nd × Nat)} {H : Hp} (f : FI md P w H0 d p ss ks wt H) : ks.length ≤ 1728 := nodes_few f.nd f.gd
theorem In.few1 {md : Bool} {P : Program} {w : World} {H0 H1 : Hp} {d D : Addr} {ks fd : List Nd} {H : Hp} (f : In md P w H0 H1 d D ks fd H) : (ks ++ fd).length ≤ 1728 := nodes_few f.nd f.gd
theorem FI.same {md : Bool} {P : Program} {w : World} {H0 : Hp} {d p : Addr} {ss : List Nat} {ks : List Nd} {wt : List (List Nd × Nat)} {H H' : Hp} (f : FI md P w H0 d p ss ks wt H) (s : Same H H') : FI md P w H0 d p ss ks wt H' := by
  obtain ⟨ka, e1, e2, e3⟩ := f.kn
  obtain ⟨xs, e4, e5⟩ := f.wa
  refine ⟨f.sm.trans s, ⟨ka, e1, s _ _ e2, e3.mono (Same.tups s)⟩, ⟨xs, s _ _ e4, e5.mono fun x y r => r.kd (d := d) (fun b o _ _ h => s b o h) (fun ys z => ?_) (fun ys z => ?_) (fun ys z => ?_)⟩, f.nd, f.few⟩
  · rw [e2] at z
    exact kn_ne_tup ys (Option.some.inj z)
  · rw [e2] at z
    exact kn_ne_lst ys (Option.some.inj z)
  · rw [e4] at z
    cases z
theorem In.same {md : Bool} {P : Program} {w : World} {H0 H1 : Hp} {d D : Addr} {ks fd : List Nd} {H H' : Hp} (f : In md P w H0 H1 d D ks fd H) (s : Same H H') : In md P w H0 H1 d D ks fd H' := by
  obtain ⟨ka, e1, e2, e3⟩ := f.kn
  obtain ⟨xs, e4, e5⟩ := f.fo
  exact ⟨f.sm.trans s, f.kd.same s, ⟨ka, e1, s _ _ e2, e3.mono (Same.tups s)⟩, ⟨xs, s _ _ e4, e5.mono fun x y r => r.mono (Same.tups s)⟩, f.nd⟩
/-- a new node is known and found -/
theorem In.put {md : Bool} {P : Program} {w : World} {H0 H1 : Hp} {d D : Addr} {ks fd : List Nd} {H : Hp} (f : In md P w H0 H1 d D ks fd H) (h0 : H0 d = none) (hD : H1 D = none) (h0D : H0 D = none) {n : Nd} {b : Addr} (hb : H b = some (.tup (ndV md n))) (g : gdN md n) (hn : n ∉ ks ++ fd) :
    ∃ ka xs, ka.map (·.1) = ks ++ fd ∧ H d = some (KnO P w d ka) ∧ KeysAt md H ka ∧ n ∉ ka.map (·.1) ∧ ka.length < sizeLine ∧ (upd H d (KnO P w d (ka ++ [(n, b)]))) D = some (.lst xs) ∧ xs.length < sizeLine ∧
      In md P w H0 H1 d D ks (fd ++ [n]) (upd (upd H d (KnO P w d (ka ++ [(n, b)]))) D (.lst (xs ++ [.ref b]))) := by
  obtain ⟨ka, e1, e2, e3⟩ := f.kn
  obtain ⟨xs, e4, e5⟩ := f.fo
  have nDd : D ≠ d := fun z => by
    rw [z, e2] at e4
    exact kn_ne_lst _ (Option.some.inj e4)
  have t1 : Tups H (upd H d (KnO P w d (ka ++ [(n, b)]))) := tups_upd fun ys z => by
    rw [e2] at z
    exact kn_ne_tup _ (Option.some.inj z)
  have e4' : (upd H d (KnO P w d (ka ++ [(n, b)]))) D = some (.lst xs) := by
    rw [upd_ne nDd]
    exact e4
  have t2 := t1.trans (tups_upd (o := .lst (xs ++ [.ref b])) (not_tup_lst e4'))
  have few := f.few1
  rw [List.length_append] at few
  refine ⟨ka, xs, e1, e2, e3, by rw [e1]; exact hn, ?_, e4', ?_, ?_⟩
  · have q := congrArg List.length e1
    rw [List.length_map, List.length_append] at q
    rw [q]
    exact Nat.lt_of_le_of_lt few (by decide)
  · rw [e5.1]
    exact Nat.lt_of_le_of_lt (Nat.le_trans (Nat.le_add_left _ _) few) (by decide)
  · refine ⟨same_upd (same_upd f.sm h0) h0D, fun a o na h => ?_, ⟨ka ++ [(n, b)], ?_, ?_, ?_⟩, ⟨xs ++ [.ref b], upd_same, ?_⟩, ?_⟩
    · rw [upd_ne (fun z => by rw [z, hD] at h; cases h), upd_ne na]
      exact f.kd a o na h
    · rw [List.map_append, e1, List.append_assoc]
      rfl
    · rw [upd_ne (Ne.symm nDd), upd_same]
    · intro q hq
      rcases List.mem_append.mp hq with hq | hq
      · exact (e3.mono t2) q hq
      · rw [List.mem_singleton.mp hq]
        exact ⟨t2 _ _ hb, g⟩
    · exact LR.snoc (e5.mono fun x y r => r.mono t2) ⟨b, rfl, t2 _ _ hb, g⟩
    · rw [← List.append_assoc]
      exact nd_snoc f.nd hn
theorem FI.setp {md : Bool} {P : Program} {w : World} {H0 : Hp} {d p : Addr} {ss : List Nat} {ks : List Nd} {wt wt' : List (List Nd × Nat)} {H : Hp} {xs' : List V} (f : FI md P w H0 d p ss ks wt H) (h0 : H0 p = none) (h : LR (RWt md ss p) H xs' wt') (few : wt'.length ≤ ks.length + 1) : FI md P w H0 d p ss ks wt' (upd H p (.lst xs')) := by
  obtain ⟨ka, e1, e2, e3⟩ := f.kn
  obtain ⟨xs, e4, e5⟩ := f.wa
  have ne : d ≠ p := fun z => by
    rw [z, e4] at e2
    exact kn_ne_lst _ (Option.some.inj e2).symm
  have tp : Tups H (upd H p (.lst xs')) := tups_upd (not_tup_lst e4)
  refine ⟨same_upd f.sm h0, ⟨ka, e1, by rw [upd_ne ne]; exact e2, e3.mono tp⟩, ⟨xs', upd_same, h.mono fun x y r => r.kd (d := d) (fun b o _ np h => by rw [upd_ne np]; exact h) (fun ys z => ?_) (fun ys z => ?_) (fun ys z => ?_)⟩, f.nd, few⟩
  · rw [e2] at z
    exact kn_ne_tup ys (Option.some.inj z)
  · rw [e2] at z
    exact kn_ne_lst ys (Option.some.inj z)
  · rw [e4] at z
    cases z
theorem In.fi {md : Bool} {P : Program} {w : World} {H0 H1 : Hp} {d p D : Addr} {ss : List Nat} {ks fd : List Nd} {wt : List (List Nd × Nat)} {H : Hp} (J : In md P w H0 H1 d D ks fd H) (I : FI md P w H0 d p ss ks wt H1) : FI md P w H0 d p ss (ks ++ fd) wt H := by
  obtain ⟨ka, e1, e2, e3⟩ := I.kn
  obtain ⟨xs, e4, e5⟩ := I.wa
  have ne : p ≠ d := fun z => by
    rw [z, e2] at e4
    exact kn_ne_lst _ (Option.some.inj e4)
  refine ⟨J.sm, J.kn, ⟨xs, J.kd _ _ ne e4, e5.mono fun x y r => r.kd (d := d) (fun b o nd _ h => J.kd b o nd h) (fun ys z => ?_) (fun ys z => ?_) (fun ys z => ?_)⟩, J.nd, ?_⟩
  · rw [e2] at z
    exact kn_ne_tup ys (Option.some.inj z)
  · rw [e2] at z
    exact kn_ne_lst ys (Option.some.inj z)
  · rw [e4] at z
    cases z
  · have := I.few
    rw [List.length_append]
    omega
theorem signs_row (ss : List Nat) {i : Nat} {x : V} (h : (ss.map fun c => V.str (sg c))[i]? = some x) : ∃ c, ss[i]? = some c ∧ x = .str (sg c) := by
  rw [List.getElem?_map] at h
  obtain ⟨c, e1, e2⟩ := Option.map_eq_some_iff.mp h
  exact ⟨c, e1, e2.symm⟩
section
variable {P : Program} {w : World} {K : PySem.W.Frag} {mg : Str → Option Value} {base : Heap}
theorem cl_first (k : Nat) (F0 : Has K mg "first_text" s_first_text) : FCal P w K mg base k := by
  obtain ⟨f0, fd0, F, hg0⟩ := F0
  have hbind := FunD.bindsN (ps := ["signs", "start", "goal", "nexts"]) F (fun _ _ _ _ _ _ us hl => match us, hl with | [_, _, _, _], _ => rfl)
  refine ⟨f0, fd0, fun A outer s H args us vs Q hr e0 hb r h => ?_, hg0, F.kp, hbind⟩
  obtain ⟨oc, od, dV, kV, doc, pm, an, cdv, ct, osl, rfl, lk, hcd, _, _⟩ := F.ex
  obtain ⟨NF0, fr, ws, C, nf, hA⟩ := h
  obtain ⟨md, g, G, f, sa, pst, pgo, ss, start, goal, rfl, Fn, hf, hfc, hG, hGH, hsa, lss, sb, hst, gst, hgo, ggo, hg, q⟩ := hA.ex
  refine fn_run lk hcd s_first_text_sc hr e0 hb r rfl fun hr2 => ?_
  have nd := s_first_text_sc.nd
  have room : Room k (cxOf CX0 P w K mg base s_first_text_N "first_text" (defScope s_first_text) f0 cdv A outer s H E0).nox.A := hr2
  have hu9 : (cxOf CX0 P w K mg base s_first_text_N "first_text" (defScope s_first_text) f0 cdv A outer s H E0).nox.A.units + 9 < cLine := by
    have := room.units
    omega
  have hu65 : (cxOf CX0 P w K mg base s_first_text_N "first_text" (defScope s_first_text) f0 cdv A outer s H E0).nox.A.units + 64 < cLine := room.units
  refine ⟨_, PSs.nox (pss_cons (ps_set (i := 4) nd rfl (.inl rfl) (pe_knewP (P := P) (w := w) rfl rfl))
    (pss_cons (ps_set (i := 5) nd rfl (.inl rfl) (pe_lst (pa_cons (pe_tup (pa_cons (pe_lst (pa_cons (pv 1) pa_nil)) (pa_cons pe_str pa_nil))) pa_nil)))
    (pss_cons (ps_while PassesOwn.never (pt_cmpR (op_neD hu65) (pv 5) (pe_lst pa_nil) (nomark _))
      (pss_cons (ps_asg (pe_bm PySem.F.plainAttrs_list PySem.F.slot_list_pop PySem.F.type_list_pop mt_popAt (pv 5) (pa_cons pe_int pa_nil)) (pg_tup rfl (pgs_cons (pg_name (i := 6) nd rfl (.inl rfl)) (pgs_cons (pg_name (i := 7) nd rfl (.inl rfl)) pgs_nil))))
      (pss_one (ps_for PassesOwn.never rfl (pi_list (pv 0)) (pg_name (i := 8) nd rfl (.inl rfl))
        (pss_cons (ps_set (i := 9) nd rfl (.inl rfl) (pe_lst pa_nil))
        (pss_cons (ps_for PassesOwn.never rfl (pi_list (pv 6)) (pg_name (i := 10) nd rfl (.inl rfl))
          (pss_one (ps_for PassesOwn.never rfl (pi_list (pe_nx (i := 3) Fn (fun _ => C) (fun _ => nf) rfl room (Nat.le_refl k) rfl (.inl rfl) (pa_cons (pv 10) (pa_cons (pv 8) pa_nil)))) (pg_name (i := 11) nd rfl (.inl rfl))
            (pss_one (ps_if (pt_cmpR (op_knnotP (P := P) (w := w) rfl rfl hu9) (pv 11) (pv 4) (by rfl))
              (pss_cons (ps_knputP (P := P) (w := w) rfl rfl hu9 (pv 4) (pv 11) pe_bl rfl)
              (pss_one (ps_expr (pe_bm PySem.F.plainAttrs_list PySem.F.slot_list_append PySem.F.type_list_append mt_append (pv 9) (pa_cons (pv 11) pa_nil))))) pss_nil)))))
        (pss_cons (ps_if (pt_cmpR (op_inD (by have := room.un; omega)) (pv 2) (pv 9) (by rfl)) (pss_one (ps_ret (pe_op op_add_str (pv 7) (pv 8)))) pss_nil)
        (pss_one (ps_if (pt_cmpR (op_neD hu65) (pv 9) (pe_lst pa_nil) (nomark _))
          (pss_one (ps_expr (pe_bm PySem.F.plainAttrs_list PySem.F.slot_list_append PySem.F.type_list_append mt_append (pv 5) (pa_cons (pe_tup (pa_cons (pv 9) (pa_cons (pe_op op_add_str (pv 7) (pv 8)) pa_nil))) pa_nil)))) pss_nil)))))))))
    (pss_one (ps_ret pe_non))))), ?_⟩
  intro d hd
  have s0 : Same H (upd H d (KnO P w d [])) := same_new hd
  have f0' : (upd H d (KnO P w d [])) d = some (KnO P w d []) := upd_same
  generalize upd H d (KnO P w d []) = Ha at s0 f0' ⊢
  refine ⟨_, rfl, by show 1 ≤ sizeLine; decide, fun b1 hb1 => ?_⟩
  have s1 : Same Ha (upd Ha b1 (.lst [.ref pst])) := same_new hb1
  have e1 : (upd Ha b1 (.lst [.ref pst])) b1 = some (.lst [.ref pst]) := upd_same
  generalize upd Ha b1 (.lst [.ref pst]) = Hb at s1 e1 ⊢
  refine ⟨by show 2 ≤ sizeLine; decide, fun t1 ht1 => ?_⟩
  have s2 : Same Hb (upd Hb t1 (.tup [.ref b1, .str ""])) := same_new ht1
  have e2 : (upd Hb t1 (.tup [.ref b1, .str ""])) t1 = some (.tup [.ref b1, .str ""]) := upd_same
  generalize upd Hb t1 (.tup [.ref b1, .str ""]) = Hc at s2 e2 ⊢
  refine ⟨by show 1 ≤ sizeLine; decide, fun p hp => ?_⟩
  have s3 : Same Hc (upd Hc p (.lst [.ref t1])) := same_new hp
  have e3 : (upd Hc p (.lst [.ref t1])) p = some (.lst [.ref t1]) := upd_same
  have s02 := (s0.trans s1).trans s2
  have np : H p = none := s02.free hp
  have b1p : b1 ≠ p := fun z => by
    rw [← z, s2 _ _ e1] at hp
    cases hp
  have dp : d ≠ p := fun z => by
    rw [← z, s2 _ _ (s1 _ _ f0')] at hp
    cases hp
  have t1p : t1 ≠ p := fun z => by
    rw [← z, e2] at hp
    cases hp
  have I0 : FI md P w H d p ss [] [([start], 0)] (upd Hc p (.lst [.ref t1])) := by
    refine ⟨s02.trans s3, ⟨[], rfl, s3 _ _ (s2 _ _ (s1 _ _ f0')), fun _ h => (by cases h)⟩, ⟨_, e3, LR.cons_iff.mpr ⟨⟨t1, b1, [.ref pst], rfl, ?_, b1p, s3 _ _ (s2 _ _ e1), LR.cons_iff.mpr ⟨⟨pst, rfl, s3 _ _ (s02 _ _ hst), gst⟩, LR.nil⟩⟩, LR.nil⟩⟩, List.nodup_nil, by simp⟩
    have z := s3 _ _ e2
    rw [z, wd_zero]
    rfl
  generalize upd Hc p (.lst [.ref t1]) = Hd at I0 ⊢
  refine ⟨fun μ σ H' => ∃ ks wt qq y6 y7 y8 y9 y10 y11, μ = wt.length + (1728 - ks.length) ∧ σ = [some (.ref sa), some (.ref pst), some (.ref pgo), some (.ref f), some (.ref d), some (.ref p), y6, y7, y8, y9, y10, y11] ∧ FI md P w H d p ss ks wt H' ∧ BInv ss g start goal ks wt qq,
    ⟨_, [], _, 0, _, _, _, _, _, _, rfl, rfl, I0, bfs_init⟩, fun μ σ H' hW => ?_⟩
  obtain ⟨ks, wt, qq, y6, y7, y8, y9, y10, y11, rfl, rfl, I, B⟩ := hW
  clear I0
  refine ⟨_, rfl, Nat.zero_le _, fun z hz => ?_⟩
  have sz : Same H' (upd H' z (.lst [])) := same_new hz
  have Iz := I.same sz
  have ez : (upd H' z (.lst [])) z = some (.lst []) := upd_same
  generalize upd H' z (.lst []) = H1 at Iz ez ⊢
  clear I sz hz
  obtain ⟨xw, hxw, lrw⟩ := Iz.wa
  refine ⟨_, _, dp_wt hxw lrw, dp_nil ez, (wt_fit md sb wt).shaped, nil_fit.shaped, ?_⟩
  rw [eqv_nilA]
  cases wt with
  | nil =>
    refine ⟨false, rfl, iteF ?_⟩
    have e := bfs_end hg B
    rw [e] at q
    exact q H1 Iz.sm fun w z => by cases z
  | cons e rest =>
    obtain ⟨N, pp⟩ := e
    refine ⟨true, rfl, iteT ?_⟩
    obtain ⟨S, hN, lpp⟩ := bfs_pop hg B
    refine ⟨fun σ' H2 => ∃ μ', μ' < ((N, pp) :: rest).length + (1728 - ks.length) ∧ ∃ ks wt qq y6 y7 y8 y9 y10 y11, μ' = wt.length + (1728 - ks.length) ∧ σ' = [some (.ref sa), some (.ref pst), some (.ref pgo), some (.ref f), some (.ref d), some (.ref p), y6, y7, y8, y9, y10, y11] ∧ FI md P w H d p ss ks wt H2 ∧ BInv ss g start goal ks wt qq,
      fun σ' H2 h => h, ?_⟩
    obtain ⟨x0, xr, rfl⟩ : ∃ x0 xr, xw = x0 :: xr := by
      have := lrw.1
      cases xw with
      | nil => cases this
      | cons a b => exact ⟨a, b, rfl⟩
    obtain ⟨hx0, lrr⟩ := LR.cons_iff.mp lrw
    obtain ⟨a0, b, xsN, rfl, ha0, hbp, hb, lrN⟩ := hx0
    have few0 := Iz.few
    refine ⟨_, rfl, .inl ⟨rfl, _, .inl (.inl hxw)⟩, p, .ref a0 :: xr, 0, 0, .ref a0, rfl, rfl, hxw, by decide, by decide, by simp [seqIndex?], rfl, ?_⟩
    have I2 : FI md P w H d p ss ks rest (upd H1 p (.lst xr)) := Iz.setp np lrr (by simp only [List.length_cons] at few0; omega)
    have ha2 : (upd H1 p (.lst xr)) a0 = some (.tup [.ref b, .str (txt (wd ss pp))]) := by
      rw [upd_ne (fun z => by rw [z, hxw] at ha0; cases ha0)]
      exact ha0
    have hb2 : (upd H1 p (.lst xr)) b = some (.lst xsN) := by
      rw [upd_ne hbp]
      exact hb
    have lrN2 : LR (RNd md) (upd H1 p (.lst xr)) xsN N := lrN.mono fun x y r => r.mono (tups_upd (not_tup_lst hxw))
    show _
    change gTup K 2 (gCons (gName 6) (gCons (gName 7) gNil)) (.ref a0) _ (upd H1 p (.lst xr)) _
    generalize upd H1 p (.lst xr) = H2 at I2 ha2 hb2 lrN2 ⊢
    refine ⟨a0, _, rfl, .inl (.inl ha2), rfl, _, _, rfl, _, _, rfl, rfl, ?_⟩
    clear ha0 hb lrN hxw lrw lrr Iz ez
    have hsa2 := I2.sm _ _ hsa
    have nbd : b ≠ d := fun z => by
      obtain ⟨ka, _, e2, _⟩ := I2.kn
      rw [z, e2] at hb2
      exact kn_ne_lst _ (Option.some.inj hb2)
    refine ⟨_, rfl, sa, rfl, ⟨_, .inl (.inl hsa2)⟩, ?_⟩
    refine for_it walk_list (fun i σ H3 => ∃ ks' wt' y8 y9 y10 y11, σ = [some (.ref sa), some (.ref pst), some (.ref pgo), some (.ref f), some (.ref d), some (.ref p), some (.ref b), some (.str (txt (wd ss pp))), y8, y9, y10, y11] ∧ FI md P w H d p ss ks' wt' H3 ∧ SInv ss g start goal ks' wt' pp i ∧ H3 b = some (.lst xsN) ∧ LR (RNd md) H3 xsN N ∧ wt'.length + ks.length ≤ rest.length + ks'.length ∧ ks.length ≤ ks'.length)
      ⟨ks, rest, _, _, _, _, rfl, I2, S, hb2, lrN2, Nat.le_refl _, Nat.le_refl _⟩ (fun i σ H3 _ ⟨_, _, _, _, _, _, _, I3, _⟩ => .inl (.inl (I3.sm _ _ hsa))) (fun i x σ H3 H4 hi ⟨ks', wt', y8, y9, y10, y11, e, I3, S3, hb3, lN3, me1, me2⟩ y => ?_) (fun σ H3 ⟨ks', wt', y8, y9, y10, y11, e, I3, S3, _, _, me1, me2⟩ => ?_)
    · subst e
      obtain ⟨rfl, ex⟩ := y
      obtain ⟨c, hc, rfl⟩ := signs_row ss ex
      rw [List.length_map] at hi
      have cc : ss.getD i 0 = c := by
        rw [List.getD_eq_getElem?_getD, hc]
        rfl
      have cm : c ∈ ss := List.mem_of_getElem? hc
      refine ⟨Nat.zero_le _, fun D hD => ?_⟩
      have sD : Same H4 (upd H4 D (.lst [])) := same_new hD
      have eD : (upd H4 D (.lst [])) D = some (.lst []) := upd_same
      have h0D : H D = none := I3.sm.free hD
      obtain ⟨ka0, k1, k2, k3⟩ := I3.kn
      obtain ⟨xw3, w1, w2⟩ := I3.wa
      have J0 : In md P w H H4 d D ks' [] (upd H4 D (.lst [])) := ⟨I3.sm.trans sD, fun a o _ h => sD a o h, ⟨ka0, by rw [List.append_nil]; exact k1, sD _ _ k2, k3.mono (Same.tups sD)⟩, ⟨[], eD, LR.nil⟩, by rw [List.append_nil]; exact I3.nd⟩
      generalize upd H4 D (.lst []) = H5 at J0 ⊢
      refine ⟨_, rfl, b, rfl, ⟨xsN, .inl (.inl (J0.kd _ _ nbd hb3))⟩, ?_⟩
      refine for_it walk_list (fun j σ H6 => ∃ fd y10 y11, σ = [some (.ref sa), some (.ref pst), some (.ref pgo), some (.ref f), some (.ref d), some (.ref p), some (.ref b), some (.str (txt (wd ss pp))), some (.str (sg c)), some (.ref D), y10, y11] ∧ In md P w H H4 d D ks' fd H6 ∧ ∀ x, x ∈ fd ↔ x ∉ ks' ∧ ∃ y ∈ N.take j, g y c x)
        ⟨[], _, _, rfl, J0, fun x => ⟨fun h => (by cases h), fun ⟨_, y, h, _⟩ => (by cases h)⟩⟩ (fun j σ H6 _ ⟨_, _, _, _, J, _⟩ => .inl (.inl (J.kd _ _ nbd hb3))) (fun j x σ H6 H7 hj ⟨fd, y10, y11, e, J, hfd⟩ y => ?_) (fun σ H6 ⟨fd, y10, y11, e, J, hfd⟩ => ?_)
      · subst e
        obtain ⟨rfl, ex2⟩ := y
        obtain ⟨n, en, an, rfl, han, gn⟩ := lN3.at ex2
        have han7 : H7 an = some (.tup (ndV md n)) := J.kd _ _ (fun z => by rw [z, k2] at han; exact kn_ne_tup _ (Option.some.inj han)) han
        refine ⟨rfl, J.sm _ _ hf, _, rfl, _, rfl, J.sm _ _ hf, J.sm _ _ hfc, rfl, an, n, c, rfl, han7, gn, cm, hG _ _ J.sm hGH, fun H8 L l s8 nL hL hl => ?_⟩
        obtain ⟨xsL, hxL, lrL⟩ := hL
        have J8 := J.same s8
        have nLD : L ≠ D := fun z => by
          obtain ⟨xs, e4, _⟩ := J.fo
          rw [z, e4] at nL
          cases nL
        have nLd : L ≠ d := fun z => by
          obtain ⟨ka, _, e4, _⟩ := J.kn
          rw [z, e4] at nL
          cases nL
        refine ⟨L, rfl, ⟨xsL, .inl (.inl hxL)⟩, ?_⟩
        refine for_it walk_list (fun k σ H9 => ∃ fd' y11, σ = [some (.ref sa), some (.ref pst), some (.ref pgo), some (.ref f), some (.ref d), some (.ref p), some (.ref b), some (.str (txt (wd ss pp))), some (.str (sg c)), some (.ref D), some (.ref an), y11] ∧ In md P w H H4 d D ks' fd' H9 ∧ (H9 L = some (.lst xsL) ∧ LR (RNd md) H9 xsL l) ∧ ∀ x, x ∈ fd' ↔ x ∈ fd ∨ (x ∉ ks' ∧ x ∈ l.take k))
          ⟨fd, _, rfl, J8, ⟨hxL, lrL⟩, fun x => ⟨.inl, fun h => h.elim id fun z => (by cases z.2)⟩⟩ (fun k σ H9 _ ⟨_, _, _, _, h, _⟩ => .inl (.inl h.1)) (fun k x σ H9 H10 hk ⟨fd', y11, e, J9, ⟨hx9, lr9⟩, hfd'⟩ y => ?_) (fun σ H9 ⟨fd', y11, e, J9, _, hfd'⟩ => ?_)
        · subst e
          obtain ⟨rfl, ex3⟩ := y
          obtain ⟨m, em, am, rfl, ham, gm⟩ := lr9.at ex3
          obtain ⟨ka, ka1, ka2, ka3⟩ := J9.kn
          refine ⟨_, rfl, _, rfl, md, am, d, m, ka, rfl, rfl, ham, gm, ka2, ka3, _, rfl, ?_⟩
          rw [ka1]
          by_cases hm : m ∈ ks' ++ fd'
          · rw [decide_eq_true hm]
            refine iteF ?_
            refine ⟨fd', _, rfl, J9, ⟨hx9, lr9⟩, fun x => ?_⟩
            rw [mem_take1 em, hfd' x]
            refine ⟨fun h => h.imp id fun z => ⟨z.1, .inl z.2⟩, fun h => ?_⟩
            rcases h with h | ⟨h1, h2 | h2⟩
            · exact .inl h
            · exact .inr ⟨h1, h2⟩
            · subst h2
              rcases List.mem_append.mp hm with z | z
              · exact absurd z h1
              · exact (hfd' x).mp z
          · rw [decide_eq_false hm]
            refine iteT ?_
            obtain ⟨kb, xs, kb1, kb2, kb3, kb4, kb5, kb6, kb7, Jn⟩ := J9.put hd hD h0D ham gm hm
            refine ⟨_, rfl, _, rfl, md, d, am, m, kb, rfl, rfl, rfl, ham, gm, kb2, kb3, kb4, kb5, ?_⟩
            refine ⟨_, rfl, .inl ⟨rfl, _, .inl (.inl kb6)⟩, _, rfl, D, xs, .ref am, rfl, rfl, kb6, kb7, ?_⟩
            refine ⟨fd' ++ [m], _, rfl, Jn, ⟨?_, ?_⟩, fun x => ?_⟩
            · rw [upd_ne nLD, upd_ne nLd]
              exact hx9
            · refine lr9.mono fun x y r => r.mono (Tups.trans (tups_upd fun ys z => ?_) (tups_upd (not_tup_lst kb6)))
              rw [kb2] at z
              exact kn_ne_tup _ (Option.some.inj z)
            · rw [mem_take1 em, List.mem_append, List.mem_singleton, hfd' x]
              constructor
              · rintro ((h | h) | h)
                · exact .inl h
                · exact .inr ⟨h.1, .inl h.2⟩
                · exact .inr ⟨fun z => hm (by rw [← h]; exact List.mem_append_left _ z), .inr h⟩
              · rintro (h | ⟨h1, h2 | h2⟩)
                · exact .inl (.inl h)
                · exact .inl (.inr ⟨h1, h2⟩)
                · exact .inr h2
        · refine ⟨fd', _, _, e, J9, fun x => ?_⟩
          rw [hfd' x, hfd x, lrL.1, List.take_length]
          constructor
          · rintro (⟨h1, y, h2, h3⟩ | ⟨h1, h2⟩)
            · exact ⟨h1, y, (mem_take1 en y).mpr (.inl h2), h3⟩
            · exact ⟨h1, n, (mem_take1 en n).mpr (.inr rfl), (hl x).mp h2⟩
          · rintro ⟨h1, y, h2, h3⟩
            rcases (mem_take1 en y).mp h2 with h2 | h2
            · exact .inl ⟨h1, y, h2, h3⟩
            · rw [h2] at h3
              exact .inr ⟨h1, (hl x).mpr h3⟩
      · subst e
        rw [lN3.1, List.take_length] at hfd
        have I6 := J.fi I3
        have f6 := J.few1
        rw [List.length_append] at f6
        have hf2 : ∀ x, x ∈ fd ↔ x ∉ ks' ∧ ∃ y ∈ N, g y (ss.getD i 0) x := fun x => by
          rw [cc]
          exact hfd x
        have lw : (txt (wd ss pp)).length + (sg c).length ≤ sizeLine := by
          rw [txt_len]
          show (wd ss pp).length + 1 ≤ _
          exact Nat.le_trans (Nat.add_le_add_right (Nat.le_trans lpp (Nat.le_trans me2 (Nat.le_trans (Nat.le_add_right _ _) f6))) 1) (by decide)
        refine ⟨_, rfl, _, rfl, ndD md goal, fd.map (ndD md), dp_nd (J.sm _ _ hgo), dp_nds J.fo, (ndD_fit md goal).shaped, (nds_fit md fd).shaped, _, rfl, ?_⟩
        rw [nd_any ggo fun n hn => J.gd n (List.mem_append_right _ hn)]
        by_cases hq : goal ∈ fd
        · rw [decide_eq_true hq]
          refine iteT ?_
          refine ⟨_, rfl, _, rfl, _, _, rfl, rfl, lw, ?_⟩
          rw [txt_snoc]
          have e := bfs_hit hg S3 hi hN hf2 hq
          rw [e, cc] at q
          refine q H6 J.sm fun w z => ?_
          have z := Option.some.inj z
          rw [← z, List.length_append]
          simp only [List.length_cons, List.length_nil]
          omega
        · rw [decide_eq_false hq]
          refine iteF ?_
          have S4 := bfs_step hg S3 hi hN hf2 hq (Nat.le_trans lpp me2)
          refine ⟨_, rfl, Nat.zero_le _, fun z2 hz2 => ?_⟩
          have s7 : Same H6 (upd H6 z2 (.lst [])) := same_new hz2
          have J7 := J.same s7
          have I7 := I6.same s7
          have ez2 : (upd H6 z2 (.lst [])) z2 = some (.lst []) := upd_same
          have hb7 : (upd H6 z2 (.lst [])) b = some (.lst xsN) := J7.kd _ _ nbd hb3
          have lN7 : LR (RNd md) (upd H6 z2 (.lst [])) xsN N := lN3.mono fun x y r => r.mono fun a ys h => J7.kd _ _ (fun z => by rw [z, k2] at h; exact kn_ne_tup _ (Option.some.inj h)) h
          generalize upd H6 z2 (.lst []) = H7 at J7 I7 ez2 hb7 lN7 ⊢
          refine ⟨_, _, dp_nds J7.fo, dp_nil ez2, (nds_fit md fd).shaped, nil_fit.shaped, ?_⟩
          rw [eqv_nilA]
          cases hfe : fd with
          | nil =>
            refine ⟨false, rfl, iteF ?_⟩
            rw [hfe, if_pos rfl] at S4
            rw [hfe] at I7
            exact ⟨_, wt', _, _, _, _, rfl, I7, S4, hb7, lN7, by rw [List.append_nil]; exact me1, by rw [List.append_nil]; exact me2⟩
          | cons n0 fd0 =>
            refine ⟨true, rfl, iteT ?_⟩
            rw [if_neg (by rw [hfe]; exact fun z => by cases z)] at S4
            obtain ⟨xw7, v1, v2⟩ := I7.wa
            obtain ⟨xsD, v3, v4⟩ := J7.fo
            refine ⟨_, rfl, .inl ⟨rfl, _, .inl (.inl v1)⟩, _, rfl, _, rfl, _, rfl, _, _, rfl, rfl, lw, by show 2 ≤ sizeLine; decide, fun t ht => ?_⟩
            rw [txt_snoc]
            have s8 : Same H7 (upd H7 t (.tup [.ref D, .str (txt (wd ss pp ++ [c]))])) := same_new ht
            have J8 := J7.same s8
            have I8 := I7.same s8
            have et : (upd H7 t (.tup [.ref D, .str (txt (wd ss pp ++ [c]))])) t = some (.tup [.ref D, .str (txt (wd ss pp ++ [c]))]) := upd_same
            have hb8 := s8 _ _ hb7
            have lN8 : LR (RNd md) (upd H7 t (.tup [.ref D, .str (txt (wd ss pp ++ [c]))])) xsN N := lN7.mono fun x y r => r.mono (Same.tups s8)
            have v1' := s8 _ _ v1
            have v3' := s8 _ _ v3
            generalize upd H7 t (.tup [.ref D, .str (txt (wd ss pp ++ [c]))]) = H8 at J8 I8 et hb8 lN8 v1' v3' ⊢
            obtain ⟨xw8, u1, u2⟩ := I8.wa
            obtain ⟨xsD8, u3, u4⟩ := J8.fo
            rw [v1'] at u1
            cases u1
            rw [v3'] at u3
            cases u3
            have few8 := I8.few
            have nDp : D ≠ p := fun z => by
              rw [z, w1] at hD
              cases hD
            have hk : (ks' ++ fd).length ≤ 1728 := I8.few1
            have lt8 : xw7.length < sizeLine := by
              rw [u2.1]
              exact Nat.lt_of_le_of_lt (Nat.le_trans few8 (Nat.add_le_add_right hk 1)) (by decide)
            refine ⟨p, xw7, .ref t, rfl, rfl, v1', lt8, ?_⟩
            have hfl : 1 ≤ fd.length := by
              rw [hfe]
              simp
            have item : RWt md ss p H8 (.ref t) (fd, ss.length * pp + i + 1) := ⟨t, D, xsD, rfl, by show H8 t = some (.tup [.ref D, .str (txt (wd ss (ss.length * pp + i + 1)))]); rw [wd_step hi, cc]; exact et, nDp, v3', u4⟩
            refine ⟨_, _, _, _, _, _, rfl, I8.setp np (LR.snoc u2 item) ?_, S4, ?_, lN8.mono fun x y r => r.mono (tups_upd (not_tup_lst v1')), ?_, ?_⟩
            · have fw := I3.few
              rw [List.length_append, List.length_append]
              simp only [List.length_cons, List.length_nil]
              omega
            · rw [upd_ne hbp]
              exact hb8
            · rw [List.length_append, List.length_append]
              simp only [List.length_cons, List.length_nil]
              omega
            · rw [List.length_append]
              omega
    · subst e
      rw [List.length_map] at S3
      have B3 := bfs_done S3
      have f3 := I3.few1
      refine ⟨_, ?_, ks', wt', _, _, _, _, _, _, _, rfl, rfl, I3, B3⟩
      simp only [List.length_cons]
      omega
end
end K44

set_option Elab.async false
set_option linter.all false
set_option maxRecDepth 100000
set_option maxHeartbeats 8000000
namespace K44
open PySem PySem.Spec PyProof.Rows L2 NdefX LamX
/-! ### the table by rooms and signs -/
def TabAt (tb : Addr) (steps : List (Nat × Nat × Nat)) (H : Hp) : Prop := ∃ kvs : List (List Key × V), H tb = some (.dT kvs) ∧ ∀ x c : Nat, ∃ l : List Nat, (∀ y, y ∈ l ↔ (x, c, y) ∈ steps) ∧ l.length ≤ 12 ∧
  ((valV kvs [Sum.inl (x : Int), Sum.inr (sg c)] = none ∧ l = []) ∨ ∃ a, valV kvs [Sum.inl (x : Int), Sum.inr (sg c)] = some (.ref a) ∧ IntsAt H a l)
theorem TabAt.same {tb : Addr} {steps : List (Nat × Nat × Nat)} (H H' : Hp) (s : Same H H') (h : TabAt tb steps H) : TabAt tb steps H' := by
  obtain ⟨kvs, h1, h2⟩ := h
  refine ⟨kvs, s _ _ h1, fun x c => ?_⟩
  obtain ⟨l, e1, e2, e3⟩ := h2 x c
  exact ⟨l, e1, e2, e3.imp id fun ⟨a, e4, e5⟩ => ⟨a, e4, s _ _ e5⟩⟩
theorem tab_get {tb : Addr} {steps : List (Nat × Nat × Nat)} {H0 H : Hp} (h : TabAt tb steps H0) (sm : Same H0 H) {t z : Addr} {x c : Nat} (ht : H t = some (.tup [nv x, .str (sg c)])) (hz : H z = some (.lst [])) :
    ∃ o a l, DGet H tb (.ref t) o ∧ o.getD (.ref z) = .ref a ∧ IntsAt H a l ∧ (∀ y, y ∈ l ↔ (x, c, y) ∈ steps) ∧ l.length ≤ 12 ∧ (a = z ∨ H0 a ≠ none) := by
  obtain ⟨kvs, h1, h2⟩ := h
  obtain ⟨l, e1, e2, e3⟩ := h2 x c
  have g : DGet H tb (.ref t) (valV kvs [Sum.inl (x : Int), Sum.inr (sg c)]) := DGet.t (sm _ _ h1) ht
  rcases e3 with ⟨e3, e4⟩ | ⟨a, e3, e4⟩
  · rw [e3] at g
    refine ⟨none, z, l, g, rfl, ?_, e1, e2, .inl rfl⟩
    rw [e4]
    exact hz
  · rw [e3] at g
    exact ⟨_, a, l, g, rfl, sm _ _ e4, e1, e2, .inr fun z => by rw [show H0 a = _ from e4] at z; cases z⟩
theorem LR.app {α : Type} {R : Hp → V → α → Prop} {H : Hp} {xs ys : List V} {l l' : List α} (h : LR R H xs l) (h' : LR R H ys l') : LR R H (xs ++ ys) (l ++ l') := by
  refine ⟨by rw [List.length_append, List.length_append, h.1, h'.1], fun i x y hx hy => ?_⟩
  by_cases hi : i < xs.length
  · rw [List.getElem?_append_left hi] at hx
    rw [List.getElem?_append_left (by rw [← h.1]; exact hi)] at hy
    exact h.2 i x y hx hy
  · rw [List.getElem?_append_right (by omega)] at hx
    rw [List.getElem?_append_right (by rw [← h.1]; omega), ← h.1] at hy
    exact h'.2 _ x y hx hy
theorem tab_isD {tb : Addr} {steps : List (Nat × Nat × Nat)} {H : Hp} (h : TabAt tb steps H) : IsD H tb := by
  obtain ⟨kvs, h1, _⟩ := h
  exact .inr ⟨kvs, .inl h1⟩
/-! ### the defs within -/
abbrev s_dn : Stmt := (defBody s_double_text).getD 0 (.Pass ⟨0, 0, 0, 0⟩)
abbrev s_dn_N : List Str := ["here", "sign", "table", "one", "other", "parted", "found", "to", "too"]
theorem s_dn_sc : OScope s_dn_N ["here", "sign"] ["table"] (C8.fnScope s_dn) := ⟨rfl, rfl, rfl, by decide +kernel, rfl, by decide +kernel, by decide +kernel, by decide +kernel, by decide +kernel⟩
abbrev s_ln : Stmt := (defBody s_led_text).getD 0 (.Pass ⟨0, 0, 0, 0⟩)
abbrev s_ln_N : List Str := ["here", "sign", "table", "one", "two", "three", "found", "to", "too", "last"]
theorem s_ln_sc : OScope s_ln_N ["here", "sign"] ["table"] (C8.fnScope s_ln) := ⟨rfl, rfl, rfl, by decide +kernel, rfl, by decide +kernel, by decide +kernel, by decide +kernel, by decide +kernel⟩
theorem nd_mk {md : Bool} {H : Hp} {p : Addr} {n : Nd} (h : H p = some (.tup (ndV md n))) (g : gdN md n) : RNd md H (.ref p) n := ⟨p, rfl, h, g⟩
section
variable {P : Program} {w : World} {K : PySem.W.Frag} {mg : Str → Option Value} {base : Heap}
theorem nok_double {m : Mach} (ok : MOk m) {ss : List Nat} {tb f c0 : Addr} {q0 : Str} {cl : List (Str × Addr)} (k : Nat) :
    NOk P w K mg base C8.CX0 (k + 1) f (NF.of s_dn "nexts" q0 cl c0) ["here", "sign"] ["table"] (sp_next true (gD m) (TabAt tb (trimM m).steps) ss [some (.ref tb)]) := by
  refine nok_own (N := s_dn_N) s_dn_sc (fun _ _ _ us hl => match us, hl with | [_, _], _ => rfl) (fun ws vs H Q E h => ?_) (fun A outer s H vs ws Q E hr hf hc hl h => ?_)
  · obtain ⟨_, _, _, _, rfl, _⟩ := h
    rfl
  · obtain ⟨rfl, p, n, c, rfl, hp, gn, cm, hT, q⟩ := h
    have nd := s_dn_sc.nd
    have hu : (ocx C8.CX0 P w K mg base s_dn_N (NF.of s_dn "nexts" q0 cl c0) f A outer s H E).nox.A.units + 1 < cLine := hu_of hr
    have top := ok.top
    refine ⟨_, pss_cons (ps_asg (pv 0) (pg_tup rfl (pgs_cons (pg_name (i := 3) nd rfl (.inl rfl)) (pgs_cons (pg_name (i := 4) nd rfl (.inl rfl)) (pgs_cons (pg_name (i := 5) nd rfl (.inr rfl)) pgs_nil)))))
      (pss_cons (ps_set (i := 6) nd rfl (.inl rfl) (pe_lst pa_nil))
      (pss_cons (ps_for PassesOwn.never rfl (pi_list (pe_dget2 hu (pv 2) (pe_tup (pa_cons (pv 3) (pa_cons (pv 1) pa_nil))) (pe_lst pa_nil) ⟨rfl, rfl, rfl, rfl⟩)) (pg_name (i := 7) nd rfl (.inr rfl))
        (pss_one (ps_expr (pe_bm PySem.F.plainAttrs_list PySem.F.slot_list_extend PySem.F.type_list_extend mt_extend (pv 6) (pa_cons
          (pe_lc (own := [("too", 8)]) (g := gName 8) (tt := tYes) rfl nd (pi_list (pe_dget2 hu (pv 2) (pe_tup (pa_cons (pv 4) (pa_cons (pv 1) pa_nil))) (pe_lst pa_nil) ⟨rfl, rfl, rfl, rfl⟩)) (blkOk_by (N := s_dn_N) (sc := C8.fnScope s_dn) (by decide +kernel))
            (fun _ _ _ _ _ => pg_name (i := 8) nd rfl (.inl rfl)) (fun _ _ _ _ _ => pts_nil)
            (fun _ _ _ _ _ => pe_tup (pa_cons (pv 7) (pa_cons (pv 8) (pa_cons (pe_or (pv 5) (pe_one (pe_cmpR op_ne (pv 7) (pv 8) (nomark _)))) pa_nil))))) pa_nil)))))
      (pss_one (ps_ret (pv 6))))), ?_⟩
    refine ⟨_, rfl, p, _, rfl, .inl (.inl hp), rfl, _, _, rfl, _, _, rfl, _, _, rfl, rfl, ?_⟩
    refine ⟨Nat.zero_le _, fun D hD => ?_⟩
    have s1 : Same H (upd H D (.lst [])) := same_new hD
    have eD : (upd H D (.lst [])) D = some (.lst []) := upd_same
    generalize upd H D (.lst []) = H1 at s1 eD ⊢
    refine ⟨_, rfl, tb, rfl, tab_isD (TabAt.same _ _ s1 hT), _, rfl, _, rfl, by show 2 ≤ sizeLine; decide, fun t ht => ⟨Nat.zero_le _, fun z hz => ?_⟩⟩
    have s2 : Same H1 (upd H1 t (.tup [nv n.1, .str (sg c)])) := same_new ht
    have et : (upd H1 t (.tup [nv n.1, .str (sg c)])) t = some (.tup [nv n.1, .str (sg c)]) := upd_same
    have hz : (upd H1 t (.tup [nv n.1, .str (sg c)])) z = none := hz
    change ∃ o, DGet (upd (upd H1 t (.tup [nv n.1, .str (sg c)])) z (.lst [])) tb (.ref t) o ∧ _
    generalize upd H1 t (.tup [nv n.1, .str (sg c)]) = H2 at s2 et hz ⊢
    have s3 : Same H2 (upd H2 z (.lst [])) := same_new hz
    have ez : (upd H2 z (.lst [])) z = some (.lst []) := upd_same
    generalize upd H2 z (.lst []) = H3 at s3 ez ⊢
    have s03 := s1.trans (s2.trans s3)
    obtain ⟨o, a, l, dg, eo, hl, hm, ll, an⟩ := tab_get hT s03 (s3 _ _ et) ez
    have nD : a ≠ D := by
      rcases an with e | e
      · rw [e]
        intro w
        rw [w, s2 _ _ eD] at hz
        cases hz
      · intro w
        rw [w] at e
        exact e hD
    refine ⟨o, dg, a, eo, ⟨_, .inl (.inl hl)⟩, ?_⟩
    have lt12 : ∀ x y, (x, c, y) ∈ (trimM m).steps → y < 12 := fun x y h => Nat.lt_of_lt_of_le (ok.sb _ (mem_trim.mp h).1).2.2 top
    refine for_it walk_list (fun k σ H' => ∃ fd y7 y8, σ = [some (.ref p), some (.str (sg c)), some (.ref tb), some (nv n.1), some (nv n.2.1), some (.bl (decide (n.2.2 = 1))), some (.ref D), y7, y8] ∧ Same H H' ∧ NdsAt true H' D fd ∧ IntsAt H' a l ∧ fd.length ≤ k * 12 ∧
        ∀ y : Nd, y ∈ fd ↔ y.1 ∈ l.take k ∧ (n.2.1, c, y.2.1) ∈ (trimM m).steps ∧ y.2.2 = if n.2.2 = 1 ∨ y.1 ≠ y.2.1 then 1 else 0)
      ⟨[], _, _, rfl, s03, ⟨[], s3 _ _ (s2 _ _ eD), LR.nil⟩, hl, Nat.zero_le _, fun y => ⟨fun h => (by cases h), fun h => (by cases h.1)⟩⟩ (fun k σ H' _ ⟨_, _, _, _, _, _, h, _⟩ => .inl (.inl h)) (fun k x σ H4 H4' hk ⟨fd, y7, y8, e, s4, hfd, hl4, lf, sp⟩ y => ?_) (fun σ H4 ⟨fd, y7, y8, e, s4, hfd, hl4, lf, sp⟩ => ?_)
    · subst e
      obtain ⟨rfl, ex⟩ := y
      obtain ⟨to, eto, rfl⟩ := (lr_nv H4' l).at ex
      have kl : k < 12 := by
        rw [List.length_map] at hk
        omega
      obtain ⟨xsD, hxD, lrD⟩ := hfd
      refine ⟨_, rfl, .inl ⟨rfl, _, .inl (.inl hxD)⟩, _, rfl, tb, rfl, tab_isD (TabAt.same _ _ s4 hT), _, rfl, _, rfl, by show 2 ≤ sizeLine; decide, fun t2 ht2 => ⟨Nat.zero_le _, fun z2 hz2 => ?_⟩⟩
      have s5 : Same H4' (upd H4' t2 (.tup [nv n.2.1, .str (sg c)])) := same_new ht2
      have et2 : (upd H4' t2 (.tup [nv n.2.1, .str (sg c)])) t2 = some (.tup [nv n.2.1, .str (sg c)]) := upd_same
      have hz2 : (upd H4' t2 (.tup [nv n.2.1, .str (sg c)])) z2 = none := hz2
      change ∃ o, DGet (upd (upd H4' t2 (.tup [nv n.2.1, .str (sg c)])) z2 (.lst [])) tb (.ref t2) o ∧ _
      generalize upd H4' t2 (.tup [nv n.2.1, .str (sg c)]) = H5 at s5 et2 hz2 ⊢
      have s6 : Same H5 (upd H5 z2 (.lst [])) := same_new hz2
      have ez2 : (upd H5 z2 (.lst [])) z2 = some (.lst []) := upd_same
      generalize upd H5 z2 (.lst []) = H6 at s6 ez2 ⊢
      have s46 := s5.trans s6
      have s06 := s4.trans s46
      obtain ⟨o2, a2, l2, dg2, eo2, hl2, hm2, ll2, _⟩ := tab_get hT s06 (s6 _ _ et2) ez2
      refine ⟨o2, dg2, a2, eo2, ⟨_, .inl (.inl hl2)⟩, fun D2 hD2 => ?_⟩
      refine lc_map (R := RNd true) grow_same (fun _ _ _ _ e h => h.mono e) (lr_nv H6 l2) (fun too => ((to, too, if n.2.2 = 1 ∨ to ≠ too then 1 else 0) : Nd)) (small1000 (by omega)) hD2 (fun H' sm => .inl (.inl (sm _ _ hl2))) (fun i x y H7 Ka ey ry sm ka => ?_) (fun H8 acc sm hA lr' => ?_) (mono_name 8)
      · subst ry
        refine ⟨rfl, ?_⟩
        have b1 : to < 12 := lt12 _ _ ((hm to).mp (List.mem_of_getElem? eto))
        have b2 : y < 12 := lt12 _ _ ((hm2 y).mp (List.mem_of_getElem? ey))
        have fin : ∀ v : V, v = .bl (decide ((if n.2.2 = 1 ∨ to ≠ y then 1 else 0) = 1)) → ∀ p7, H7 p7 = none → Ka (.ref p7) (upd H7 p7 (.tup [nv to, nv y, v])) := fun v ev p7 hp7 => by
          refine ka _ _ ⟨p7, rfl, ?_, ?_⟩ (same_new hp7)
          · rw [ev]
            exact upd_same
          · refine ⟨⟨b1, b2, ?_⟩, fun _ => ?_⟩
            · show (if n.2.2 = 1 ∨ to ≠ y then 1 else 0) < 12
              split <;> omega
            · show (if n.2.2 = 1 ∨ to ≠ y then 1 else 0) ≤ 1
              split <;> omega
        refine ⟨_, rfl, _, rfl, _, rfl, _, rfl, ?_⟩
        by_cases h1 : n.2.2 = 1
        · rw [decide_eq_true h1]
          refine iteT ⟨by show 3 ≤ sizeLine; decide, fun p7 hp7 => fin _ ?_ p7 hp7⟩
          rw [if_pos (.inl h1)]
          rfl
        · rw [decide_eq_false h1]
          refine iteF ?_
          refine ⟨_, rfl, _, rfl, rfl, by show 3 ≤ sizeLine; decide, fun p7 hp7 => fin _ ?_ p7 hp7⟩
          by_cases h2 : to = y
          · rw [h2]
            simp [h1]
          · have h3 : ¬ (nv to : V) = nv y := fun z => h2 (by
              have z2 : (to : Int) = y := V.int.inj z
              omega)
            simp [h1, h2, h3]
      · have s8 := s06.trans sm
        have hxD8 : H8 D = some (.lst xsD) := sm _ _ (s46 _ _ hxD)
        have lrD8 : LR (RNd true) H8 xsD fd := lrD.mono fun x y r => r.mono (Same.tups (s46.trans sm))
        have la : acc.length ≤ 12 := by
          rw [lr'.1, List.length_map]
          exact ll2
        have lx : xsD.length ≤ 144 := by
          rw [lrD.1]
          have : k * 12 ≤ 11 * 12 := Nat.mul_le_mul_right _ (by omega)
          omega
        refine ⟨D, D2, xsD, acc, rfl, rfl, hxD8, hA, Nat.le_trans (Nat.add_le_add lx la) (by decide), ?_⟩
        have tp : Tups H8 (upd H8 D (.lst (xsD ++ acc))) := tups_upd (not_tup_lst hxD8)
        refine ⟨fd ++ l2.map (fun too => ((to, too, if n.2.2 = 1 ∨ to ≠ too then 1 else 0) : Nd)), _, _, rfl, same_upd s8 hD, ⟨_, upd_same, LR.app (lrD8.mono fun x y r => r.mono tp) (lr'.mono fun x y r => r.mono tp)⟩, ?_, ?_, fun y => ?_⟩
        · show upd H8 D _ a = _
          rw [upd_ne nD]
          exact sm _ _ (s46 _ _ hl4)
        · rw [List.length_append, List.length_map]
          omega
        · rw [List.mem_append, sp y, mem_take1 eto, List.mem_map]
          constructor
          · rintro (⟨h1, h2⟩ | ⟨too, h1, h2⟩)
            · exact ⟨.inl h1, h2⟩
            · subst h2
              exact ⟨.inr rfl, (hm2 too).mp h1, rfl⟩
          · rintro ⟨h1 | h1, h2, h3⟩
            · exact .inl ⟨h1, h2, h3⟩
            · refine .inr ⟨y.2.1, (hm2 _).mpr h2, ?_⟩
              obtain ⟨y1, y2, y3⟩ := y
              simp only at h1 h3 ⊢
              rw [h3, h1]
    · subst e
      refine ⟨_, rfl, q H4 D fd s4 hD hfd fun y => ?_⟩
      rw [sp y, List.length_map, List.take_length, hm]
      unfold gD
      rw [mem_trim, mem_trim]
end
end K44

set_option Elab.async false
set_option linter.all false
set_option maxRecDepth 100000
set_option maxHeartbeats 8000000
namespace K44
open PySem PySem.Spec PyProof.Rows L2 NdefX LamX
section
variable {P : Program} {w : World} {K : PySem.W.Frag} {mg : Str → Option Value} {base : Heap}
theorem nok_led {m : Mach} (ok : MOk m) {ss : List Nat} {tb f c0 : Addr} {q0 : Str} {cl : List (Str × Addr)} (k : Nat) :
    NOk P w K mg base C8.CX0 (k + 1) f (NF.of s_ln "nexts" q0 cl c0) ["here", "sign"] ["table"] (sp_next false (gL m) (TabAt tb (trimM m).steps) ss [some (.ref tb)]) := by
  refine nok_own (N := s_ln_N) s_ln_sc (fun _ _ _ us hl => match us, hl with | [_, _], _ => rfl) (fun ws vs H Q E h => ?_) (fun A outer s H vs ws Q E hr hf hc hl h => ?_)
  · obtain ⟨_, _, _, _, rfl, _⟩ := h
    rfl
  · obtain ⟨rfl, p, n, c, rfl, hp, gn, cm, hT, q⟩ := h
    have nd := s_ln_sc.nd
    have hu : (ocx C8.CX0 P w K mg base s_ln_N (NF.of s_ln "nexts" q0 cl c0) f A outer s H E).nox.A.units + 1 < cLine := hu_of hr
    have top := ok.top
    refine ⟨_, pss_cons (ps_asg (pv 0) (pg_tup rfl (pgs_cons (pg_name (i := 3) nd rfl (.inl rfl)) (pgs_cons (pg_name (i := 4) nd rfl (.inl rfl)) (pgs_cons (pg_name (i := 5) nd rfl (.inl rfl)) pgs_nil)))))
      (pss_cons (ps_set (i := 6) nd rfl (.inl rfl) (pe_lst pa_nil))
      (pss_cons (ps_for PassesOwn.never rfl (pi_list (pe_dget2 hu (pv 2) (pe_tup (pa_cons (pv 3) (pa_cons (pv 1) pa_nil))) (pe_lst pa_nil) ⟨rfl, rfl, rfl, rfl⟩)) (pg_name (i := 7) nd rfl (.inr rfl))
        (pss_one (ps_for PassesOwn.never rfl (pi_list (pe_dget2 hu (pv 2) (pe_tup (pa_cons (pv 4) (pa_cons (pv 1) pa_nil))) (pe_lst pa_nil) ⟨rfl, rfl, rfl, rfl⟩)) (pg_name (i := 8) nd rfl (.inr rfl))
          (pss_one (ps_expr (pe_bm PySem.F.plainAttrs_list PySem.F.slot_list_extend PySem.F.type_list_extend mt_extend (pv 6) (pa_cons
            (pe_lc (own := [("last", 9)]) (g := gName 9) (tt := tYes) rfl nd (pi_list (pe_dget2 hu (pv 2) (pe_tup (pa_cons (pv 5) (pa_cons (pv 1) pa_nil))) (pe_lst pa_nil) ⟨rfl, rfl, rfl, rfl⟩)) (blkOk_by (N := s_ln_N) (sc := C8.fnScope s_ln) (by decide +kernel))
              (fun _ _ _ _ _ => pg_name (i := 9) nd rfl (.inl rfl)) (fun _ _ _ _ _ => pts_nil)
              (fun _ _ _ _ _ => pe_tup (pa_cons (pv 7) (pa_cons (pv 8) (pa_cons (pv 9) pa_nil))))) pa_nil)))))))
      (pss_one (ps_ret (pv 6))))), ?_⟩
    refine ⟨_, rfl, p, _, rfl, .inl (.inl hp), rfl, _, _, rfl, _, _, rfl, _, _, rfl, rfl, ?_⟩
    refine ⟨Nat.zero_le _, fun D hD => ?_⟩
    have s1 : Same H (upd H D (.lst [])) := same_new hD
    have eD : (upd H D (.lst [])) D = some (.lst []) := upd_same
    generalize upd H D (.lst []) = H1 at s1 eD ⊢
    refine ⟨_, rfl, tb, rfl, tab_isD (TabAt.same _ _ s1 hT), _, rfl, _, rfl, by show 2 ≤ sizeLine; decide, fun t ht => ⟨Nat.zero_le _, fun z hz => ?_⟩⟩
    have s2 : Same H1 (upd H1 t (.tup [nv n.1, .str (sg c)])) := same_new ht
    have et : (upd H1 t (.tup [nv n.1, .str (sg c)])) t = some (.tup [nv n.1, .str (sg c)]) := upd_same
    have hz : (upd H1 t (.tup [nv n.1, .str (sg c)])) z = none := hz
    change ∃ o, DGet (upd (upd H1 t (.tup [nv n.1, .str (sg c)])) z (.lst [])) tb (.ref t) o ∧ _
    generalize upd H1 t (.tup [nv n.1, .str (sg c)]) = H2 at s2 et hz ⊢
    have s3 : Same H2 (upd H2 z (.lst [])) := same_new hz
    have ez : (upd H2 z (.lst [])) z = some (.lst []) := upd_same
    generalize upd H2 z (.lst []) = H3 at s3 ez ⊢
    have s03 := s1.trans (s2.trans s3)
    obtain ⟨o, a, l, dg, eo, hl, hm, ll, an⟩ := tab_get hT s03 (s3 _ _ et) ez
    have nD : a ≠ D := by
      rcases an with e | e
      · rw [e]
        intro w
        rw [w, s2 _ _ eD] at hz
        cases hz
      · intro w
        rw [w] at e
        exact e hD
    refine ⟨o, dg, a, eo, ⟨_, .inl (.inl hl)⟩, ?_⟩
    have lt12 : ∀ x y, (x, c, y) ∈ (trimM m).steps → y < 12 := fun x y h => Nat.lt_of_lt_of_le (ok.sb _ (mem_trim.mp h).1).2.2 top
    refine for_it walk_list (fun k σ H' => ∃ fd y7 y8 y9, σ = [some (.ref p), some (.str (sg c)), some (.ref tb), some (nv n.1), some (nv n.2.1), some (nv n.2.2), some (.ref D), y7, y8, y9] ∧ Same H H' ∧ NdsAt false H' D fd ∧ IntsAt H' a l ∧ fd.length ≤ k * 144 ∧
        ∀ y : Nd, y ∈ fd ↔ y.1 ∈ l.take k ∧ (n.2.1, c, y.2.1) ∈ (trimM m).steps ∧ (n.2.2, c, y.2.2) ∈ (trimM m).steps)
      ⟨[], _, _, _, rfl, s03, ⟨[], s3 _ _ (s2 _ _ eD), LR.nil⟩, hl, Nat.zero_le _, fun y => ⟨fun h => (by cases h), fun h => (by cases h.1)⟩⟩ (fun k σ H' _ ⟨_, _, _, _, _, _, _, h, _⟩ => .inl (.inl h)) (fun k x σ H4 H4' hk ⟨fd, y7, y8, y9, e, s4, hfd, hl4, lf, sp⟩ y => ?_) (fun σ H4 ⟨fd, y7, y8, y9, e, s4, hfd, hl4, lf, sp⟩ => ?_)
    · subst e
      obtain ⟨rfl, ex⟩ := y
      obtain ⟨to, eto, rfl⟩ := (lr_nv H4' l).at ex
      have kl : k < 12 := by
        rw [List.length_map] at hk
        omega
      have b1 : to < 12 := lt12 _ _ ((hm to).mp (List.mem_of_getElem? eto))
      obtain ⟨xsD, hxD, lrD⟩ := hfd
      refine ⟨_, rfl, tb, rfl, tab_isD (TabAt.same _ _ s4 hT), _, rfl, _, rfl, by show 2 ≤ sizeLine; decide, fun t2 ht2 => ⟨Nat.zero_le _, fun z2 hz2 => ?_⟩⟩
      have s5 : Same H4' (upd H4' t2 (.tup [nv n.2.1, .str (sg c)])) := same_new ht2
      have et2 : (upd H4' t2 (.tup [nv n.2.1, .str (sg c)])) t2 = some (.tup [nv n.2.1, .str (sg c)]) := upd_same
      have hz2 : (upd H4' t2 (.tup [nv n.2.1, .str (sg c)])) z2 = none := hz2
      change ∃ o, DGet (upd (upd H4' t2 (.tup [nv n.2.1, .str (sg c)])) z2 (.lst [])) tb (.ref t2) o ∧ _
      generalize upd H4' t2 (.tup [nv n.2.1, .str (sg c)]) = H5 at s5 et2 hz2 ⊢
      have s6 : Same H5 (upd H5 z2 (.lst [])) := same_new hz2
      have ez2 : (upd H5 z2 (.lst [])) z2 = some (.lst []) := upd_same
      generalize upd H5 z2 (.lst []) = H6 at s6 ez2 ⊢
      have s46 := s5.trans s6
      have s06 := s4.trans s46
      obtain ⟨o2, a2, l2, dg2, eo2, hl2, hm2, ll2, an2⟩ := tab_get hT s06 (s6 _ _ et2) ez2
      have nD2 : a2 ≠ D := by
        rcases an2 with e | e
        · rw [e]
          intro w
          rw [w, s5 _ _ hxD] at hz2
          cases hz2
        · intro w
          rw [w] at e
          exact e hD
      refine ⟨o2, dg2, a2, eo2, ⟨_, .inl (.inl hl2)⟩, ?_⟩
      refine for_it walk_list (fun j σ H' => ∃ fd' y8 y9, σ = [some (.ref p), some (.str (sg c)), some (.ref tb), some (nv n.1), some (nv n.2.1), some (nv n.2.2), some (.ref D), some (nv to), y8, y9] ∧ Same H H' ∧ NdsAt false H' D fd' ∧ (IntsAt H' a l ∧ IntsAt H' a2 l2) ∧ fd'.length ≤ k * 144 + j * 12 ∧
          ∀ y : Nd, y ∈ fd' ↔ y ∈ fd ∨ (y.1 = to ∧ y.2.1 ∈ l2.take j ∧ (n.2.2, c, y.2.2) ∈ (trimM m).steps))
        ⟨fd, _, _, rfl, s06, ⟨xsD, s46 _ _ hxD, lrD.mono fun x y r => r.mono (Same.tups s46)⟩, ⟨s46 _ _ hl4, hl2⟩, Nat.le_trans lf (Nat.le_add_right _ _), fun y => ⟨.inl, fun h => h.elim id fun z => (by cases z.2.1)⟩⟩ (fun j σ H' _ ⟨_, _, _, _, _, _, h, _⟩ => .inl (.inl h.2)) (fun j x σ H7 H7' hj ⟨fd', y8, y9, e, s7, hfd', ⟨hl7, hl27⟩, lf', sp'⟩ y => ?_) (fun σ H7 ⟨fd', y8, y9, e, s7, hfd', ⟨hl7, hl27⟩, lf', sp'⟩ => ?_)
      · subst e
        obtain ⟨rfl, ex⟩ := y
        obtain ⟨too, etoo, rfl⟩ := (lr_nv H7' l2).at ex
        have jl : j < 12 := by
          rw [List.length_map] at hj
          omega
        have b2 : too < 12 := lt12 _ _ ((hm2 too).mp (List.mem_of_getElem? etoo))
        obtain ⟨xsE, hxE, lrE⟩ := hfd'
        refine ⟨_, rfl, .inl ⟨rfl, _, .inl (.inl hxE)⟩, _, rfl, tb, rfl, tab_isD (TabAt.same _ _ s7 hT), _, rfl, _, rfl, by show 2 ≤ sizeLine; decide, fun t3 ht3 => ⟨Nat.zero_le _, fun z3 hz3 => ?_⟩⟩
        have s8 : Same H7' (upd H7' t3 (.tup [nv n.2.2, .str (sg c)])) := same_new ht3
        have et3 : (upd H7' t3 (.tup [nv n.2.2, .str (sg c)])) t3 = some (.tup [nv n.2.2, .str (sg c)]) := upd_same
        have hz3 : (upd H7' t3 (.tup [nv n.2.2, .str (sg c)])) z3 = none := hz3
        change ∃ o, DGet (upd (upd H7' t3 (.tup [nv n.2.2, .str (sg c)])) z3 (.lst [])) tb (.ref t3) o ∧ _
        generalize upd H7' t3 (.tup [nv n.2.2, .str (sg c)]) = H8 at s8 et3 hz3 ⊢
        have s9 : Same H8 (upd H8 z3 (.lst [])) := same_new hz3
        have ez3 : (upd H8 z3 (.lst [])) z3 = some (.lst []) := upd_same
        generalize upd H8 z3 (.lst []) = H9 at s9 ez3 ⊢
        have s79 := s8.trans s9
        have s09 := s7.trans s79
        obtain ⟨o3, a3, l3, dg3, eo3, hl3, hm3, ll3, _⟩ := tab_get hT s09 (s9 _ _ et3) ez3
        refine ⟨o3, dg3, a3, eo3, ⟨_, .inl (.inl hl3)⟩, fun D2 hD2 => ?_⟩
        refine lc_map (R := RNd false) grow_same (fun _ _ _ _ e h => h.mono e) (lr_nv H9 l3) (fun last => ((to, too, last) : Nd)) (small1000 (by omega)) hD2 (fun H' sm => .inl (.inl (sm _ _ hl3))) (fun i x y HA Ka ey ry sm ka => ?_) (fun HB acc sm hA lr' => ?_) (mono_name 9)
        · subst ry
          refine ⟨rfl, ?_⟩
          have b3 : y < 12 := lt12 _ _ ((hm3 y).mp (List.mem_of_getElem? ey))
          refine ⟨_, rfl, _, rfl, _, rfl, by show 3 ≤ sizeLine; decide, fun p7 hp7 => ?_⟩
          exact ka _ _ ⟨p7, rfl, upd_same, ⟨b1, b2, b3⟩, fun z => by cases z⟩ (same_new hp7)
        · have sB := s09.trans sm
          have hxB : HB D = some (.lst xsE) := sm _ _ (s79 _ _ hxE)
          have lrB : LR (RNd false) HB xsE fd' := lrE.mono fun x y r => r.mono (Same.tups (s79.trans sm))
          have la : acc.length ≤ 12 := by
            rw [lr'.1, List.length_map]
            exact ll3
          have lx : xsE.length ≤ 1728 := by
            rw [lrE.1]
            have h1 : k * 144 ≤ 11 * 144 := Nat.mul_le_mul_right _ (by omega)
            have h2 : j * 12 ≤ 11 * 12 := Nat.mul_le_mul_right _ (by omega)
            omega
          refine ⟨D, D2, xsE, acc, rfl, rfl, hxB, hA, Nat.le_trans (Nat.add_le_add lx la) (by decide), ?_⟩
          have tp : Tups HB (upd HB D (.lst (xsE ++ acc))) := tups_upd (not_tup_lst hxB)
          refine ⟨fd' ++ l3.map (fun last => ((to, too, last) : Nd)), _, _, rfl, same_upd sB hD, ⟨_, upd_same, LR.app (lrB.mono fun x y r => r.mono tp) (lr'.mono fun x y r => r.mono tp)⟩, ⟨?_, ?_⟩, ?_, fun y => ?_⟩
          · show upd HB D _ a = _
            rw [upd_ne nD]
            exact sm _ _ (s79 _ _ hl7)
          · show upd HB D _ a2 = _
            rw [upd_ne nD2]
            exact sm _ _ (s79 _ _ hl27)
          · rw [List.length_append, List.length_map]
            omega
          · rw [List.mem_append, sp' y, mem_take1 etoo, List.mem_map]
            constructor
            · rintro ((h | ⟨h1, h2, h3⟩) | ⟨last, h1, h2⟩)
              · exact .inl h
              · exact .inr ⟨h1, .inl h2, h3⟩
              · subst h2
                exact .inr ⟨rfl, .inr rfl, (hm3 last).mp h1⟩
            · rintro (h | ⟨h1, h2 | h2, h3⟩)
              · exact .inl (.inl h)
              · exact .inl (.inr ⟨h1, h2, h3⟩)
              · refine .inr ⟨y.2.2, (hm3 _).mpr h3, ?_⟩
                obtain ⟨y1, y2, y3⟩ := y
                simp only at h1 h2 ⊢
                rw [h1, h2]
      · subst e
        rw [List.length_map, List.take_length] at sp'
        rw [List.length_map] at lf'
        refine ⟨fd', _, _, _, rfl, s7, hfd', hl7, by omega, fun y => ?_⟩
        rw [sp' y, sp y, mem_take1 eto]
        constructor
        · rintro (⟨h1, h2⟩ | ⟨h1, h2, h3⟩)
          · exact ⟨.inl h1, h2⟩
          · exact ⟨.inr h1, (hm2 _).mp h2, h3⟩
        · rintro ⟨h1 | h1, h2, h3⟩
          · exact .inl ⟨h1, h2, h3⟩
          · exact .inr ⟨h1, (hm2 _).mpr h2, h3⟩
    · subst e
      refine ⟨_, rfl, q H4 D fd s4 hD hfd fun y => ?_⟩
      rw [sp y, List.length_map, List.take_length, hm]
      unfold gL
      rw [mem_trim, mem_trim, mem_trim]
end
end K44

set_option Elab.async false
set_option linter.all false
set_option maxRecDepth 100000
set_option maxHeartbeats 4000000
namespace K44
open PySem PySem.Spec PyProof.Rows L2 PySem.Froz
/-! ### a set of texts -/
def keyS (e : Int × Value) : Str := match e.2 with
  | .str x _ => x
  | _ => ⟨#[]⟩
structure TxR (w : World) (D : SD) (l : List Str) : Prop where
  ris : Ris D.2.2.place.toList
  led : w.params.followText "set-order" = true ∨ D.2.2.led = true
  gd : ∀ e ∈ D.1.toList, ∃ t, e.2 = .str (keyS e) t
  pm : (D.1.toList.map keyS).Perm l
theorem tail_r {w : World} {ep : Nat} {es1 : Array (Int × Value)} {t2 : SetTable} {wd : Bool} {l : List Str} (r : TxR w (es1, ep, t2) l) : TxR w (tailTx ep es1 t2 wd) l := by
  unfold tailTx
  split
  · have p := relayAll_perm t2 es1 (SetTable.grown es1.size)
    refine ⟨relayAll_ris t2 es1 _, r.led.imp id fun z => ?_, fun e he => r.gd e (p.mem_iff.mp he), (p.map keyS).trans r.pm⟩
    rw [relayAll_led]
    exact z
  · exact ⟨r.ris, r.led, r.gd, r.pm⟩
theorem add_r {w : World} {D : SD} {l : List Str} {k : Str} {u : Tok} {h : Int} (r : TxR w D l) : TxR w (addTx h (.str k u) D) (k :: l) := by
  obtain ⟨es, ep, t⟩ := D
  unfold addTx
  refine tail_r ?_
  have p : (layNew t es h (.str k u)).1.toList.Perm (es.push (h, .str k u)).toList := layNew_perm t es h (.str k u)
  have r1 : Ris (layNew t es h (.str k u)).2.1.place.toList := layNew_ris t es h (.str k u) r.ris
  have l1 : (layNew t es h (.str k u)).2.1.led = t.led := layNew_led t es h (.str k u)
  rw [Array.toList_push] at p
  refine ⟨?_, r.led.imp id fun z => ?_, fun e he => ?_, ?_⟩
  · show Ris (if _ then _ else _ : SetTable).place.toList
    split
    · exact r1
    · exact r1
  · have z : t.led = true := z
    show (if _ then _ else _ : SetTable).led = true
    split
    · show (layNew t es h (.str k u)).2.1.led = true
      rw [l1]
      exact z
    · rw [l1]
      exact z
  · rcases List.mem_append.mp (p.mem_iff.mp he) with z | z
    · exact r.gd e z
    · rw [List.mem_singleton.mp z]
      exact ⟨u, rfl⟩
  · refine (p.map keyS).trans ?_
    rw [List.map_append]
    exact (List.perm_append_singleton _ _).trans (List.Perm.cons _ r.pm)
def SetTxt (P : Program) (w : World) (h : Heap) (a : Addr) (l : List Str) : Prop := ∃ D, h.get? a = some (sObj "set" D) ∧ TxOk P w D l ∧ TxR w D l ∧ l.Nodup
theorem SetTxt.at' {P : Program} {w : World} {h h' : Heap} {a : Addr} {l : List Str} (x : SetTxt P w h a l) (k : ∀ o, h.get? a = some o → h'.get? a = some o) : SetTxt P w h' a l := by
  obtain ⟨D, h1, h2⟩ := x
  exact ⟨D, k _ h1, h2⟩
section
variable {P : Program} {w : World} {A : Around} {E : Value → Shared → Prop} {s : Shared}
theorem add_there {a : Addr} {D : SD} {l : List Str} {k : Str} {u : Tok} {Q : Bool → Shared → Prop} (ho : s.heap.get? a = some (sObj "set" D)) (F : TxOk P w D l) (hk : k ∈ l) (hb : l.length < scanBound) (h : Q false s) : wpAny (model P w) A (setAddHashed a (.str k u) (hashStr w k)) Q E s := by
  obtain ⟨es, ep, t⟩ := D
  have hd : (sObj "set" (es, ep, t)).data = .set es ep t := rfl
  have hf : t.fits es.size = true := F.fit
  have hel : ElemsOf (strKind P w) es.toList := F.el
  have hsz : es.size = l.length := F.sz
  have hb0 : es.size < scanBound := by omega
  have hkey : (strKind P w).is k (.str k u) = true := is_str k u
  unfold setAddHashed setAddHashedIn
  refine wpAny_holding (wpAny_bind (wpAny_setState_of ho hd hf ?_))
  dsimp only
  rw [byScan_of rfl hb0 hel]
  simp only [↓reduceIte]
  unfold setAddByScan
  refine wpAny_bind ?_
  refine wpAny_bind (wpAny_rule ?_)
  refine wpAny_bind (wpAny_setScan_of (knd := strKind P w) (k := k) hkey ho hd hf hel ?_)
  cases hr : List.findIdx? (fun e => (strKind P w).is k e.2) es.toList with
  | none =>
    obtain ⟨e, he, q⟩ := (F.mem k).mp hk
    have c := List.findIdx?_eq_none_iff.mp hr e he
    rw [q] at c
    cases c
  | some j =>
    dsimp only
    exact wpAny_pure (wpAny_pure h)
theorem add_any {a : Addr} {l : List Str} {k : Str} {u : Tok} {Q : Bool → Shared → Prop} (R : SetTxt P w s.heap a l) (hb : l.length + 1 < scanBound)
    (h : ∀ b h' l', Heap.SameBut a s.heap h' → SetTxt P w h' a l' → (∀ x, x ∈ l' ↔ x ∈ l ∨ x = k) → l'.length ≤ l.length + 1 → Q b { s with heap := h' }) : wpAny (model P w) A (setAddHashed a (.str k u) (hashStr w k)) Q E s := by
  obtain ⟨D, ho, F, r, nd⟩ := R
  by_cases hk : k ∈ l
  · refine add_there ho F hk (by omega) ?_
    refine h false s.heap l (Heap.SameBut.refl ..) ⟨D, ho, F, r, nd⟩ (fun x => ⟨.inl, fun z => z.elim id fun e => by rw [e]; exact hk⟩) (Nat.le_succ _)
  · refine add_x ho F hk hb ?_
    refine h true _ (k :: l) (Heap.SameBut.update ..) ⟨_, get_upd _ ho rfl, add_ok u F, add_r r, List.nodup_cons.mpr ⟨hk, nd⟩⟩ (fun x => ?_) (Nat.le_refl _)
    rw [List.mem_cons]
    exact Or.comm
end
end K44

set_option Elab.async false
set_option linter.all false
set_option maxRecDepth 100000
set_option maxHeartbeats 4000000
namespace K44
open PySem PySem.Spec PyProof.Rows L2 PySem.Froz
section
variable {P : Program} {w : World} {A : Around} {E : Value → Shared → Prop} {s : Shared}
theorem set_upd_txt {I : Addr} {fp wr : List Addr} {G : Array GenState → Array GenState → Prop} {n : Nat} {Pv : Nat → Value → Prop} {St : Nat → Shared → Prop} {R : Result → Shared → Prop}
    (W : WalksS P w A.in1 I fp wr G n Pv St) (S : Addr) (hSf : S ∉ fp) (ns : List Str) (hn : n = ns.length) (hb : ns.length + 1 < scanBound) (hval : ∀ i v, Pv i v → ∃ k t, ns[i]? = some k ∧ v = .str k t) :
    ∀ (k i : Nat) (s : Shared), n - i = k → i ≤ n → St i s → (∃ l, SetTxt P w s.heap S l ∧ (∀ x, x ∈ l ↔ x ∈ ns.take i) ∧ l.length ≤ i) →
      (∀ s' l, Moved (S :: wr) G s s' → SetTxt P w s'.heap S l → (∀ x, x ∈ l ↔ x ∈ ns) → R (.ok (.ret .none)) s') →
      codeAny (model P w) A (.builtin "set.update.loop" ⟨[.ref S, .ref I], []⟩) R s := by
  have hSw : S ∉ wr := fun h => hSf (W.sub _ h)
  have hsub : ∀ b ∈ wr, b ∈ S :: wr := fun b hb => List.mem_cons_of_mem _ hb
  intro k
  induction k with
  | zero =>
    intro i s hk' hi hst ⟨l, hS, hm, hl⟩ hR
    have hin : i = n := by omega
    subst hin
    refine codeAny_builtin F.entry_set_update_loop ?_
    rw [Around.under_plainId F.plain_set_update_loop _]
    show wpAny _ A.in1 (pyNext (.ref I) >>= _) _ _ s
    refine wpAny_bind (W.done s _ _ hst fun s' hmv => ?_)
    show wpAny _ A.in1 (ret Value.none) _ _ s'
    have e : ns.take i = ns := List.take_of_length_le (by omega)
    rw [e] at hm
    exact wpAny_pure (hR s' l (hmv.mono hsub) (hS.at' fun o e => hmv.heap S o hSw e) hm)
  | succ k ih =>
    intro i s hk' hi hst ⟨l, hS, hm, hl⟩ hR
    have hlt : i < n := by omega
    refine codeAny_builtin F.entry_set_update_loop ?_
    rw [Around.under_plainId F.plain_set_update_loop _]
    show wpAny _ A.in1 (pyNext (.ref I) >>= _) _ _ s
    refine wpAny_bind (W.item i s _ _ hlt hst fun v s' hP hst' hmv => ?_)
    obtain ⟨z, t, hz, rfl⟩ := hval i v hP
    have hS' : SetTxt P w s'.heap S l := hS.at' fun o e => hmv.heap S o hSw e
    show wpAny _ A.in1 (holding [Value.str z t] (setAdd S (.str z t)) >>= _) _ _ s'
    refine wpAny_bind (wpAny_holding ?_)
    unfold setAdd
    refine wpAny_holding ?_
    refine wpAny_bind ((strKind P w).pyHash (k := z) (is_str z t) ?_)
    refine add_any (s := { s' with toks := s'.toks + 1 }) hS' (by omega) fun b h' l' hsb hS2 hm2 hl2 => ?_
    refine wpAny_pure ⟨plainId_quiet F.plain_set_update_loop _, ih (i + 1) _ (by omega) hlt (W.frame _ s' _ _ hst' (Nat.le_succ _) fun b hb o e => ?_) ⟨l', hS2, fun x => ?_, by omega⟩ fun s'' l3 hm'' hS'' hm3 => ?_⟩
    · rw [hsb.2 b (fun h : b = S => hSf (by rw [← h]; exact hb))]; exact e
    · rw [hm2 x, hm x, List.take_add_one, hz, List.mem_append]
      simp
    · refine hR s'' l3 (Moved.trans W.gtrans ((hmv.mono hsub).then_heap (Nat.le_succ _) fun b o hb e => ?_) hm'') hS'' hm3
      rw [hsb.2 b (fun h : b = S => hb (by rw [h]; exact List.mem_cons_self))]; exact e
theorem setTxt_new {h : Heap} {a : Addr} (ho : h.get? a = some { cls := .type "set", dict := none, data := .set #[] 0 (.fresh 0 0 (!w.params.followText "set-order")) }) : SetTxt P w h a [] :=
  ⟨(#[], 0, .fresh 0 0 (!w.params.followText "set-order")), ho, TxOk.nil (by rfl), ⟨List.Pairwise.nil, by
    show _ ∨ (!w.params.followText "set-order") = true
    cases w.params.followText "set-order"
    · exact .inr rfl
    · exact .inl rfl, fun e he => by simp at he, .nil⟩, List.nodup_nil⟩
set_option maxHeartbeats 6400000 in
theorem call_set_txt {l : Addr} {items : Array Value} (ns : List Str) {Q : Value → Shared → Prop} (hh : A.handled = none) (hl : s.heap.IsList l items) (hit : StrsAre items.toList ns) (hb : ns.length + 1 < scanBound)
    (h : ∀ (h' : Heap) (tk : Nat) (l' : List Str), SetTxt P w h' s.heap.objs.size l' → (∀ x, x ∈ l' ↔ x ∈ ns) → (∀ b o, s.heap.get? b = some o → h'.get? b = some o) → Q (.ref s.heap.objs.size) { s with heap := h', toks := tk }) :
    wpAny (model P w) A (call (.type "set") [.ref l]) Q E s := by
  have strAt : ∀ {vs : List Value} {xs : List Str}, StrsAre vs xs → ∀ (i : Nat) (v : Value), vs[i]? = some v → ∃ k t, xs[i]? = some k ∧ v = .str k t := by
    intro vs xs r
    induction r with
    | nil => intro i v e; simp at e
    | @cons y t vs ys _ ih =>
      intro i v e
      cases i with
      | zero =>
        simp at e
        exact ⟨y, t, rfl, e.symm⟩
      | succ i => exact ih i v (by simpa using e)
  have lenS : ∀ {vs : List Value} {xs : List Str}, StrsAre vs xs → vs.length = xs.length := by
    intro vs xs r
    induction r with
    | nil => rfl
    | cons _ _ _ ih => rw [List.length_cons, List.length_cons, ih]
  have hisz : items.size = ns.length := by
    have q := lenS hit
    rw [Array.length_toList] at q
    exact q
  obtain ⟨c, tl, hmro⟩ := F.called_set.mro
  have hmade := F.called_set.made
  have hsub := F.called_set.sub
  refine wpAny_call (codeAny_of_tree ?_)
  show wpAny _ _ (callAny (.type "set") _) _ _ _
  refine wpAny_pure ⟨Code.quiet_builtin _ (by decide +kernel), codeAny_builtin F.entry_type_call ?_⟩
  rw [Around.under_plain (weight_type_call_type "set" [.ref l] []) rfl]
  have h1 := F.called_set.notType
  have h2 := F.called_set.canCreate
  have hct := F.typeCall_set_1 (.ref l)
  repeat (any_goals (first | assumption | wp_step))
  refine codeAny_mono (code_set_led1 (.ref l) (E := E) (Q₁ := fun obj s₁ => obj = .ref s.heap.objs.size ∧ s₁ = { s with heap := s.heap.push { cls := .type "set", dict := none, data := .set #[] 0 (.fresh 0 0 (!w.params.followText "set-order")) } }) ⟨rfl, rfl⟩) fun r s₁ hr => ?_
  cases r with
  | error e => exact hr
  | ok fl =>
    cases fl with
    | ret obj =>
      obtain ⟨rfl, rfl⟩ := hr
      have hS : (s.heap.push { cls := .type "set", dict := none, data := .set #[] 0 (.fresh 0 0 (!w.params.followText "set-order")) }).get? s.heap.objs.size = some { cls := .type "set", dict := none, data := .set #[] 0 (.fresh 0 0 (!w.params.followText "set-order")) } := Heap.get?_push_size _ rfl
      have hT : Shared.TypeIs { s with heap := s.heap.push { cls := .type "set", dict := none, data := .set #[] 0 (.fresh 0 0 (!w.params.followText "set-order")) } } (.ref s.heap.objs.size) "set" := ⟨_, hS, rfl⟩
      have hli := F.called_set.init.lookup
      have hbi := F.called_set.init.bind (.ref s.heap.objs.size)
      repeat (any_goals (first | assumption | wp_step))
      refine codeAny_mono (codeAny_call_builtin (R := wants (fun r s₂ => r = .none ∧ ∃ h' tk l', s₂ = { s with heap := h', toks := tk } ∧ SetTxt P w h' s.heap.objs.size l' ∧ (∀ x, x ∈ l' ↔ x ∈ ns) ∧
          (∀ b o, s.heap.get? b = some o → h'.get? b = some o)) E) F.called_set.init.plain F.entry_set_init (check_set_init_1 hT ?_)) fun r₂ s₂ hr₂ => ?_
      · obtain ⟨ol, hol, hcl, nl, hdl⟩ := hl
        obtain ⟨ocls, odict, odata, oslots⟩ := ol
        simp only at hcl hdl
        subst hcl; subst hdl
        have hol' : (s.heap.push { cls := .type "set", dict := none, data := .set #[] 0 (.fresh 0 0 (!w.params.followText "set-order")) }).get? l = some { cls := .type "list", dict := odict, data := .seq items nl, slots := oslots } := Heap.get?_push_of_some _ hol
        have hsls := F.sub_list_set
        have hslf := F.sub_list_frozenset
        have hne : (Value.type "list" == Value.type "dict") = false := by decide
        have hl1 : (s.heap.push { cls := .type "set", dict := none, data := .set #[] 0 (.fresh 0 0 (!w.params.followText "set-order")) }).IsList l items := ⟨_, hol', rfl, nl, rfl⟩
        unfold Builtin.«set.__init__» noKeywords Builtin.Frozenset.updateFrom
        generalize hPI : pyIter = PI
        wp_walk
        subst hPI
        refine wpAny_pyIter_list hl1 ?_
        refine wpAny_bind (wpAny_runValue ?_)
        have hlS : l < s.heap.objs.size := Heap.lt_size hol
        have hh3 : A.in1.in1.in1.handled = none := by simp [hh]
        have hneI : l ≠ (s.heap.push { cls := .type "set", dict := none, data := .set #[] 0 (.fresh 0 0 (!w.params.followText "set-order")) }).objs.size := by
          rw [Heap.size_push]; exact Nat.ne_of_lt (Nat.lt_succ_of_lt hlS)
        have hSf : s.heap.objs.size ∉ [(s.heap.push { cls := .type "set", dict := none, data := .set #[] 0 (.fresh 0 0 (!w.params.followText "set-order")) }).objs.size, l] := by
          rw [Heap.size_push]; simp only [List.mem_cons, List.mem_singleton, List.not_mem_nil, or_false, not_or]
          exact ⟨Nat.ne_of_lt (Nat.lt_succ_self _), Nat.ne_of_gt hlS⟩
        have hval : ∀ (i : Nat) (v : Value), items[i]? = some v → ∃ k t, ns[i]? = some k ∧ v = .str k t := fun i v hv => strAt hit i v (by rw [Array.getElem?_toList]; exact hv)
        refine set_upd_txt ((Walks.list hh3 _ l hneI items).toS) s.heap.objs.size
          hSf ns hisz hb hval (items.size - 0) 0 _ (by omega) (Nat.zero_le _)
          ⟨⟨_, Heap.get?_push_size _ rfl, rfl, rfl⟩, (hl1.push _)⟩ ?hS0 ?hR
        case hS0 =>
          have hget : ((s.heap.push { cls := .type "set", dict := none, data := .set #[] 0 (.fresh 0 0 (!w.params.followText "set-order")) }).push { cls := .type "list_iterator", data := .fields #[.ref l, .int 0 0] }).get? s.heap.objs.size
              = some { cls := .type "set", dict := none, data := .set #[] 0 (.fresh 0 0 (!w.params.followText "set-order")) } := Heap.get?_push_of_some _ hS
          exact ⟨[], setTxt_new hget, fun x => ⟨fun h => (by cases h), fun h => (by simp at h)⟩, Nat.le_refl 0⟩
        case hR =>
          intro s' l' hm hS' hm'
          obtain ⟨h', g2, d', tk', os'⟩ := s'
          have eg : g2 = s.gens := hm.gens
          have ed : d' = s.drawn := hm.drawn
          have eo : os' = s.os := hm.os
          subst eg; subst ed; subst eo
          show wpAny _ _ _ _ _ _
          refine wpAny_pure ?_
          show wpAny _ _ (ret Value.none) _ _ _
          refine wpAny_pure ⟨rfl, h', tk', l', rfl, hS', hm', fun b o e => ?_⟩
          have hb0 : b < s.heap.objs.size := Heap.lt_size e
          have hb1 : b ≠ s.heap.objs.size := Nat.ne_of_lt hb0
          have hb2 : b ≠ (s.heap.push { cls := .type "set", dict := none, data := .set #[] 0 (.fresh 0 0 (!w.params.followText "set-order")) }).objs.size := by
            rw [Heap.size_push]; exact Nat.ne_of_lt (Nat.lt_succ_of_lt hb0)
          exact hm.heap b o (by simp only [List.mem_cons, List.mem_singleton, List.not_mem_nil, or_false, not_or]; exact ⟨hb1, hb2⟩) (Heap.get?_push_of_some _ (Heap.get?_push_of_some _ e))
      · cases r₂ with
        | error e => exact hr₂
        | ok fl₂ =>
          cases fl₂ with
          | ret r =>
            obtain ⟨rfl, h', tk, l', rfl, hS', hm', hk'⟩ := hr₂
            repeat (any_goals (first | assumption | wp_step))
            exact h _ _ _ hS' hm' hk'
          | _ => exact hr₂.elim
    | _ => exact hr.elim
end
def SetSO (P : Program) (w : World) (a : Addr) (l : List Str) : HO := .ext fun h => SetTxt P w h a l
theorem setSO_new {P : Program} {w : World} {H : Hp} {h : Heap} {a : Addr} {l : List Str} (R : SetTxt P w h a l) : ObjOk P w H h a (SetSO P w a l) := by
  have ⟨D, ho, _⟩ := R
  exact ⟨R, ⟨_, ho⟩, fun h1 h2 p k => SetTxt.at' p k⟩
/-- set(xs) of a list of texts -/
def rSetS (K : PySem.W.Frag) (P : Program) (w : World) : List V → Hp → VK → Prop := fun xs H Q => ∃ (l : Addr) (ns : List Str), xs = [.ref l] ∧ SqL K H l (ns.map V.str) ∧ ns.length ≤ 400 ∧ ∀ a l', H a = none → l'.Nodup → (∀ x, x ∈ l' ↔ x ∈ ns) → Q (.ref a) (upd H a (SetSO P w a l'))
/-- sorted(set) of one -/
def rSortedSS (P : Program) (w : World) : List V → Hp → VK → Prop := fun xs H Q => ∃ (a : Addr) (l : List Str), xs = [.ref a] ∧ H a = some (SetSO P w a l) ∧ l.length < 64 ∧ ∀ ys p, ys.Perm l → ys.Nodup → sortedS ys = true → H p = none → Q (.ref p) (upd H p (.lst (ys.map V.str)))
section
variable {X : Cx} {P : Program} {w : World}
theorem cr_setS (hP : X.prog = P) (hw : X.w = w) (hc : X.calm = true) : CallR X (.type "set") (rSetS X.K P w) := by
  subst hP hw
  intro pins s σ H xs us Q I r h
  obtain ⟨l, ns, rfl, hl, hz, q⟩ := h
  rw [Vals.ref1 r]
  obtain ⟨its, rv, pl, _⟩ := I.list hl
  refine call_set_txt (P := X.prog) (w := X.w) ns (I.ok.hd hc) pl.isList (by simpa using rv.strs) (by unfold scanBound; omega) fun h' tk l' R hm k => ?_
  exact ⟨.ref s.heap.objs.size, upd H s.heap.objs.size (SetSO X.prog X.w s.heap.objs.size l'), I.laid (t' := tk) k (Nat.le_refl _) (setSO_new R), rfl, q _ l' (I.hok.fresh (Nat.le_refl _)) (let ⟨_, _, _, _, nd⟩ := R; nd) hm⟩
end
end K44

set_option Elab.async false
set_option linter.all false
set_option maxRecDepth 100000
set_option maxHeartbeats 4000000
namespace K44
open PySem PySem.Spec PyProof.Rows L2 PySem.Froz
section
variable {X : Cx} {P : Program} {w : World}
theorem strs_of : ∀ (es : List (Int × Value)), (∀ e ∈ es, ∃ t, e.2 = Value.str (keyS e) t) → StrsAre (es.map (·.2)) (es.map keyS)
  | [], _ => .nil
  | e :: es, h => by
    obtain ⟨t, et⟩ := h e List.mem_cons_self
    rw [List.map_cons, List.map_cons, et]
    exact .cons _ t (strs_of es fun u hu => h u (List.mem_cons_of_mem _ hu))
def vS (v : Value) : Str := match v with
  | .str x _ => x
  | _ => ⟨#[]⟩
theorem strs_vS : ∀ (vs : List Value), (∀ v ∈ vs, ∃ x t, v = Value.str x t) → StrsAre vs (vs.map vS)
  | [], _ => .nil
  | v :: vs, h => by
    obtain ⟨x, t, rfl⟩ := h v List.mem_cons_self
    exact .cons x t (strs_vS vs fun u hu => h u (List.mem_cons_of_mem _ hu))
theorem cr_sortedSS (hP : X.prog = P) (hw : X.w = w) (hc : X.calm = true) : CallR X (.builtin "sorted") (rSortedSS P w) := by
  subst hP hw
  intro pins s σ H xs us Q I r h
  obtain ⟨a, l, rfl, ha, h64, q⟩ := h
  obtain ⟨⟨D, ho, F0, R, nd⟩, _, _⟩ := (show ObjOk X.prog X.w H s.heap a (SetSO X.prog X.w a l) from I.hok a _ ha)
  rw [Vals.ref1 r]
  obtain ⟨es, ep, t⟩ := D
  have hsz : es.size = l.length := F0.sz
  refine Calls.call_function_entry PyProof.Rows.kind_sorted PyProof.Rows.plain_sorted PyProof.Rows.entry_sorted (PyProof.Rows.args_sorted1 _) ?_
  unfold Builtin.«sorted»
  refine wpAny_bind (m := checkCount "sorted" 1 1 _) (wpAny_pure ?_)
  refine wpAny_bind (collect_set (A := X.A.in1) (I.ok.hd hc) ⟨_, ho, rfl, rfl⟩ F0.fit (by rw [hsz]; unfold scanBound; omega) R.ris R.led fun s1 vs k1 hz g1 o1 pm => ?_)
  have gd : ∀ e ∈ es.toList, ∃ t, e.2 = Value.str (keyS e) t := R.gd
  have hv : ∀ v ∈ vs, ∃ x t, v = Value.str x t := fun v hv => by
    obtain ⟨e, he, q⟩ := List.mem_map.mp (pm.mem_iff.mp hv)
    obtain ⟨t, et⟩ := gd e he
    exact ⟨_, t, by rw [← q]; exact et⟩
  have hS := strs_vS vs hv
  have ek : (es.toList.map (·.2)).map vS = es.toList.map keyS := by
    rw [List.map_map]
    refine List.map_congr_left fun e he => ?_
    obtain ⟨t, et⟩ := gd e he
    show vS e.2 = keyS e
    rw [et]
    rfl
  have pl : (vs.map vS).Perm l := by
    have z := pm.map vS
    rw [ek] at z
    exact z.trans R.pm
  have hvl : vs.length < 64 := by
    have z := pl.length_eq
    rw [List.length_map] at z
    omega
  refine wpAny_bind (wpAny_newList ?_ (by rw [sizeLine_eq]; omega))
  have hoL : (s1.heap.push (seqObj "list" vs.toArray 0)).get? s1.heap.objs.size = some (seqObj "list" vs.toArray 0) := Heap.get?_push_size _ rfl
  refine wpAny_bind (wpAny_holding (wpAny_call_entry PyProof.Rows.slot_list_sort ⟨_, hoL, rfl⟩ PyProof.Rows.entry_list_sort
    (list_sort_treeK strKind_oneLt (s := { s1 with heap := s1.heap.push (seqObj "list" vs.toArray 0) }) hoL hS.keysOf (fun v₁ v₂ rest e => keyKind_strs (by rw [← e]; exact hS)) hvl fun st' hp hs => ⟨_, rfl, ?_⟩)
    (PyProof.Rows.args_list_sort _)))
  obtain ⟨ys, y1, y2, y3⟩ := sorted_out_str hS hp hs
  obtain ⟨e', he'⟩ := PyProof.Rows.sortedHeap_at (vs := vs) (out := (arrOf st').map (·.2)) hoL
  have py : ys.Perm l := y2.trans pl
  have hlen : (ys.map V.str).length ≤ sizeLine := by
    rw [List.length_map, py.length_eq]
    exact Nat.le_trans (Nat.le_of_lt h64) (by decide)
  have hn : H s1.heap.objs.size = none := I.hok.fresh hz
  have k : ∀ b o, s.heap.get? b = some o → (sortedHeap (s1.heap.push (seqObj "list" vs.toArray 0)) s1.heap.objs.size vs ((arrOf st').map (·.2))).get? b = some o := fun b o e => by
    have q := k1 b o e
    have hlt := Heap.lt_size q
    rw [PyProof.Rows.sortedHeap_old (Nat.ne_of_lt hlt) (by rw [size_push']; exact Nat.lt_succ_of_lt hlt)]
    exact Heap.get?_push_of_some _ q
  obtain ⟨h1, g1', d1, t1, os1⟩ := s1
  have g1 : g1' = s.gens := g1
  have o1 : os1 = s.os := o1
  subst g1 o1
  have J : L2.Inv X pins σ (upd H h1.objs.size (.lst (ys.map V.str))) { s with heap := sortedHeap (h1.push (seqObj "list" vs.toArray 0)) h1.objs.size vs ((arrOf st').map (·.2)), gens := s.gens, drawn := d1, toks := t1 } :=
    I.call (ch := []) (Un.laid k hz hn) (I.hok.laid k hz ⟨hlen, ((arrOf st').map (·.2)).toList, e', vals_of_strs y1, by rw [Array.toArray_toList]; exact he'⟩) I.bare (fun _ z => nomatch z)
  exact wpAny_pure ⟨_, rfl, .ref h1.objs.size, upd H h1.objs.size (.lst (ys.map V.str)), J, rfl, q ys _ py (py.nodup_iff.mpr nd) y3 hn⟩
end
end K44

set_option Elab.async false
set_option linter.all false
set_option maxRecDepth 100000
set_option maxHeartbeats 4000000
namespace K44
open PySem PySem.Spec PyProof.Rows L2
theorem lt_sg (a b : Nat) : ltCps (sg b).cps.toList (sg a).cps.toList = false → a ≤ b := by
  intro h
  have h : ltCps [b] [a] = false := h
  simp [ltCps] at h
  omega
theorem ris_codes : ∀ (r : List Nat) (p : Nat), risingS (sg p) (r.map sg) = true → (∀ x ∈ r, p ≤ x) ∧ r.Pairwise (· ≤ ·)
  | [], _, _ => ⟨fun x h => (by cases h), List.Pairwise.nil⟩
  | x :: r, p, h => by
    rw [List.map_cons, risingS, Bool.and_eq_true, Bool.not_eq_true'] at h
    obtain ⟨h1, h2⟩ := ris_codes r x h.2
    have h3 := lt_sg _ _ h.1
    refine ⟨fun y hy => ?_, List.pairwise_cons.mpr ⟨h1, h2⟩⟩
    rcases List.mem_cons.mp hy with e | hy
    · rw [e]; exact h3
    · exact Nat.le_trans h3 (h1 y hy)
theorem sorted_codes {cs : List Nat} (h : sortedS (cs.map sg) = true) : cs.Pairwise (· ≤ ·) := by
  cases cs with
  | nil => exact List.Pairwise.nil
  | cons x r =>
    obtain ⟨h1, h2⟩ := ris_codes r x h
    exact List.pairwise_cons.mpr ⟨h1, h2⟩
theorem codesOf {ys : List Str} (h : ∀ y ∈ ys, ∃ c, y = sg c) : ∃ cs : List Nat, ys = cs.map sg := by
  induction ys with
  | nil => exact ⟨[], rfl⟩
  | cons y ys ih =>
    obtain ⟨c, e⟩ := h y List.mem_cons_self
    obtain ⟨cs, e2⟩ := ih fun z hz => h z (List.mem_cons_of_mem _ hz)
    exact ⟨c :: cs, by rw [e, e2]; rfl⟩
theorem signs_few (m : Mach) : (signsL m).length ≤ 26 := by
  unfold signsL
  refine Nat.le_trans (List.length_filter_le _ _) ?_
  simp
theorem signs_by {m : Mach} (ok : MOk m) {ys : List Str} (hm : ∀ y, y ∈ ys ↔ ∃ t ∈ m.steps, y = sg t.2.1) (nd : ys.Nodup) (hs : sortedS ys = true) : ys = (signsL m).map sg := by
  obtain ⟨cs, rfl⟩ := codesOf (ys := ys) fun y hy => by
    obtain ⟨t, _, e⟩ := (hm y).mp hy
    exact ⟨_, e⟩
  congr 1
  have nd' : cs.Nodup := (List.pairwise_map.mp nd).imp fun h e => h (by rw [e])
  refine srt_unique (lt := (· < ·)) (fun a b h => by omega) (((sorted_codes hs).and nd').imp fun {a b} h => by have h1 := h.1; have h2 := h.2; omega) (signs_inc m) fun c => ?_
  rw [mem_signs]
  constructor
  · intro h
    obtain ⟨t, ht, e⟩ := (hm (sg c)).mp (List.mem_map_of_mem h)
    have e := sg_inj e
    rw [e]
    exact ⟨(ok.sb t ht).2.1, t, ht, rfl⟩
  · rintro ⟨_, t, ht, e⟩
    obtain ⟨d, hd, e2⟩ := List.mem_map.mp ((hm (sg c)).mpr ⟨t, ht, by rw [e]⟩)
    rw [← sg_inj e2]
    exact hd
section
variable {P : Program} {w : World} {K : PySem.W.Frag} {mg : Str → Option Value} {base : Heap}
def sp_signs_of : Sp := fun vs H Q _ => ∃ (v : V) (m : Mach) (t fa la sa : Addr), vs = [v] ∧ MacAt H v m t fa la sa ∧ MOk m ∧ ∀ H' p, Same H H' → H p = none → H' p = some (.lst ((signsL m).map fun c => .str (sg c))) → Q (.ref p) H'
theorem cl_signs_of (T : Txt mg) (F : Has K mg "signs_of" s_signs_of) : Cal P w K mg base 1 "signs_of" ["machine"] sp_signs_of := by
  refine cal_mk F s_signs_of_sc (fun _ _ _ _ _ _ us hl => match us, hl with | [_], _ => rfl) (fun vs H Q E h => ?_) (fun f cdv A outer s H vs Q E hr h => ?_)
  · obtain ⟨_, _, _, _, _, _, rfl, _⟩ := h
    rfl
  · obtain ⟨v, m, t, fa, la, sa, rfl, M, ok, q⟩ := h
    have nd := s_signs_of_sc.nd
    have ev := M.v
    subst ev
    refine ⟨_, pss_one (ps_ret (pe_callB (cr_sortedSS (P := P) (w := w) rfl rfl rfl) (by rfl) T.sorted (by decide +kernel) (pa_cons (pe_callTy (cr_setS (P := P) (w := w) rfl rfl rfl) (by rfl) T.set (by decide +kernel) (pa_cons
      (pe_lc (own := [("room", 1), ("sign", 2), ("to", 3)]) (g := gTup K 3 (gCons (gName 1) (gCons (gName 2) (gCons (gName 3) gNil)))) (tt := tYes) rfl nd (pi_list (pe_ix ix_tup (pv 0) pe_int (fun _ _ => rfl))) (blkOk_by (N := s_signs_of_N) (sc := defScope s_signs_of) (by decide +kernel))
        (fun _ _ _ _ _ => pg_tup rfl (pgs_cons (pg_name (i := 1) nd rfl (.inl rfl)) (pgs_cons (pg_name (i := 2) nd rfl (.inl rfl)) (pgs_cons (pg_name (i := 3) nd rfl (.inl rfl)) pgs_nil)))) (fun _ _ _ _ _ => pts_nil)
        (fun _ _ _ _ _ => pv 2)) pa_nil)) pa_nil))), ?_⟩
    obtain ⟨xs, hx, lr⟩ := M.sa
    refine ⟨_, rfl, t, _, 3, .ref sa, rfl, rfl, .inl (.inl M.t), atI_nat (j := 3) rfl, sa, rfl, ⟨xs, .inl (.inl hx)⟩, fun D hD => ?_⟩
    refine lc_map (R := fun _ v (c : Nat) => v = .str (sg c)) grow_same (fun _ _ _ _ _ h => h) lr (fun t => t.2.1) (small1000 (by have := ok.sl; omega)) hD (fun H' sm => .inl (.inl (sm _ _ hx))) (fun i x y H4 Ka ey ry sm ka => ?_) (fun H4 acc sm hA lr' => ?_)
      (mono_tup (mono_cons (mono_name 1) (mono_cons (mono_name 2) (mono_cons (mono_name 3) mono_nil))))
    · obtain ⟨a, rfl, ha⟩ := ry
      refine ⟨a, _, rfl, .inl (.inl (sm _ _ ha)), rfl, _, _, rfl, _, _, rfl, _, _, rfl, rfl, rfl, ?_⟩
      exact ⟨_, rfl, ka _ _ rfl (Same.refl _)⟩
    · have eacc := LR.eq_map (g := fun c => V.str (sg c)) lr'
      have eacc2 : acc = (m.steps.map fun t => sg t.2.1).map V.str := by
        rw [eacc, List.map_map, List.map_map]
        rfl
      rw [eacc2] at hA
      refine ⟨D, _, rfl, .inl (.inl hA), by rw [List.length_map]; have := ok.sl; omega, fun a l' ha nd' hm => ?_⟩
      have hmm : ∀ y, y ∈ l' ↔ ∃ t ∈ m.steps, y = sg t.2.1 := fun y => by
        rw [hm y, List.mem_map]
        exact ⟨fun ⟨t, h1, h2⟩ => ⟨t, h1, h2.symm⟩, fun ⟨t, h1, h2⟩ => ⟨t, h1, h2.symm⟩⟩
      have lf : l'.length ≤ 26 := by
        have hsub : ∀ y ∈ l', y ∈ (signsL m).map sg := fun y hy => by
          obtain ⟨t, ht, e⟩ := (hmm y).mp hy
          rw [e]
          exact List.mem_map_of_mem (mem_signs.mpr ⟨(ok.sb t ht).2.1, t, ht, rfl⟩)
        have z := List.Nodup.length_le_of_subset nd' hsub
        rw [List.length_map] at z
        exact Nat.le_trans z (signs_few m)
      have s1 := sm.trans (same_new (o := SetSO P w a l') ha)
      refine ⟨a, l', rfl, upd_same, by omega, fun ys p py ndy sy hp => ?_⟩
      have e := signs_by ok (ys := ys) (fun y => by rw [py.mem_iff]; exact hmm y) ndy sy
      refine q _ p (s1.trans (same_new hp)) (s1.free hp) ?_
      rw [upd_same, e, List.map_map]
      rfl
end
end K44

set_option Elab.async false
set_option linter.all false
set_option maxRecDepth 100000
set_option maxHeartbeats 4000000
namespace K44
open PySem PySem.Spec PyProof.Rows L2
section
variable {X : Cx} {pins : List (Addr × Obj)} {σ : L2.St} {H : Hp} {s : Shared} {a b : Addr} {r : Value} {d : V} {A : Around} {E : Value → Shared → Prop}
theorem d_setdT {kvs : List (List Key × V)} {k : List Key} {Q : Value → Shared → Prop} (hu : A.units + 1 < cLine) (I : L2.Inv X pins σ H s) (e : H a = some (.dT kvs)) (eb : H b = some (.tup (k.map kV))) (rd : L2.RelV d r) (hl : kvs.length < sizeLine)
    (h1 : ∀ v, valV kvs k = some v → ∀ (w' : Value) (s' : Shared), L2.Inv X pins σ H s' → L2.RelV v w' → Q w' s') (h2 : valV kvs k = none → ∀ (w' : Value) (s' : Shared), L2.Inv X pins σ (upd H a (.dT (putK kvs k d))) s' → L2.RelV d w' → Q w' s') :
    wpAny (model X.prog X.w) A (call (.builtin "dict.setdefault") [.ref a, .ref b, r]) Q E s := by
  obtain ⟨z, hd, xs, rel, dd⟩ := dt_of I.hok e
  have hz : xs.length ≤ sizeLine := by rw [← Paired.length rel]; exact z
  have q := rel.val k
  refine PySem.call_setdefault_heap (hsz := hz) (tupleKind_room_in1 hu) (key_of I.hok eb) hd dd (fun p hp => ?_) fun hn h' dd' hs => ?_
  · rw [hp] at q
    cases q0 : valV kvs k with
    | none =>
      rw [q0] at q
      exact (show False from q).elim
    | some v0 =>
      rw [q0] at q
      exact h1 v0 q0 _ _ (I.tok _) q
  · rw [hn] at q
    cases q0 : valV kvs k with
    | some v0 =>
      rw [q0] at q
      exact (show False from q).elim
    | none =>
      have hl2 : (putK kvs k d).length ≤ sizeLine := by
        have := length_putK kvs k d
        omega
      obtain ⟨q1, es, ep, hq, g2, g3, g4, _, g5⟩ := dd'
      refine h2 q0 _ _ (d_write I (by rw [e]; exact True.intro) hs ⟨q1, hq⟩ ⟨hl2, hd, _, (rel.put k eb rd).keeps fun c ys ec => ?_, q1, es, ep, hq, g2, g3, g4, g5⟩) rd
      rw [upd_ne (ne_of ec e (fun z => nomatch z))]
      exact ec
end
def tDSetdT (td ty tx : TE) : TE := fun σ H Q => td σ H fun x H1 => ∃ a, x = .ref a ∧ IsD H1 a ∧ ty σ H1 fun y H2 => tx σ H2 fun z H3 => ∃ (kvs : List (List Key × V)) (k : List Key) (b : Addr), H3 a = some (.dT kvs) ∧ y = .ref b ∧ H3 b = some (.tup (k.map kV)) ∧ kvs.length < sizeLine ∧
  (∀ v, valV kvs k = some v → Q v H3) ∧ (valV kvs k = none → Q z (upd H3 a (.dT (putK kvs k z))))
section
variable {X : Cx} {o e f : Expr} {td ty tx : TE} {apos cpos : Pos}
theorem pe_dsetdT (hu : X.A.units + 1 < cLine) (ho : PE X o td) (he : PE X e ty) (hf : PE X f tx) (m : M2 X o "setdefault" apos e f cpos) : PE X (.Call (.Attribute o "setdefault" apos) [e, f] [] cpos) (tDSetdT td ty tx) := by
  refine ⟨fun pins s σ H Q I h => ?_⟩
  refine wpAny_Call_method m.base m.few m.line PySem.F.plainAttrs_dict PySem.F.slot_dict_setdefault PySem.F.type_dict_setdefault (thn (ho.run pins s σ H _ I h) fun u s1 ⟨x, H1, I1, rx, a, ex, d, q1⟩ => ?_)
  subst ex
  obtain rfl : u = Value.ref a := rx
  obtain ⟨t1, t2, _⟩ := isD_at I1 d
  refine ⟨t1, t2, ?_⟩
  rw [m.trees]
  refine Calls.callWith_builtin rfl (Calls.evalArgs_plain (Calls.spliced_cons (thn (he.run pins s1 σ H1 _ I1 q1) fun iv s2 ⟨y, H2, I2, ry, q2⟩ =>
    Calls.spliced_cons (thn (hf.run pins s2 σ H2 _ I2 q2) fun fv s3 ⟨z, H3, I3, rz, kvs, k, b, ea, ey, eb, hl, q3, q4⟩ => Calls.spliced_nil ?_))))
  subst ey
  obtain rfl : iv = Value.ref b := ry
  exact d_setdT hu I3 ea eb rz hl (fun v hv w' s4 I4 rw' => ⟨v, _, I4, rw', q3 v hv⟩) fun hn w' s4 I4 rw' => ⟨z, _, I4, rw', q4 hn⟩
end
/-! ### by_signs -/
def kXC (x c : Nat) : List Key := [Sum.inl (x : Int), Sum.inr (sg c)]
theorem kXC_inj {x c x' c' : Nat} (h : kXC x c = kXC x' c') : x = x' ∧ c = c' := by
  unfold kXC at h
  injection h with h1 h2
  injection h2 with h2 _
  injection h1 with h1
  injection h2 with h2
  exact ⟨by omega, sg_inj h2⟩
def tgt (steps : List (Nat × Nat × Nat)) (x c : Nat) : List Nat := (steps.filter fun t => decide (t.1 = x) && decide (t.2.1 = c)).map fun t => t.2.2
theorem mem_tgt {steps : List (Nat × Nat × Nat)} {x c y : Nat} : y ∈ tgt steps x c ↔ (x, c, y) ∈ steps := by
  unfold tgt
  rw [List.mem_map]
  constructor
  · rintro ⟨t, h1, h2⟩
    obtain ⟨h3, h4⟩ := List.mem_filter.mp h1
    rw [Bool.and_eq_true, decide_eq_true_iff, decide_eq_true_iff] at h4
    obtain ⟨a, b, d⟩ := t
    simp only at h2 h4
    rw [← h2, ← h4.1, ← h4.2]
    exact h3
  · intro h
    exact ⟨(x, c, y), List.mem_filter.mpr ⟨h, by simp⟩, rfl⟩
theorem tgt_len {steps : List (Nat × Nat × Nat)} (nd : steps.Nodup) (b : ∀ t ∈ steps, t.2.2 < 12) (x c : Nat) : (tgt steps x c).length ≤ 12 := by
  have nd2 : (tgt steps x c).Nodup := by
    unfold tgt
    refine List.pairwise_map.mpr (List.Pairwise.imp_of_mem (fun {s t} hs ht h e => ?_) (nd.sublist List.filter_sublist))
    have h1 := (List.mem_filter.mp hs).2
    have h2 := (List.mem_filter.mp ht).2
    rw [Bool.and_eq_true, decide_eq_true_iff, decide_eq_true_iff] at h1 h2
    obtain ⟨s1, s2, s3⟩ := s
    obtain ⟨t1, t2, t3⟩ := t
    simp only at h1 h2 e
    exact h (by rw [h1.1, h1.2, h2.1, h2.2, e])
  have h := List.Nodup.length_le_of_subset (l₂ := List.range 12) nd2 fun y hy => List.mem_range.mpr (b _ (mem_tgt.mp hy))
  rw [List.length_range] at h
  exact h
theorem tgt_le (steps : List (Nat × Nat × Nat)) (x c : Nat) : (tgt steps x c).length ≤ steps.length := by
  unfold tgt
  rw [List.length_map]
  exact List.length_filter_le _ _
theorem ints_ne {H : Hp} {a b : Addr} {ns : List Nat} {kvs : List (List Key × V)} (h : IntsAt H a ns) (h2 : H b = some (.dT kvs)) : a ≠ b := fun z => by
  have h : H a = some (.lst (ns.map nv)) := h
  rw [z, h2] at h
  cases h
theorem tgt_snoc (steps : List (Nat × Nat × Nat)) (t : Nat × Nat × Nat) (x c : Nat) : tgt (steps ++ [t]) x c = tgt steps x c ++ if t.1 = x ∧ t.2.1 = c then [t.2.2] else [] := by
  unfold tgt
  rw [List.filter_append, List.map_append]
  congr 1
  by_cases h : t.1 = x ∧ t.2.1 = c
  · rw [if_pos h]
    simp [h.1, h.2]
  · rw [if_neg h]
    have e : (decide (t.1 = x) && decide (t.2.1 = c)) = false := by
      rw [Bool.and_eq_false_iff, decide_eq_false_iff_not, decide_eq_false_iff_not]
      exact Decidable.not_and_iff_or_not.mp h
    rw [List.filter_cons, e]
    rfl
/-- the dict while it is made -/
structure BInv2 (H0 : Hp) (tb : Addr) (steps : List (Nat × Nat × Nat)) (H : Hp) : Prop where
  sm : Same H0 H
  ex : ∃ kvs : List (List Key × V), H tb = some (.dT kvs) ∧ kvs.length ≤ steps.length ∧
    (∀ k v, valV kvs k = some v → ∃ x c a, k = kXC x c ∧ v = .ref a ∧ H0 a = none ∧ IntsAt H a (tgt steps x c)) ∧ (∀ k k' a, valV kvs k = some (.ref a) → valV kvs k' = some (.ref a) → k = k') ∧ (∀ x c, valV kvs (kXC x c) = none → tgt steps x c = [])
section
variable {P : Program} {w : World} {K : PySem.W.Frag} {mg : Str → Option Value} {base : Heap}
def sp_by_signs : Sp := fun vs H Q _ => ∃ (v : V) (m : Mach) (t fa la sa : Addr), vs = [v] ∧ MacAt H v m t fa la sa ∧ m.steps.length ≤ 200 ∧ m.steps.Nodup ∧ (∀ t ∈ m.steps, t.2.2 < 12) ∧ ∀ H' p, Same H H' → H p = none → TabAt p m.steps H' → Q (.ref p) H'
theorem cl_by_signs (F : Has K mg "by_signs" s_by_signs) : Cal P w K mg base 1 "by_signs" ["machine"] sp_by_signs := by
  refine cal_mk F s_by_signs_sc (fun _ _ _ _ _ _ us hl => match us, hl with | [_], _ => rfl) (fun vs H Q E h => ?_) (fun f cdv A outer s H vs Q E hr h => ?_)
  · obtain ⟨_, _, _, _, _, _, rfl, _⟩ := h
    rfl
  · obtain ⟨v, m, t, fa, la, sa, rfl, M, few, ndS, bd, q⟩ := h
    have nd := s_by_signs_sc.nd
    have ev := M.v
    subst ev
    have hu := hu_of hr
    refine ⟨_, pss_cons (ps_set (i := 1) nd rfl (.inl rfl) pe_dnewT)
      (pss_cons (ps_for PassesOwn.never rfl (pi_list (pe_ix ix_tup (pv 0) pe_int (fun _ _ => rfl))) (pg_tup rfl (pgs_cons (pg_name (i := 2) nd rfl (.inl rfl)) (pgs_cons (pg_name (i := 3) nd rfl (.inl rfl)) (pgs_cons (pg_name (i := 4) nd rfl (.inl rfl)) pgs_nil))))
        (pss_one (ps_expr (pe_bm PySem.F.plainAttrs_list PySem.F.slot_list_append PySem.F.type_list_append mt_append (pe_dsetdT hu (pv 1) (pe_tup (pa_cons (pv 2) (pa_cons (pv 3) pa_nil))) (pe_lst pa_nil) ⟨rfl, rfl, rfl, rfl⟩) (pa_cons (pv 4) pa_nil)))))
      (pss_one (ps_ret (pv 1)))), ?_⟩
    intro tb htb
    have s0 : Same H (upd H tb (.dT [])) := same_new htb
    obtain ⟨xs, hx, lr⟩ := M.sa
    have I0 : BInv2 H tb [] (upd H tb (.dT [])) := ⟨s0, [], upd_same, Nat.le_refl _, fun k v h => (by cases h), fun k k' a h => (by cases h), fun x c _ => rfl⟩
    generalize upd H tb (.dT []) = H1 at s0 I0 ⊢
    refine ⟨_, rfl, t, _, 3, .ref sa, rfl, rfl, .inl (.inl (s0 _ _ M.t)), atI_nat (j := 3) rfl, sa, rfl, ⟨xs, .inl (.inl (s0 _ _ hx))⟩, ?_⟩
    refine for_it walk_list (fun i σ H' => ∃ y2 y3 y4, σ = [some (.ref t), some (.ref tb), y2, y3, y4] ∧ BInv2 H tb (m.steps.take i) H') ⟨_, _, _, rfl, I0⟩ (fun i σ H' _ ⟨_, _, _, _, I⟩ => .inl (.inl (I.sm _ _ hx))) (fun i x σ H2 H2' hi ⟨y2, y3, y4, e, I⟩ y => ?_) (fun σ H2 ⟨y2, y3, y4, e, I⟩ => ?_)
    · subst e
      obtain ⟨rfl, ex⟩ := y
      obtain ⟨st, est, a0, rfl, ha0⟩ := lr.at ex
      obtain ⟨x, c, y⟩ := st
      have hik : i < m.steps.length := by rw [← lr.1]; exact hi
      obtain ⟨kvs, d1, d2, d3, d4, d5⟩ := I.ex
      refine ⟨a0, _, rfl, .inl (.inl (I.sm _ _ ha0)), rfl, _, _, rfl, _, _, rfl, _, _, rfl, rfl, ?_⟩
      refine ⟨_, rfl, tb, rfl, .inr ⟨kvs, .inl d1⟩, _, rfl, _, rfl, by show 2 ≤ sizeLine; decide, fun b hb => ⟨Nat.zero_le _, fun z hz => ?_⟩⟩
      have s3 : Same H2' (upd H2' b (.tup [nv x, .str (sg c)])) := same_new hb
      have eb : (upd H2' b (.tup [nv x, .str (sg c)])) b = some (.tup ((kXC x c).map kV)) := upd_same
      have hz : (upd H2' b (.tup [nv x, .str (sg c)])) z = none := hz
      change ∃ kvs k b', (upd (upd H2' b (.tup [nv x, .str (sg c)])) z (.lst [])) tb = _ ∧ V.ref b = .ref b' ∧ _
      generalize upd H2' b (.tup [nv x, .str (sg c)]) = H3 at s3 eb hz ⊢
      have s4 : Same H3 (upd H3 z (.lst [])) := same_new hz
      have ez : (upd H3 z (.lst [])) z = some (.lst []) := upd_same
      have nz : ∀ k v a, valV kvs k = some v → v = .ref a → a ≠ z := fun k v a h1 h2 h3 => by
        obtain ⟨x', c', a', _, e2, _, e4⟩ := d3 k v h1
        rw [h2] at e2
        cases e2
        rw [h3] at e4
        rw [s3 _ _ e4] at hz
        cases hz
      have ntz : tb ≠ z := fun w => by
        rw [← w, s3 _ _ d1] at hz
        cases hz
      have h0z : H z = none := (I.sm.trans s3).free hz
      generalize upd H3 z (.lst []) = H4 at s4 ez ⊢
      have s24 := s3.trans s4
      have s04 := I.sm.trans s24
      have few2 : kvs.length < sizeLine := Nat.lt_of_le_of_lt (Nat.le_trans d2 (by rw [List.length_take]; exact Nat.min_le_left _ _)) (small1000 (by omega))
      have tk : m.steps.take (i + 1) = m.steps.take i ++ [(x, c, y)] := by
        rw [List.take_add_one, est]
        rfl
      refine ⟨kvs, kXC x c, b, s24 _ _ d1, rfl, s4 _ _ eb, few2, fun v hv => ?_, fun hn => ?_⟩
      · obtain ⟨x', c', a, ek, rfl, h0a, hIa⟩ := d3 _ _ hv
        obtain ⟨rfl, rfl⟩ := kXC_inj ek
        have hIa4 := s24 _ _ hIa
        have nta : tb ≠ a := fun w => by
          rw [← w, s24 _ _ d1] at hIa4
          cases hIa4
        refine ⟨.inl ⟨rfl, _, .inl (.inl hIa4)⟩, _, rfl, a, _, nv y, rfl, rfl, hIa4, ?_, ?_⟩
        · rw [List.length_map]
          refine Nat.lt_of_le_of_lt (Nat.le_trans (tgt_le _ x c) ?_) (small1000 (n := 200) (by omega))
          rw [List.length_take]
          omega
        · refine ⟨_, _, _, rfl, ?_⟩
          rw [tk]
          refine ⟨same_upd s04 h0a, kvs, by rw [upd_ne nta]; exact s24 _ _ d1, by rw [List.length_append]; omega, fun k' v' h' => ?_, d4, fun x' c' h' => ?_⟩
          · obtain ⟨x', c', a', e1, e2, e3, e4⟩ := d3 k' v' h'
            refine ⟨x', c', a', e1, e2, e3, ?_⟩
            rw [tgt_snoc]
            by_cases hxc : x = x' ∧ c = c'
            · obtain ⟨rfl, rfl⟩ := hxc
              rw [e1, hv] at h'
              rw [e2] at h'
              cases h'
              show upd H4 a _ a = _
              rw [upd_same, if_pos ⟨rfl, rfl⟩, List.map_append]
              rfl
            · rw [if_neg hxc, List.append_nil]
              have na : a' ≠ a := fun w => hxc (by
                rw [e2, w, e1] at h'
                exact kXC_inj (d4 _ _ _ hv h'))
              show upd H4 a _ a' = _
              rw [upd_ne na]
              exact s24 _ _ e4
          · rw [tgt_snoc, d5 x' c' h', if_neg]
            · rfl
            · rintro ⟨h1, h2⟩
              subst h1
              subst h2
              rw [hv] at h'
              cases h'
      · have hz5 : (upd H4 tb (.dT (putK kvs (kXC x c) (.ref z)))) z = some (.lst []) := by
          rw [upd_ne (Ne.symm ntz)]
          exact ez
        refine ⟨.inl ⟨rfl, _, .inl (.inl hz5)⟩, _, rfl, z, [], nv y, rfl, rfl, hz5, by decide, ?_⟩
        refine ⟨_, _, _, rfl, ?_⟩
        rw [tk]
        refine ⟨same_upd (same_upd s04 htb) h0z, putK kvs (kXC x c) (.ref z), by rw [upd_ne ntz, upd_same], ?_, fun k' v' h' => ?_, fun k1 k2 a' h1 h2 => ?_, fun x' c' h' => ?_⟩
        · have := length_putK kvs (kXC x c) (.ref z)
          rw [List.length_append, List.length_singleton]
          omega
        · rw [valV_put] at h'
          by_cases ek : k' = kXC x c
          · rw [if_pos ek] at h'
            cases h'
            refine ⟨x, c, z, ek, rfl, h0z, ?_⟩
            rw [tgt_snoc, d5 x c hn, if_pos ⟨rfl, rfl⟩]
            exact upd_same
          · rw [if_neg ek] at h'
            obtain ⟨x', c', a', e1, e2, e3, e4⟩ := d3 k' v' h'
            refine ⟨x', c', a', e1, e2, e3, ?_⟩
            rw [tgt_snoc, if_neg, List.append_nil]
            · show upd _ z _ a' = _
              rw [upd_ne (nz k' v' a' h' e2), upd_ne (ints_ne e4 d1)]
              exact s24 _ _ e4
            · rintro ⟨f1, f2⟩
              have f1 : x = x' := f1
              have f2 : c = c' := f2
              exact ek (by rw [e1, f1, f2])
        · rw [valV_put] at h1 h2
          by_cases e1 : k1 = kXC x c
          · by_cases e2 : k2 = kXC x c
            · rw [e1, e2]
            · rw [if_pos e1] at h1
              rw [if_neg e2] at h2
              cases h1
              exact absurd rfl (nz _ _ _ h2 rfl)
          · by_cases e2 : k2 = kXC x c
            · rw [if_neg e1] at h1
              rw [if_pos e2] at h2
              cases h2
              exact absurd rfl (nz _ _ _ h1 rfl)
            · rw [if_neg e1] at h1
              rw [if_neg e2] at h2
              exact d4 _ _ _ h1 h2
        · rw [valV_put] at h'
          split at h'
          · cases h'
          · rename_i ne
            rw [tgt_snoc, d5 x' c' h', if_neg]
            · rfl
            · rintro ⟨f1, f2⟩
              have f1 : x = x' := f1
              have f2 : c = c' := f2
              exact ne (by rw [f1, f2])
    · subst e
      rw [lr.1, List.take_length] at I
      obtain ⟨kvs, d1, d2, d3, d4, d5⟩ := I.ex
      refine ⟨_, rfl, q H2 tb I.sm htb ⟨kvs, d1, fun x c => ⟨tgt m.steps x c, fun y => mem_tgt, tgt_len ndS bd x c, ?_⟩⟩⟩
      cases hv : valV kvs (kXC x c) with
      | none => exact .inl ⟨hv, d5 x c hv⟩
      | some v =>
        obtain ⟨x', c', a, e1, e2, _, e4⟩ := d3 _ _ hv
        obtain ⟨rfl, rfl⟩ := kXC_inj e1
        exact .inr ⟨a, by rw [← e2]; exact hv, e4⟩
end
end K44

set_option Elab.async false
set_option linter.all false
set_option maxRecDepth 100000
set_option maxHeartbeats 4000000
namespace K44
open PySem PySem.Spec PyProof.Rows L2 NdefX LamX
/-! ### heaps that grow but for the code tables -/
def RelT (T : List NTab) (H H' : Hp) : Prop := ExtN H H' ∧ (∀ b, H' b = none → H b = none) ∧ (TabsN T H → TabsN T H')
theorem tabs_upd {T : List NTab} {H : Hp} {b : Addr} {o : HO} (t : TabsN T H) (h : H b = none ∨ ∃ xs, H b = some (.lst xs)) : TabsN T (upd H b o) := fun p hp => by
  obtain ⟨ps, h1, h2, h3⟩ := t p hp
  refine ⟨ps, ?_, h2, fun pos cv hc => ?_⟩
  · rw [upd_ne]
    · exact h1
    · intro z
      rw [← z, h1] at h
      rcases h with h | ⟨xs, h⟩ <;> cases h
  · obtain ⟨c, e1, e2⟩ := h3 pos cv hc
    refine ⟨c, e1, ?_⟩
    rw [upd_ne]
    · exact e2
    · intro z
      rw [← z, e2] at h
      rcases h with h | ⟨xs, h⟩ <;> cases h
theorem RelT.of {T : List NTab} {H H' : Hp} (s : Same H H') : RelT T H H' := ⟨ExtN.of s, fun b h => Same.free s h, fun t => t.ext s⟩
theorem RelT.trans {T : List NTab} {H H1 H2 : Hp} (a : RelT T H H1) (b : RelT T H1 H2) : RelT T H H2 := ⟨a.1.trans b.1, fun c h => a.2.1 c (b.2.1 c h), fun t => b.2.2 (a.2.2 t)⟩
theorem RelT.lst {T : List NTab} {H H' : Hp} (e : RelT T H H') {b : Addr} {xs : List V} (h : H b = some (.lst xs)) : H' b = some (.lst xs) := e.1 _ _ h fun ps z => by cases z
theorem RelT.tup {T : List NTab} {H H' : Hp} (e : RelT T H H') {b : Addr} {xs : List V} (h : H b = some (.tup xs)) : H' b = some (.tup xs) := e.1 _ _ h fun ps z => by cases z
theorem RelT.dT {T : List NTab} {H H' : Hp} (e : RelT T H H') {b : Addr} {kvs : List (List Key × V)} (h : H b = some (.dT kvs)) : H' b = some (.dT kvs) := e.1 _ _ h fun ps z => by cases z
theorem grow_rel (T : List NTab) : Grow (RelT T) where
  refl := fun H => .of (Same.refl H)
  trans := fun _ _ _ a b => a.trans b
  lst := fun _ _ b xs e h => e.lst h
  put := fun H H' b xs ys e h0 h => by
    refine ⟨fun c o hc n => ?_, fun c hc => ?_, fun t => tabs_upd (e.2.2 t) (.inr ⟨xs, h⟩)⟩
    · rw [upd_ne (fun z => by rw [z, h0] at hc; cases hc)]
      exact e.1 c o hc n
    · exact e.2.1 c (upd_none hc)
  tups := fun _ _ e b xs h => e.tup h
  new := fun H p o h => .of (same_new h)
theorem MacAt.rel {T : List NTab} {H H' : Hp} {v : V} {m : Mach} {t fa la sa : Addr} (h : MacAt H v m t fa la sa) (e : RelT T H H') : MacAt H' v m t fa la sa := by
  obtain ⟨xs, h1, h2⟩ := h.sa
  exact ⟨h.v, e.tup h.t, e.lst h.fa, e.lst h.la, xs, e.lst h1, h2.mono fun x y k => k.mono fun b ys q => e.tup q⟩
theorem TabAt.rel {T : List NTab} {tb : Addr} {steps : List (Nat × Nat × Nat)} {H H' : Hp} (h : TabAt tb steps H) (e : RelT T H H') : TabAt tb steps H' := by
  obtain ⟨kvs, h1, h2⟩ := h
  refine ⟨kvs, e.dT h1, fun x c => ?_⟩
  obtain ⟨l, e1, e2, e3⟩ := h2 x c
  exact ⟨l, e1, e2, e3.imp id fun ⟨a, e4, e5⟩ => ⟨a, e4, e.lst e5⟩⟩
/-! ### a call of first_text -/
def tFirst (P : Program) (w : World) (K : PySem.W.Frag) (mg : Str → Option Value) (base : Heap) (k : Nat) (cl : List (Str × Addr)) (fr : List Str) (js : List Nat) (t : TA) : TE := fun σ H Q => t σ H fun vs H1 => ∃ F : NF, F.cl = cl ∧ FArg P w K mg base k F fr (js.map (slotAt σ)) vs H1 Q
section
variable {X : Cx} {k : Nat} {cl : List (Str × Addr)} {fr : List Str} {js : List Nat} {p pos : Pos} {e : Expr} {es : List Expr} {t : TA}
theorem cell_out {pins : List (Addr × Obj)} {σ : L2.St} {H : Hp} {s : Shared} (I : L2.Inv X pins σ H s) (hfn : ∀ y, X.fn y = true) {y : Str} {c : Addr} (h : X.env.cells.lookup y = some c) : c ∉ frs X.stack := by
  have nl : c ≠ X.env.locals := fun z => by
    obtain ⟨v, o, ho, hd⟩ := I.cell y c h
    obtain ⟨m, ⟨o2, es, ep, ho2, hd2, _⟩, _⟩ := I.loc
    rw [z, ho2] at ho
    cases ho
    rw [hd2] at hd
    cases hd
  have no : c ∉ frs X.outer := fun z => by
    obtain ⟨_, o, ho, _⟩ := I.ok.funs.mem z
    exact absurd (Heap.lt_size ho) (Nat.not_lt_of_le (I.ok.cab y c (hfn y) h))
  rcases I.ok.stk with e | ⟨e, ef⟩
  · rw [e]
    exact no
  · rw [e]
    unfold frs
    rw [List.filterMap_cons, ef]
    intro z
    rcases List.mem_cons.mp z with z | z
    · exact nl z
    · exact no z
theorem pe_first (C : FCal X.prog X.w X.K X.mg X.base k) (cp : X.Ok → Caps X cl fr js) (hfn : ∀ y, X.fn y = true) (hr : Room (k + 1) X.A) (ha : PA X (e :: es) t) (hg : Gl X "first_text" := by rfl)
    (he : starEach (e :: es) X.env = (false, eval e X.env) :: starEach es X.env := by rfl) (hpl : (backTo pos (starEach es X.env)).any (·.1) = false := by rfl) : PE X (.Call (.Name "first_text" p) (e :: es) [] pos) (tFirst X.prog X.w X.K X.mg X.base k cl fr js t) := by
  obtain ⟨f, fd, run, hm, hk, hb⟩ := C.ex
  refine ⟨fun pins s σ H Q I h => ?_⟩
  refine wpAny_Call_Name_kw (ld_glob I hg hm ?_ (by decide))
  refine PySem.W.callWith_K (h₀ := X.base) I.ok.mod.kin hk (thn (ha.run pos pins s σ H _ I h) fun us s1 ⟨vs, H1, I1, r, F, ecl, q⟩ => ⟨I1.kIn, ?_⟩) he hpl
  have lv : vs.length = 4 := by
    obtain ⟨_, _, _, _, _, _, _, _, _, _, rfl, _⟩ := q.ex
    rfl
  have hl : (us ++ ([] : List Value)).length = (["signs", "start", "goal", "nexts"] : List Str).length := by
    rw [List.append_nil, ← r.length, lv]
    rfl
  have hbt := hb s1 us I1.kIn hl
  rw [List.append_nil] at hbt
  have C1 : CellsAt F.cl fr (js.map (slotAt σ)) s1.heap H1 := by
    rw [ecl]
    exact cells_of I1 (cp I1.ok)
  have nf : ∀ y c, F.cl.lookup y = some c → c ∉ frs X.stack := fun y c hc => by
    rw [ecl] at hc
    exact cell_out I1 hfn ((cp I1.ok).sub y c hc)
  refine wpAny_call (codeAny_mono (run X.A X.stack s1 H1 ⟨us, []⟩ us vs Q hr I1.env0 hbt r ⟨F, fr, _, C1, nf, q⟩) fun r s' hq => ?_)
  cases r with
  | error e => exact False.elim hq
  | ok fl =>
    cases fl with
    | ret u => exact I1.after hq
    | next => exact False.elim hq
    | brk => exact False.elim hq
    | cont => exact False.elim hq
end
/-! ### double_text, led_text -/
structure HasT (K : PySem.W.Frag) (mg : Str → Option Value) (base : Heap) (T : List NTab) (x : Str) (st : Stmt) (nm : Nat → Nat → Str) : Prop where
  ex : ∃ f fd c Pt, FnP K x st f fd ∧ mg x = some (.ref f) ∧ fd.code = .ref c ∧ TabB base mg c Pt ∧ (Pt, nm) ∈ T ∧ ∀ p ∈ T, p.1 = Pt → p.2 = nm
def nmD : Nat → Nat → Str := fun _ _ => "double_text.<locals>.nexts"
def nmL : Nat → Nat → Str := fun _ _ => "led_text.<locals>.nexts"
section
variable {P : Program} {w : World} {K : PySem.W.Frag} {mg : Str → Option Value} {base : Heap} {T : List NTab}
def sp_double_text (T : List NTab) : Sp := fun vs H Q _ => ∃ (m : Mach) (tb sa : Addr) (r : Nat), vs = [.ref tb, .ref sa, nv r] ∧ MOk m ∧ r < 12 ∧ TabsN T H ∧ TabAt tb (trimM m).steps H ∧ H sa = some (.lst ((signsL m).map fun c => .str (sg c))) ∧ ∀ H', RelT T H H' → (∀ w, dW m r = some w → w.length ≤ 2000) → Q (resV (dW m r)) H'
theorem cl_double_text (F0 : HasT K mg base T "double_text" s_double_text nmD) (C : FCal P w K mg base 1) : Cal P w K mg base 3 "double_text" ["table", "signs", "room"] (sp_double_text T) := by
  obtain ⟨f, fd, c, Pt, F, g, ec, TB, hm, hu⟩ := F0.ex
  have hbind := FunD.bindsN (ps := ["table", "signs", "room"]) F (fun _ _ _ _ _ _ us hl => match us, hl with | [_, _, _], _ => rfl)
  obtain ⟨oc, od, dV, kV, doc, pm, an, cdv, ct, osl, rfl, lk, hcd, _, _⟩ := F.ex
  have ec : cdv = .ref c := ec
  subst ec
  have S := s_double_text_sc
  have nd := S.nd
  refine ⟨f, _, fn_of lk hcd S (fun vs H Q E h => ?_) (fun A outer s H vs Q E hr h => ?_), g, F.kp, hbind⟩
  · obtain ⟨_, _, _, _, rfl, _⟩ := h
    rfl
  · obtain ⟨m, tb, sa, r, rfl, ok, hr12, hT, hTab, hsa, q⟩ := h
    have hfree := ndef_free (sc := defScope s_double_text) (nsc := C8.fnScope s_dn) (fr := ["table"]) (by decide +kernel)
    have hfr := ndef_fr (sc := defScope s_double_text) (nsc := C8.fnScope s_dn) (fr := ["table"]) (by decide +kernel)
    refine ⟨_, PSs.nox (pss_cons (ps_ndefMS (st := s_dn) (T := T) (nm := nmD) (c := c) (P := Pt) (i := 3) rfl TB rfl hm rfl hu hfree rfl rfl rfl nd rfl (.inl rfl) (.inl rfl))
      (pss_one (ps_ret (pe_first (k := 1) C (fun ok => Caps.made ok hfree hfr (js := [0]) rfl) (fun _ => rfl) hr (pa_cons (pv 1) (pa_cons (pe_tup (pa_cons (pv 2) (pa_cons (pv 2) (pa_cons pe_bl pa_nil)))) (pa_cons (pe_tup (pa_cons (pv 2) (pa_cons (pv 2) (pa_cons pe_bl pa_nil)))) (pa_cons (pv 3) pa_nil)))))))), ?_⟩
    refine ⟨hT, fun fn c' H1 eN nn T1 f0 f1 c1 => ?_⟩
    have rel1 : RelT T H H1 := ⟨eN, nn, fun _ => T1⟩
    refine ⟨_, rfl, _, rfl, _, rfl, by show 3 ≤ sizeLine; decide, fun p1 hp1 => ?_⟩
    have s2 : Same H1 (upd H1 p1 (.tup (ndV true ((r, r, 0))))) := same_new hp1
    have e2 : (upd H1 p1 (.tup (ndV true ((r, r, 0))))) p1 = some (.tup (ndV true ((r, r, 0)))) := upd_same
    have hp1' : H1 p1 = none := hp1
    change tCons _ _ _ (upd H1 p1 (.tup (ndV true ((r, r, 0))))) _
    generalize upd H1 p1 (.tup (ndV true ((r, r, 0)))) = H2 at s2 e2 ⊢
    refine ⟨_, rfl, _, rfl, by show 3 ≤ sizeLine; decide, fun p2 hp2 => ?_⟩
    have s3 : Same H2 (upd H2 p2 (.tup (ndV true ((r, r, 1))))) := same_new hp2
    have e3 : (upd H2 p2 (.tup (ndV true ((r, r, 1))))) p2 = some (.tup (ndV true ((r, r, 1)))) := upd_same
    change tCons _ _ _ (upd H2 p2 (.tup (ndV true ((r, r, 1))))) _
    generalize upd H2 p2 (.tup (ndV true ((r, r, 1)))) = H3 at s3 e3 ⊢
    have s13 := s2.trans s3
    have rel3 := rel1.trans (.of s13)
    refine ⟨_, rfl, _, rfl, ⟨true, gD m, TabAt tb (trimM m).steps, fn, sa, p1, p2, signsL m, (r, r, 0), (r, r, 1), rfl, nok_double ok 0, s13 _ _ f1, s13 _ _ c1, TabAt.same, hTab.rel rel3, rel3.lst hsa, signs_few m, fun c hc => (mem_signs.mp hc).1.2, s3 _ _ e2, ⟨⟨hr12, hr12, by show (0 : Nat) < 12; decide⟩, fun _ => by show (0 : Nat) ≤ 1; decide⟩, e3, ⟨⟨hr12, hr12, by show (1 : Nat) < 12; decide⟩, fun _ => by show (1 : Nat) ≤ 1; decide⟩, gD_signs ok, fun H' s4 b4 => q H' (rel3.trans (.of s4)) b4⟩⟩
def sp_led_text (T : List NTab) : Sp := fun vs H Q _ => ∃ (m : Mach) (tb sa : Addr) (r o : Nat), vs = [.ref tb, .ref sa, nv r, nv o] ∧ MOk m ∧ r < 12 ∧ o < 12 ∧ TabsN T H ∧ TabAt tb (trimM m).steps H ∧ H sa = some (.lst ((signsL m).map fun c => .str (sg c))) ∧ ∀ H', RelT T H H' → (∀ w, lW m r o = some w → w.length ≤ 2000) → Q (resV (lW m r o)) H'
theorem cl_led_text (F0 : HasT K mg base T "led_text" s_led_text nmL) (C : FCal P w K mg base 1) : Cal P w K mg base 3 "led_text" ["table", "signs", "room", "other"] (sp_led_text T) := by
  obtain ⟨f, fd, c, Pt, F, g, ec, TB, hm, hu⟩ := F0.ex
  have hbind := FunD.bindsN (ps := ["table", "signs", "room", "other"]) F (fun _ _ _ _ _ _ us hl => match us, hl with | [_, _, _, _], _ => rfl)
  obtain ⟨oc, od, dV, kV, doc, pm, an, cdv, ct, osl, rfl, lk, hcd, _, _⟩ := F.ex
  have ec : cdv = .ref c := ec
  subst ec
  have S := s_led_text_sc
  have nd := S.nd
  refine ⟨f, _, fn_of lk hcd S (fun vs H Q E h => ?_) (fun A outer s H vs Q E hr h => ?_), g, F.kp, hbind⟩
  · obtain ⟨_, _, _, _, _, rfl, _⟩ := h
    rfl
  · obtain ⟨m, tb, sa, r, o, rfl, ok, hr12, ho12, hT, hTab, hsa, q⟩ := h
    have hfree := ndef_free (sc := defScope s_led_text) (nsc := C8.fnScope s_ln) (fr := ["table"]) (by decide +kernel)
    have hfr := ndef_fr (sc := defScope s_led_text) (nsc := C8.fnScope s_ln) (fr := ["table"]) (by decide +kernel)
    refine ⟨_, PSs.nox (pss_cons (ps_ndefMS (st := s_ln) (T := T) (nm := nmL) (c := c) (P := Pt) (i := 4) rfl TB rfl hm rfl hu hfree rfl rfl rfl nd rfl (.inl rfl) (.inl rfl))
      (pss_one (ps_ret (pe_first (k := 1) C (fun ok => Caps.made ok hfree hfr (js := [0]) rfl) (fun _ => rfl) hr (pa_cons (pv 1) (pa_cons (pe_tup (pa_cons (pv 2) (pa_cons (pv 2) (pa_cons (pv 3) pa_nil)))) (pa_cons (pe_tup (pa_cons (pv 2) (pa_cons (pv 3) (pa_cons (pv 3) pa_nil)))) (pa_cons (pv 4) pa_nil)))))))), ?_⟩
    refine ⟨hT, fun fn c' H1 eN nn T1 f0 f1 c1 => ?_⟩
    have rel1 : RelT T H H1 := ⟨eN, nn, fun _ => T1⟩
    refine ⟨_, rfl, _, rfl, _, rfl, _, rfl, by show 3 ≤ sizeLine; decide, fun p1 hp1 => ?_⟩
    have s2 : Same H1 (upd H1 p1 (.tup (ndV false ((r, r, o))))) := same_new hp1
    have e2 : (upd H1 p1 (.tup (ndV false ((r, r, o))))) p1 = some (.tup (ndV false ((r, r, o)))) := upd_same
    have hp1' : H1 p1 = none := hp1
    change tCons _ _ _ (upd H1 p1 (.tup (ndV false ((r, r, o))))) _
    generalize upd H1 p1 (.tup (ndV false ((r, r, o)))) = H2 at s2 e2 ⊢
    refine ⟨_, rfl, _, rfl, _, rfl, by show 3 ≤ sizeLine; decide, fun p2 hp2 => ?_⟩
    have s3 : Same H2 (upd H2 p2 (.tup (ndV false ((r, o, o))))) := same_new hp2
    have e3 : (upd H2 p2 (.tup (ndV false ((r, o, o))))) p2 = some (.tup (ndV false ((r, o, o)))) := upd_same
    change tCons _ _ _ (upd H2 p2 (.tup (ndV false ((r, o, o))))) _
    generalize upd H2 p2 (.tup (ndV false ((r, o, o)))) = H3 at s3 e3 ⊢
    have s13 := s2.trans s3
    have rel3 := rel1.trans (.of s13)
    refine ⟨_, rfl, _, rfl, ⟨false, gL m, TabAt tb (trimM m).steps, fn, sa, p1, p2, signsL m, (r, r, o), (r, o, o), rfl, nok_led ok 0, s13 _ _ f1, s13 _ _ c1, TabAt.same, hTab.rel rel3, rel3.lst hsa, signs_few m, fun c hc => (mem_signs.mp hc).1.2, s3 _ _ e2, ⟨⟨hr12, hr12, ho12⟩, fun z => by cases z⟩, e3, ⟨⟨hr12, ho12, ho12⟩, fun z => by cases z⟩, gL_signs ok, fun H' s4 b4 => q H' (rel3.trans (.of s4)) b4⟩⟩
end
end K44

set_option Elab.async false
set_option linter.all false
set_option maxRecDepth 100000
set_option maxHeartbeats 4000000
namespace K44
open PySem PySem.Spec PyProof.Rows L2 NdefX LamX
def RDb (H : Hp) (x : V) (e : Nat × List Nat) : Prop := ∃ a, x = .ref a ∧ H a = some (.tup [nv e.1, .str (txt e.2)]) ∧ e.2.length ≤ 2000
theorem RDb.mono {H H' : Hp} {x : V} {e : Nat × List Nat} (h : RDb H x e) (k : Tups H H') : RDb H' x e := by
  obtain ⟨a, h1, h2, h3⟩ := h
  exact ⟨a, h1, k _ _ h2, h3⟩
def RRs (H : Hp) (x : V) (e : Nat × Option (List Nat)) : Prop := ∃ a, x = .ref a ∧ H a = some (.tup [nv e.1, resV e.2]) ∧ ∀ w, e.2 = some w → w.length ≤ 2000
theorem RRs.mono {H H' : Hp} {x : V} {e : Nat × Option (List Nat)} (h : RRs H x e) (k : Tups H H') : RRs H' x e := by
  obtain ⟨a, h1, h2, h3⟩ := h
  exact ⟨a, h1, k _ _ h2, h3⟩
def RPr (H : Hp) (x : V) (e : Nat × Nat × List Nat) : Prop := ∃ a, x = .ref a ∧ H a = some (.tup [nv e.1, nv e.2.1, .str (txt e.2.2)]) ∧ e.2.2.length ≤ 2000
theorem RPr.mono {H H' : Hp} {x : V} {e : Nat × Nat × List Nat} (h : RPr H x e) (k : Tups H H') : RPr H' x e := by
  obtain ⟨a, h1, h2, h3⟩ := h
  exact ⟨a, h1, k _ _ h2, h3⟩
def DblAt (H : Hp) (p : Addr) (l : List (Nat × List Nat)) : Prop := ∃ xs, H p = some (.lst xs) ∧ LR RDb H xs l
def PrsAt (H : Hp) (p : Addr) (l : List (Nat × Nat × List Nat)) : Prop := ∃ xs, H p = some (.lst xs) ∧ LR RPr H xs l
theorem useful_12 {m : Mach} (ok : MOk m) (r : Nat) (h : r ∈ usefulL m) : r < 12 := Nat.lt_of_lt_of_le (mem_useful.mp h).1 ok.top
theorem useful_few {m : Mach} (ok : MOk m) : (usefulL m).length ≤ 12 := few_of (useful_inc m) (useful_12 ok)
theorem trim_steps {m : Mach} (ok : MOk m) : (trimM m).steps.length ≤ 200 ∧ (trimM m).steps.Nodup ∧ ∀ t ∈ (trimM m).steps, t.2.2 < 12 := by
  have hs : (trimM m).steps.Sublist m.steps := List.filter_sublist
  exact ⟨Nat.le_trans hs.length_le ok.sl, ok.sn.sublist hs, fun t ht => Nat.lt_of_lt_of_le (ok.sb t (hs.subset ht)).2.2 ok.top⟩
section
variable {P : Program} {w : World} {K : PySem.W.Frag} {mg : Str → Option Value} {base : Heap} {T : List NTab}
def sp_double_rounds (T : List NTab) : Sp := fun vs H Q _ => ∃ (v : V) (m : Mach) (t fa la sa : Addr), vs = [v] ∧ MacAt H v m t fa la sa ∧ MOk m ∧ TabsN T H ∧ ∀ H' p, RelT T H H' → H p = none → DblAt H' p (doubles m) → Q (.ref p) H'
theorem cl_double_rounds (F : Has K mg "double_rounds" s_double_rounds) (CU : Cal P w K mg base 6 "useful" ["machine"] sp_useful) (CT : Cal P w K mg base 7 "trimmed" ["machine"] sp_trimmed) (CB : Cal P w K mg base 1 "by_signs" ["machine"] sp_by_signs)
    (CS : Cal P w K mg base 1 "signs_of" ["machine"] sp_signs_of) (CD : Cal P w K mg base 3 "double_text" ["table", "signs", "room"] (sp_double_text T)) : Cal P w K mg base 8 "double_rounds" ["machine"] (sp_double_rounds T) := by
  refine cal_mk F s_double_rounds_sc (fun _ _ _ _ _ _ us hl => match us, hl with | [_], _ => rfl) (fun vs H Q E h => ?_) (fun f cdv A outer s H vs Q E hr h => ?_)
  · obtain ⟨_, _, _, _, _, _, rfl, _⟩ := h
    rfl
  · obtain ⟨v, m, t, fa, la, sa, rfl, M, ok, hT, q⟩ := h
    have nd := s_double_rounds_sc.nd
    have ev := M.v
    subst ev
    refine ⟨_, pss_cons (ps_set (i := 1) nd rfl (.inl rfl) (pe_cal (CU.mono (k := 7) (by decide)) hr (pa_cons (pv 0) pa_nil)))
      (pss_cons (ps_set (i := 2) nd rfl (.inr rfl) (pe_cal (CB.mono (k := 7) (by decide)) hr (pa_cons (pe_cal CT hr (pa_cons (pv 0) pa_nil)) pa_nil)))
      (pss_cons (ps_setLc (i := 3) (own := [("room", 4)]) (g := gName 4) (tt := tYes) rfl nd rfl rfl (sw_true rfl rfl rfl (by decide +kernel)) (pi_list (pv 1)) (blkOk_by (N := s_double_rounds_N) (sc := defScope s_double_rounds) (by decide +kernel))
          (fun _ _ _ _ _ => pg_name (i := 4) nd rfl (.inl rfl)) (fun _ _ _ _ _ => pts_nil)
          (fun _ _ _ _ _ => pe_tup (pa_cons (pv 4) (pa_cons (pe_cal (CD.mono (k := 7) (by decide)) hr (pa_cons (pv 2) (pa_cons (pe_cal (CS.mono (k := 7) (by decide)) hr (pa_cons (pv 0) pa_nil)) (pa_cons (pv 4) pa_nil)))) pa_nil))))
      (pss_one (ps_ret (pe_lc (own := [("room", 4), ("text", 5)]) (g := gTup K 2 (gCons (gName 4) (gCons (gName 5) gNil))) rfl nd (pi_list (pv 3)) (blkOk_by (N := s_double_rounds_N) (sc := defScope s_double_rounds) (by decide +kernel))
          (fun _ _ _ _ _ => pg_tup rfl (pgs_cons (pg_name (i := 4) nd rfl (.inl rfl)) (pgs_cons (pg_name (i := 5) nd rfl (.inl rfl)) pgs_nil))) (fun _ _ _ _ _ => pts_one (pt_cmp (pc_notN (pv 5))))
          (fun _ _ _ _ _ => pe_tup (pa_cons (pv 4) (pa_cons (pv 5) pa_nil)))))))), ?_⟩
    refine ⟨_, rfl, _, m, t, fa, la, sa, rfl, M, ok, fun H1 b s1 nb hI => ?_⟩
    obtain ⟨t1, t2, t3⟩ := trim_steps ok
    refine ⟨_, rfl, _, m, t, fa, la, sa, rfl, M.mono s1, ok, fun H2 v2 t' fa' la' sa' s2 M2 => ?_⟩
    refine ⟨_, trimM m, t', fa', la', sa', rfl, M2, t1, t2, t3, fun H3 tb s3 ntb hTab => ?_⟩
    have s03 := s1.trans (s2.trans s3)
    have hI3 := s3 _ _ (s2 _ _ hI)
    have rel3 : RelT T H H3 := .of s03
    refine ⟨_, rfl, b, rfl, ⟨_, .inl (.inl hI3)⟩, fun D hD => ?_⟩
    refine lc_map (R := RRs) (grow_rel T) (fun _ _ _ _ e h => h.mono e) (lr_nv H3 (usefulL m)) (fun r => (r, dW m r)) (small1000 (by have := useful_few ok; omega)) hD (fun H' sm => .inl (.inl (sm.lst hI3))) (fun i x y H4 Ka ey ry sm ka => ?_) (fun H4 acc sm hA lr' => ?_) (mono_name 4)
    · subst ry
      have hy := List.mem_of_getElem? ey
      have rel4 := rel3.trans sm
      refine ⟨rfl, ?_⟩
      refine ⟨_, rfl, _, rfl, _, rfl, _, m, t, fa, la, sa, rfl, M.rel rel4, ok, fun H5 sg5 s5 _ hs5 => ?_⟩
      have rel5 := rel4.trans (.of s5)
      refine ⟨_, rfl, m, tb, sg5, y, rfl, ok, useful_12 ok y hy, rel5.2.2 hT, hTab.rel (sm.trans (.of s5)), hs5, fun H6 rel6 bl => ?_⟩
      refine ⟨by show 2 ≤ sizeLine; decide, fun p hp => ?_⟩
      exact ka _ _ ⟨p, rfl, upd_same, bl⟩ ((RelT.of s5).trans (rel6.trans (.of (same_new hp))))
    have rel4 := rel3.trans sm
    refine ⟨_, rfl, D, rfl, ⟨_, .inl (.inl hA)⟩, fun D2 hD2 => ?_⟩
    refine lc_fm (R := RDb) grow_same (fun _ _ _ _ e h => h.mono e) lr' (fun e => e.2.map fun w => (e.1, w)) (small1000 (by rw [List.length_map]; have := useful_few ok; omega)) hD2 (fun H' sm2 => .inl (.inl (sm2 _ _ hA))) (fun i x y H5 Ka Kb ey ry sm2 ka kb => ?_) (fun H5 acc2 sm2 hA2 lr2 => ?_)
    · obtain ⟨a, rfl, ha, bl⟩ := ry
      obtain ⟨r, res⟩ := y
      have ha5 : H5 a = some (.tup [nv r, resV res]) := sm2 _ _ ha
      refine ⟨a, _, rfl, .inl (.inl ha5), rfl, _, _, rfl, _, _, rfl, rfl, rfl, ?_⟩
      cases res with
      | none => exact ⟨_, rfl, false, rfl, iteF (kb _ rfl (Same.refl _))⟩
      | some w =>
        refine ⟨_, rfl, true, rfl, iteT ?_⟩
        refine ⟨_, rfl, _, rfl, by show 2 ≤ sizeLine; decide, fun p hp => ?_⟩
        exact ka _ (r, w) _ rfl ⟨p, rfl, upd_same, bl w rfl⟩ (same_new hp)
    · have rel5 := rel4.trans (.of sm2)
      refine q H5 D2 rel5 (rel4.2.1 _ hD2) ⟨acc2, hA2, ?_⟩
      rw [List.filterMap_map] at lr2
      exact lr2
end
end K44

set_option Elab.async false
set_option linter.all false
set_option maxRecDepth 100000
set_option maxHeartbeats 4000000
namespace K44
open PySem PySem.Spec PyProof.Rows L2 NdefX LamX
section
variable {P : Program} {w : World} {K : PySem.W.Frag} {mg : Str → Option Value} {base : Heap} {T : List NTab}
noncomputable def prF (m : Mach) (r o : Nat) : Option (Nat × Nat × List Nat) := if r = o then none else (lW m r o).map fun w => (r, o, w)
noncomputable def prR (m : Mach) (r : Nat) : List (Nat × Nat × List Nat) := (usefulL m).filterMap (prF m r)
theorem pairs_eq (m : Mach) : pairs m = (usefulL m).flatMap (prR m) := rfl
def sp_led_rounds (T : List NTab) : Sp := fun vs H Q _ => ∃ (v : V) (m : Mach) (t fa la sa : Addr), vs = [v] ∧ MacAt H v m t fa la sa ∧ MOk m ∧ TabsN T H ∧ ∀ H' p, RelT T H H' → H p = none → PrsAt H' p (pairs m) → Q (.ref p) H'
theorem cl_led_rounds (F : Has K mg "led_rounds" s_led_rounds) (CU : Cal P w K mg base 6 "useful" ["machine"] sp_useful) (CT : Cal P w K mg base 7 "trimmed" ["machine"] sp_trimmed) (CB : Cal P w K mg base 1 "by_signs" ["machine"] sp_by_signs)
    (CS : Cal P w K mg base 1 "signs_of" ["machine"] sp_signs_of) (CL : Cal P w K mg base 3 "led_text" ["table", "signs", "room", "other"] (sp_led_text T)) : Cal P w K mg base 8 "led_rounds" ["machine"] (sp_led_rounds T) := by
  refine cal_mk F s_led_rounds_sc (fun _ _ _ _ _ _ us hl => match us, hl with | [_], _ => rfl) (fun vs H Q E h => ?_) (fun f cdv A outer s H vs Q E hr h => ?_)
  · obtain ⟨_, _, _, _, _, _, rfl, _⟩ := h
    rfl
  · obtain ⟨v, m, t, fa, la, sa, rfl, M, ok, hT, q⟩ := h
    have nd := s_led_rounds_sc.nd
    have ev := M.v
    subst ev
    refine ⟨_, pss_cons (ps_set (i := 1) nd rfl (.inl rfl) (pe_cal (CU.mono (k := 7) (by decide)) hr (pa_cons (pv 0) pa_nil)))
      (pss_cons (ps_set (i := 2) nd rfl (.inl rfl) (pe_cal (CB.mono (k := 7) (by decide)) hr (pa_cons (pe_cal CT hr (pa_cons (pv 0) pa_nil)) pa_nil)))
      (pss_cons (ps_set (i := 3) nd rfl (.inl rfl) (pe_cal (CS.mono (k := 7) (by decide)) hr (pa_cons (pv 0) pa_nil)))
      (pss_cons (ps_set (i := 4) nd rfl (.inl rfl) (pe_lst pa_nil))
      (pss_cons (ps_for PassesOwn.never rfl (pi_list (pv 1)) (pg_name (i := 5) nd rfl (.inl rfl))
        (pss_one (ps_for PassesOwn.never rfl (pi_list (pv 1)) (pg_name (i := 6) nd rfl (.inl rfl))
          (pss_cons (ps_set (i := 7) nd rfl (.inl rfl) pe_non)
          (pss_cons (ps_if (pt_cmpR op_ne (pv 5) (pv 6) (nomark _)) (pss_one (ps_set (i := 7) nd rfl (.inl rfl) (pe_cal (CL.mono (k := 7) (by decide)) hr (pa_cons (pv 2) (pa_cons (pv 3) (pa_cons (pv 5) (pa_cons (pv 6) pa_nil))))))) pss_nil)
          (pss_one (ps_if (pt_cmp (pc_notN (pv 7))) (pss_one (ps_expr (pe_bm PySem.F.plainAttrs_list PySem.F.slot_list_append PySem.F.type_list_append mt_append (pv 4) (pa_cons (pe_tup (pa_cons (pv 5) (pa_cons (pv 6) (pa_cons (pv 7) pa_nil)))) pa_nil)))) pss_nil)))))))
      (pss_one (ps_ret (pv 4))))))), ?_⟩
    refine ⟨_, rfl, _, m, t, fa, la, sa, rfl, M, ok, fun H1 b s1 nb hI => ?_⟩
    obtain ⟨t1, t2, t3⟩ := trim_steps ok
    refine ⟨_, rfl, _, m, t, fa, la, sa, rfl, M.mono s1, ok, fun H2 v2 t' fa' la' sa' s2 M2 => ?_⟩
    refine ⟨_, trimM m, t', fa', la', sa', rfl, M2, t1, t2, t3, fun H3 tb s3 ntb hTab => ?_⟩
    have s03 := s1.trans (s2.trans s3)
    refine ⟨_, rfl, _, m, t, fa, la, sa, rfl, M.mono s03, ok, fun H4 sg4 s4 _ hs4 => ?_⟩
    have s04 := s03.trans s4
    have hI4 : IntsAt H4 b (usefulL m) := s4 _ _ (s3 _ _ (s2 _ _ hI))
    have hTab4 := TabAt.same _ _ s4 hTab
    have rel4 : RelT T H H4 := .of s04
    refine ⟨Nat.zero_le _, fun D hD => ?_⟩
    have r5 : RelT T H4 (upd H4 D (.lst [])) := .of (same_new hD)
    have e5 : (upd H4 D (.lst [])) D = some (.lst []) := upd_same
    generalize upd H4 D (.lst []) = H5 at r5 e5 ⊢
    have U12 := useful_few ok
    refine ⟨_, rfl, b, rfl, ⟨_, .inl (.inl (r5.lst hI4))⟩, ?_⟩
    refine for_it walk_list (fun i σ H' => ∃ y5 y6 y7, σ = [some (.ref t), some (.ref b), some (.ref tb), some (.ref sg4), some (.ref D), y5, y6, y7] ∧ RelT T H4 H' ∧ PrsAt H' D (((usefulL m).take i).flatMap (prR m)) ∧ (((usefulL m).take i).flatMap (prR m)).length ≤ i * 12)
      ⟨_, _, _, rfl, r5, ⟨[], e5, LR.nil⟩, Nat.zero_le _⟩ (fun i σ H' _ ⟨_, _, _, _, r, _⟩ => .inl (.inl (r.lst hI4))) (fun i x σ H6 H6' hi ⟨y5, y6, y7, e, r6, hL, len⟩ y => ?_) (fun σ H6 ⟨y5, y6, y7, e, r6, hL, len⟩ => ?_)
    · subst e
      obtain ⟨rfl, ex⟩ := y
      obtain ⟨r, er, rfl⟩ := (lr_nv H6' (usefulL m)).at ex
      have br := useful_12 ok r (List.mem_of_getElem? er)
      have tk : ((usefulL m).take (i + 1)).flatMap (prR m) = ((usefulL m).take i).flatMap (prR m) ++ prR m r := by
        rw [List.take_add_one, er, List.flatMap_append]
        simp
      rw [List.length_map] at hi
      refine ⟨_, rfl, b, rfl, ⟨_, .inl (.inl (r6.lst hI4))⟩, ?_⟩
      refine for_it walk_list (fun j σ H' => ∃ y6 y7, σ = [some (.ref t), some (.ref b), some (.ref tb), some (.ref sg4), some (.ref D), some (nv r), y6, y7] ∧ RelT T H4 H' ∧ PrsAt H' D (((usefulL m).take i).flatMap (prR m) ++ ((usefulL m).take j).filterMap (prF m r)))
        ⟨_, _, rfl, r6, by rw [List.take_zero, List.filterMap_nil, List.append_nil]; exact hL⟩ (fun j σ H' _ ⟨_, _, _, r, _⟩ => .inl (.inl (r.lst hI4))) (fun j x σ H7 H7' hj ⟨y6, y7, e, r7, hL7⟩ y => ?_) (fun σ H7 ⟨y6, y7, e, r7, hL7⟩ => ?_)
      · subst e
        obtain ⟨rfl, ex⟩ := y
        obtain ⟨o, eo, rfl⟩ := (lr_nv H7' (usefulL m)).at ex
        have bo := useful_12 ok o (List.mem_of_getElem? eo)
        rw [List.length_map] at hj
        have tkj : ((usefulL m).take (j + 1)).filterMap (prF m r) = ((usefulL m).take j).filterMap (prF m r) ++ (prF m r o).toList := by
          rw [List.take_add_one, eo, List.filterMap_append]
          congr 1
        obtain ⟨xsD, hxD, lrD⟩ := hL7
        by_cases ne : r = o
        · have e0 : prF m r o = none := if_pos ne
          refine ⟨_, rfl, _, rfl, rfl, false, ?_, iteF ?_⟩
          · rw [ne]
            exact congrArg _ (by rw [decide_eq_true rfl]; rfl)
          refine ⟨_, rfl, false, rfl, iteF ?_⟩
          refine ⟨_, _, rfl, r7, ?_⟩
          rw [tkj, e0]
          show PrsAt H7' D (_ ++ (_ ++ []))
          rw [List.append_nil]
          exact ⟨xsD, hxD, lrD⟩
        · have e0 : prF m r o = (lW m r o).map fun w => (r, o, w) := if_neg ne
          refine ⟨_, rfl, _, rfl, rfl, true, ?_, iteT ?_⟩
          · have h3 : ¬ (nv r : V) = nv o := fun z => ne (by
              have z2 : (r : Int) = o := V.int.inj z
              omega)
            simp [h3]
          refine ⟨_, rfl, _, rfl, _, rfl, _, rfl, m, tb, sg4, r, o, rfl, ok, br, bo, (rel4.trans r7).2.2 hT, hTab4.rel r7, r7.lst hs4, fun H8 r8 bl => ?_⟩
          have r48 := r7.trans r8
          have hxD8 := r8.lst hxD
          have lrD8 : LR RPr H8 xsD _ := lrD.mono fun x y k => k.mono fun b ys h => r8.tup h
          cases hw : lW m r o with
          | none =>
            refine ⟨_, rfl, false, rfl, iteF ?_⟩
            refine ⟨_, _, rfl, r48, ?_⟩
            rw [tkj, e0, hw]
            show PrsAt H8 D (_ ++ (_ ++ []))
            rw [List.append_nil]
            exact ⟨xsD, hxD8, lrD8⟩
          | some wd0 =>
            refine ⟨_, rfl, true, rfl, iteT ?_⟩
            refine ⟨_, rfl, .inl ⟨rfl, _, .inl (.inl hxD8)⟩, _, rfl, _, rfl, _, rfl, by show 3 ≤ sizeLine; decide, fun p hp => ?_⟩
            have s9 : Same H8 (upd H8 p (.tup [nv r, nv o, resV (some wd0)])) := same_new hp
            have e9 : (upd H8 p (.tup [nv r, nv o, resV (some wd0)])) p = some (.tup [nv r, nv o, .str (txt wd0)]) := upd_same
            change tNil _ (upd H8 p (.tup [nv r, nv o, resV (some wd0)])) _
            generalize upd H8 p (.tup [nv r, nv o, resV (some wd0)]) = H9 at s9 e9 ⊢
            have r49 := r48.trans (.of s9)
            have hxD9 := s9 _ _ hxD8
            have lx : xsD.length ≤ 144 := by
              rw [lrD.1, List.length_append]
              have h1 : (((usefulL m).take j).filterMap (prF m r)).length ≤ 12 := Nat.le_trans (List.length_filterMap_le _ _) (by rw [List.length_take]; omega)
              have h2 : i * 12 ≤ 11 * 12 := Nat.mul_le_mul_right _ (by omega)
              omega
            refine ⟨D, xsD, .ref p, rfl, rfl, hxD9, Nat.lt_of_le_of_lt lx (by decide), ?_⟩
            have tp : Tups H9 (upd H9 D (.lst (xsD ++ [.ref p]))) := tups_upd (not_tup_lst hxD9)
            refine ⟨_, _, rfl, (grow_rel T).put _ _ _ _ _ r49 hD hxD9, xsD ++ [.ref p], upd_same, ?_⟩
            rw [tkj, e0, hw, ← List.append_assoc]
            exact LR.snoc (lrD8.mono fun x y k => (k.mono (Same.tups s9)).mono tp) ⟨p, rfl, tp _ _ e9, bl wd0 hw⟩
      · subst e
        refine ⟨_, _, _, rfl, r7, ?_, ?_⟩
        · rw [tk]
          rw [List.length_map, List.take_length] at hL7
          exact hL7
        · rw [tk, List.length_append]
          have h1 : (prR m r).length ≤ 12 := Nat.le_trans (List.length_filterMap_le _ _) U12
          omega
    · subst e
      rw [List.length_map, List.take_length] at hL
      exact ⟨_, rfl, q H6 D (rel4.trans r6) (rel4.2.1 _ hD) hL⟩
end
end K44

set_option Elab.async false
set_option linter.all false
set_option maxRecDepth 100000
set_option maxHeartbeats 4000000
namespace K44
open PySem PySem.Spec PyProof.Rows L2
/-! ### a text times a number -/
theorem fold_app : ∀ (l : List (Array Nat)) (acc : Array Nat), (l.foldl (· ++ ·) acc).toList = acc.toList ++ (l.map (·.toList)).flatten
  | [], acc => by simp
  | x :: l, acc => by
    rw [List.foldl_cons, fold_app l]
    simp
theorem rep_one (w : List Nat) : rep 1 w = w := by
  unfold rep
  simp
theorem rep_nil (k : Nat) : rep k [] = [] := by
  unfold rep
  induction k with
  | zero => rfl
  | succ k ih => rw [List.replicate_succ, List.flatten_cons, ih]; rfl
theorem rep_len (k : Nat) (w : List Nat) : (rep k w).length = w.length * k := by
  induction k with
  | zero => rfl
  | succ k ih =>
    rw [rep_succ, List.length_append, ih]
    exact (Nat.mul_succ _ _).symm
theorem rep_mem {k : Nat} {w : List Nat} {c : Nat} (h : c ∈ rep k w) : c ∈ w := by
  unfold rep at h
  obtain ⟨l, h1, h2⟩ := List.mem_flatten.mp h
  rw [(List.mem_replicate.mp h1).2] at h2
  exact h2
theorem mul_txt (w : List Nat) {k : Nat} (h : 1 ≤ k) : PySem.Txt.mul (txt w) (k : Int) = txt (rep k w) := by
  unfold PySem.Txt.mul
  rw [if_neg (by omega)]
  split
  · rename_i e
    rw [Bool.or_eq_true] at e
    rcases e with e | e
    · have e : (k : Int) = 1 := beq_iff_eq.mp e
      have e2 : k = 1 := by omega
      rw [e2, rep_one]
    · have e : (txt w).length = 0 := beq_iff_eq.mp e
      rw [txt_len] at e
      have e2 : w = [] := List.eq_nil_of_length_eq_zero e
      rw [e2, rep_nil]
  · unfold txt
    congr 1
    apply Array.ext'
    rw [fold_app, Int.toNat_natCast]
    unfold rep
    simp
theorem mul_ok {w : List Nat} {k : Nat} (h1 : 1 ≤ k) (h2 : k ≤ 12) (hl : w.length * k ≤ 400) : PySem.MulOk (txt w) (k : Int) := by
  refine ⟨?_, fun _ _ => ?_, fun _ _ => ?_⟩
  · rw [Bool.or_eq_false_iff, decide_eq_false_iff_not, decide_eq_false_iff_not]
    omega
  · rw [txt_len]
    have hw : w.length ≤ 400 := Nat.le_trans (Nat.le_mul_of_pos_right _ h1) hl
    have hk : k = 1 ∨ k = 2 ∨ k = 3 ∨ k = 4 ∨ k = 5 ∨ k = 6 ∨ k = 7 ∨ k = 8 ∨ k = 9 ∨ k = 10 ∨ k = 11 ∨ k = 12 := by omega
    rcases hk with e | e | e | e | e | e | e | e | e | e | e | e <;> subst e <;> omega
  · rw [txt_len, Int.toNat_natCast]
    unfold Builtin.Str.tooLong
    rw [decide_eq_false_iff_not]
    exact Nat.not_lt_of_le (Nat.le_trans hl (by decide))
section
variable {X : Cx}
theorem op_mulS : OpR X (binaryOp .Mult) (fun x y H Q => ∃ (w : List Nat) (k : Nat), x = .str (txt w) ∧ y = nv k ∧ 1 ≤ k ∧ k ≤ 12 ∧ w.length * k ≤ 400 ∧ Q (.str (txt (rep k w))) H) := by
  intro pins s σ H x y v u Q I rx ry h
  obtain ⟨w, k, rfl, rfl, h1, h2, hl, q⟩ := h
  obtain ⟨t, rfl⟩ := rx
  obtain ⟨t', rfl⟩ := ry
  refine PySem.SB.mul (mul_ok h1 h2 hl) fun t2 tk => ⟨.str (txt (rep k w)), H, I.tok _, ?_, q⟩
  rw [mul_txt w h1]
  exact ⟨_, rfl⟩
end
theorem two_pow_succ (k : Nat) : (2 : Int) ^ k * 2 = 2 ^ (k + 1) := (Int.pow_succ 2 k).symm
theorem dbl_facts {m : Mach} (ok : MOk m) {e : Nat × List Nat} (h : e ∈ doubles m) : e.1 < m.many ∧ (∀ c ∈ e.2, 97 ≤ c ∧ c ≤ 122) ∧ RW (gD m) (e.1, e.1, 0) e.2 (e.1, e.1, 1) := by
  obtain ⟨h1, h2⟩ := mem_doubles.mp h
  have h3 := (firstW_reach h2).2
  refine ⟨(mem_useful.mp h1).1, fun c hc => ?_, h3⟩
  have h4 := RW.signs (ss := signsL m) (gD_signs ok) h3 c hc
  exact (mem_signs.mp h4).1
theorem prs_facts {m : Mach} (ok : MOk m) {e : Nat × Nat × List Nat} (h : e ∈ pairs m) : e.1 < m.many ∧ e.2.1 < m.many ∧ e.1 ≠ e.2.1 ∧ (∀ c ∈ e.2.2, 97 ≤ c ∧ c ≤ 122) ∧ RW (gL m) (e.1, e.1, e.2.1) e.2.2 (e.1, e.2.1, e.2.1) := by
  obtain ⟨h1, h2, h3, h4⟩ := mem_pairs.mp h
  have h5 := (firstW_reach h4).2
  refine ⟨(mem_useful.mp h1).1, (mem_useful.mp h2).1, h3, fun c hc => ?_, h5⟩
  have h6 := RW.signs (ss := signsL m) (gL_signs ok) h5 c hc
  exact (mem_signs.mp h6).1
section
variable {P : Program} {w : World} {K : PySem.W.Frag} {mg : Str → Option Value} {base : Heap}
def sp_grows : Sp := fun vs H Q _ => ∃ (v : V) (m : Mach) (t fa la sa pd pp : Addr), vs = [v, .ref pd, .ref pp] ∧ MacAt H v m t fa la sa ∧ MOk m ∧ DblAt H pd (doubles m) ∧ PrsAt H pp (pairs m) ∧ ∀ H', Same H H' → Q (.bl true) H'
theorem cl_grows (T : Txt mg) (F : Has K mg "_law_grows" s_law_grows) (CW : Cal P w K mg base 6 "ways" ["machine", "text", "first", "last"] sp_ways) : Cal P w K mg base 7 "_law_grows" ["_law_machine_here", "_law_doubles", "_law_pairs"] sp_grows := by
  refine cal_mk F s_law_grows_sc (fun _ _ _ _ _ _ us hl => match us, hl with | [_, _, _], _ => rfl) (fun vs H Q E h => ?_) (fun f cdv A outer s H vs Q E hr h => ?_)
  · obtain ⟨_, _, _, _, _, _, _, _, rfl, _⟩ := h
    rfl
  · obtain ⟨v, m, t, fa, la, sa, pd, pp, rfl, M, ok, ⟨xd, hxd, lrd⟩, ⟨xp, hxp, lrp⟩, q⟩ := h
    have nd := s_law_grows_sc.nd
    have ev := M.v
    subst ev
    refine ⟨_, pss_cons (ps_set (i := 3) nd rfl (.inl rfl) pe_int)
      (pss_cons (ps_for PassesOwn.never rfl (pi_range2 (by rfl) T.range (pa_cons pe_int (pa_cons pe_int pa_nil))) (pg_name (i := 4) nd rfl (.inl rfl))
        (pss_cons (ps_set (i := 3) nd rfl (.inl rfl) (pe_op op_mul (pv 3) pe_int))
        (pss_cons (ps_for PassesOwn.never rfl (pi_list (pv 1)) (pg_tup rfl (pgs_cons (pg_name (i := 5) nd rfl (.inl rfl)) (pgs_cons (pg_name (i := 6) nd rfl (.inl rfl)) pgs_nil)))
          (pss_one (ps_if (PW.pt (pw_and (pt_cmpR op_le (pe_op op_mul (pe_callB call_len (by rfl) T.len (by decide +kernel) (pa_cons (pv 6) pa_nil)) (pv 4)) pe_int (nomark _))
            (pw_and1 (pt_cmpR op_lt (pe_cal CW hr (pa_cons (pv 0) (pa_cons (pe_op op_mulS (pv 6) (pv 4)) (pa_cons (pv 5) (pa_cons (pv 5) pa_nil))))) (pv 3) (nomark _))))) (pss_one ps_never) pss_nil)))
        (pss_one (ps_for PassesOwn.never rfl (pi_list (pv 2)) (pg_tup rfl (pgs_cons (pg_name (i := 5) nd rfl (.inl rfl)) (pgs_cons (pg_name (i := 7) nd rfl (.inl rfl)) (pgs_cons (pg_name (i := 6) nd rfl (.inl rfl)) pgs_nil))))
          (pss_one (ps_if (PW.pt (pw_and (pt_cmpR op_le (pe_op op_mul (pe_callB call_len (by rfl) T.len (by decide +kernel) (pa_cons (pv 6) pa_nil)) (pv 4)) pe_int (nomark _))
            (pw_and1 (pt_cmpR op_lt (pe_cal CW hr (pa_cons (pv 0) (pa_cons (pe_op op_mulS (pv 6) (pv 4)) (pa_cons (pv 5) (pa_cons (pv 7) pa_nil))))) (pv 4) (nomark _))))) (pss_one ps_never) pss_nil)))))))
      (pss_one (ps_ret pe_bl))), ?_⟩
    refine ⟨1, 13, rfl, by decide, ?_⟩
    refine for_it walk_range (fun i σ H' => ∃ y4 y5 y6 y7, σ = [some (.ref t), some (.ref pd), some (.ref pp), some (.int (2 ^ i)), y4, y5, y6, y7] ∧ Same H H') ⟨_, _, _, _, rfl, Same.refl _⟩ (fun _ _ _ _ _ => trivial) (fun i x σ H1 H1' hi ⟨y4, y5, y6, y7, e, s1⟩ y => ?_) (fun σ H1 ⟨y4, y5, y6, y7, e, s1⟩ => ?_)
    · subst e
      obtain ⟨rfl, rfl⟩ := y
      have hi : i < 12 := hi
      have ei : V.int (1 + (i : Int)) = nv (i + 1) := by
        unfold nv
        rw [show (1 + (i : Int)) = ((i + 1 : Nat) : Int) by omega]
      show gName 4 (V.int (1 + (i : Int))) _ _ _
      rw [ei]
      refine ⟨_, rfl, _, 2, rfl, rfl, .inr ⟨by decide, by decide⟩, ?_⟩
      have kk : 1 ≤ i + 1 ∧ i + 1 ≤ 12 := by omega
      refine ⟨_, rfl, pd, rfl, ⟨xd, .inl (.inl (s1 _ _ hxd))⟩, ?_⟩
      refine for_it walk_list (fun j σ H' => ∃ y5 y6 y7, σ = [some (.ref t), some (.ref pd), some (.ref pp), some (.int (2 ^ (i + 1))), some (nv (i + 1)), y5, y6, y7] ∧ Same H H') ⟨_, _, _, by rw [← two_pow_succ]; rfl, s1⟩ (fun j σ H' _ ⟨_, _, _, _, s⟩ => .inl (.inl (s _ _ hxd))) (fun j x σ H2 H2' hj ⟨y5, y6, y7, e, s2⟩ y => ?_) (fun σ H2 ⟨y5, y6, y7, e, s2⟩ => ?_)
      · subst e
        obtain ⟨rfl, ex⟩ := y
        obtain ⟨d, ed, a, rfl, ha, len⟩ := lrd.at ex
        obtain ⟨f1, f2, f3⟩ := dbl_facts ok (List.mem_of_getElem? ed)
        refine ⟨a, _, rfl, .inl (.inl (s2 _ _ ha)), rfl, _, _, rfl, _, _, rfl, rfl, ?_⟩
        refine ⟨_, rfl, _, d.2.length, rfl, ⟨by rw [txt_len]; exact Nat.le_trans len (by decide), (txt_len _).symm⟩, _, rfl, d.2.length, (i + 1 : Nat), rfl, rfl, .inr ⟨by omega, by omega⟩, _, 400, rfl, rfl, _, rfl, ite2 (fun e => ?_) (fun e => ?_)⟩
        · have e1 : (d.2.length : Int) * ((i + 1 : Nat) : Int) ≤ 400 := of_decide_eq_true e
          have e2 : d.2.length * (i + 1) ≤ 400 := by
            have e3 : ((d.2.length * (i + 1) : Nat) : Int) = (d.2.length : Int) * ((i + 1 : Nat) : Int) := by rw [Int.natCast_mul]
            omega
          refine ⟨_, rfl, _, rfl, _, rfl, d.2, i + 1, rfl, rfl, kk.1, kk.2, e2, _, rfl, _, rfl, _, m, t, fa, la, sa, rep (i + 1) d.2, d.1, d.1, rfl, M.mono s2, ok, fun c hc => f2 c (rep_mem hc), by rw [rep_len]; exact e2, f1, f1, fun H3 s3 => ?_⟩
          refine ⟨_, rfl, _, _, rfl, rfl, false, ?_, iteF ?_⟩
          · have g := grow_double f3 (i + 1)
            exact congrArg V.bl (decide_eq_false (Int.not_lt.mpr g))
          · exact ⟨_, _, _, rfl, s2.trans s3⟩
        · exact iteF ⟨_, _, _, rfl, s2⟩
      · subst e
        refine ⟨_, rfl, pp, rfl, ⟨xp, .inl (.inl (s2 _ _ hxp))⟩, ?_⟩
        refine for_it walk_list (fun j σ H' => ∃ y5 y6 y7, σ = [some (.ref t), some (.ref pd), some (.ref pp), some (.int (2 ^ (i + 1))), some (nv (i + 1)), y5, y6, y7] ∧ Same H H') ⟨_, _, _, rfl, s2⟩ (fun j σ H' _ ⟨_, _, _, _, s⟩ => .inl (.inl (s _ _ hxp))) (fun j x σ H3 H3' hj ⟨y5, y6, y7, e, s3⟩ y => ?_) (fun σ H3 ⟨y5, y6, y7, e, s3⟩ => ?_)
        · subst e
          obtain ⟨rfl, ex⟩ := y
          obtain ⟨d, ed, a, rfl, ha, len⟩ := lrp.at ex
          obtain ⟨f1, f1', ne, f2, f3⟩ := prs_facts ok (List.mem_of_getElem? ed)
          refine ⟨a, _, rfl, .inl (.inl (s3 _ _ ha)), rfl, _, _, rfl, _, _, rfl, _, _, rfl, rfl, ?_⟩
          refine ⟨_, rfl, _, d.2.2.length, rfl, ⟨by rw [txt_len]; exact Nat.le_trans len (by decide), (txt_len _).symm⟩, _, rfl, d.2.2.length, (i + 1 : Nat), rfl, rfl, .inr ⟨by omega, by omega⟩, _, 400, rfl, rfl, _, rfl, ite2 (fun e => ?_) (fun e => ?_)⟩
          · have e1 : (d.2.2.length : Int) * ((i + 1 : Nat) : Int) ≤ 400 := of_decide_eq_true e
            have e2 : d.2.2.length * (i + 1) ≤ 400 := by
              have e3 : ((d.2.2.length * (i + 1) : Nat) : Int) = (d.2.2.length : Int) * ((i + 1 : Nat) : Int) := by rw [Int.natCast_mul]
              omega
            refine ⟨_, rfl, _, rfl, _, rfl, d.2.2, i + 1, rfl, rfl, kk.1, kk.2, e2, _, rfl, _, rfl, _, m, t, fa, la, sa, rep (i + 1) d.2.2, d.1, d.2.1, rfl, M.mono s3, ok, fun c hc => f2 c (rep_mem hc), by rw [rep_len]; exact e2, f1, f1', fun H4 s4 => ?_⟩
            refine ⟨_, rfl, _, _, rfl, rfl, false, ?_, iteF ?_⟩
            · have g := (grow_led ne f3 (i + 1)).2
              exact congrArg V.bl (decide_eq_false (Int.not_lt.mpr g))
            · exact ⟨_, _, _, rfl, s3.trans s4⟩
          · exact iteF ⟨_, _, _, rfl, s3⟩
        · subst e
          exact ⟨_, _, _, _, rfl, s3⟩
    · subst e
      exact q H1 s1
end
end K44

set_option Elab.async false
set_option linter.all false
set_option maxRecDepth 100000
set_option maxHeartbeats 4000000
namespace K44
open PySem PySem.Spec PyProof.Rows L2
/-! ### the hand -/
def HandAt (H : Hp) (h : Addr) : Prop := ∃ a b : Int, H h = some (.lst [.int a, .int b]) ∧ 0 ≤ b ∧ b < 2147483647
/-- all but the hand at h stays -/
def RelH (h : Addr) (H H' : Hp) : Prop := (∀ b o, b ≠ h → H b = some o → H' b = some o) ∧ (∀ b, H' b = none → H b = none) ∧ (HandAt H h → HandAt H' h)
theorem RelH.refl (h : Addr) (H : Hp) : RelH h H H := ⟨fun _ _ _ e => e, fun _ e => e, id⟩
theorem RelH.trans {h : Addr} {H H1 H2 : Hp} (a : RelH h H H1) (b : RelH h H1 H2) : RelH h H H2 := ⟨fun c o n e => b.1 c o n (a.1 c o n e), fun c e => a.2.1 c (b.2.1 c e), fun e => b.2.2 (a.2.2 e)⟩
theorem RelH.of {h : Addr} {H H' : Hp} (s : Same H H') : RelH h H H' := ⟨fun b o _ e => s b o e, fun b e => Same.free s e, fun ⟨a, b, e, r⟩ => ⟨a, b, s _ _ e, r⟩⟩
theorem upd_none' {H : Hp} {a b : Addr} {o : HO} (e : upd H a o b = none) : H b = none := by
  unfold upd at e
  split at e
  · cases e
  · exact e
theorem RelH.put {h : Addr} {H : Hp} {a b : Int} (h0 : 0 ≤ b) (h1 : b < 2147483647) : RelH h H (upd H h (.lst [.int a, .int b])) :=
  ⟨fun c o n e => by rw [upd_ne n]; exact e, fun c e => upd_none' e, fun _ => ⟨a, b, upd_same, h0, h1⟩⟩
/-- a list of one's own is changed meanwhile -/
theorem RelH.lst {h : Addr} {H H' : Hp} {D : Addr} {xs : List V} {o : HO} (r : RelH h H H') (hD : H D = none) (hh : HandAt H h) (e : H' D = some (.lst xs)) : RelH h H (upd H' D o) := by
  obtain ⟨a, b, ha, _⟩ := id hh
  have ne : h ≠ D := fun z => by rw [z, hD] at ha; cases ha
  refine ⟨fun c oc n ec => ?_, fun c ec => r.2.1 c (upd_none' ec), fun _ => ?_⟩
  · rw [upd_ne (fun z => by rw [z, hD] at ec; cases ec)]
    exact r.1 c oc n ec
  · obtain ⟨a', b', e', q⟩ := r.2.2 hh
    exact ⟨a', b', by rw [upd_ne ne]; exact e', q⟩
section
variable {P : Program} {w : World} {K : PySem.W.Frag} {mg : Str → Option Value} {base : Heap}
def sp_draw : Sp := fun vs H Q _ => ∃ (h : Addr) (n : Nat), vs = [.ref h, nv n] ∧ 1 ≤ n ∧ n ≤ 1000 ∧ HandAt H h ∧ ∀ H' (r : Nat), r < n → RelH h H H' → Q (nv r) H'
theorem cl_draw (F : Has K mg "_law_draw" s_law_draw) : Cal P w K mg base 1 "_law_draw" ["_law_hand_here", "_law_size"] sp_draw := by
  refine cal_mk F s_law_draw_sc (fun _ _ _ _ _ _ us hl => match us, hl with | [_, _], _ => rfl) (fun vs H Q E h => ?_) (fun f cdv A outer s H vs Q E hr h => ?_)
  · obtain ⟨_, _, rfl, _⟩ := h
    rfl
  · obtain ⟨h, n, rfl, n1, n2, ⟨a, b, hh, b0, b1⟩, q⟩ := h
    have nd := s_law_draw_sc.nd
    refine ⟨_, pss_cons (ps_if (pt_cmpR op_gt (pe_ix ix_list (pv 0) pe_int (fun _ _ => rfl)) pe_int (nomark _))
        (pss_cons (ps_set (i := 2) nd rfl (.inl rfl) (pe_op op_mod (pe_ix ix_list (pv 0) pe_int (fun _ _ => rfl)) (pv 1)))
        (pss_cons (ps_asg (pe_op op_fdiv (pe_ix ix_list (pv 0) pe_int (fun _ _ => rfl)) (pv 1)) (pg_sub (pv 0) pe_int set_list))
        (pss_one (ps_ret (pv 2))))) pss_nil)
      (pss_cons (ps_asg (pe_op op_mod (pe_op op_add (pe_op op_mul (pe_ix ix_list (pv 0) pe_int (fun _ _ => rfl)) pe_int) pe_int) pe_int) (pg_sub (pv 0) pe_int set_list))
      (pss_one (ps_ret (pe_op op_mod (pe_op op_fdiv (pe_op op_mod (pe_op op_mul (pe_ix ix_list (pv 0) pe_int (fun _ _ => rfl)) (pe_ix ix_list (pv 0) pe_int (fun _ _ => rfl))) pe_int) pe_int) (pv 1))))), ?_⟩
    have np : (0 : Int) < (n : Int) := by omega
    refine ⟨_, rfl, h, _, 0, .int a, rfl, rfl, .inl (.inl hh), atI_nat (j := 0) rfl, _, _, rfl, rfl, _, rfl, ite2 (fun e => ?_) (fun e => ?_)⟩
    · refine ⟨_, rfl, h, _, 0, .int a, rfl, rfl, .inl (.inl hh), atI_nat (j := 0) rfl, _, rfl, a, n, rfl, rfl, np, ?_⟩
      refine ⟨_, rfl, h, _, 0, .int a, rfl, rfl, .inl (.inl hh), atI_nat (j := 0) rfl, _, rfl, a, n, rfl, rfl, ⟨np, by omega⟩, ?_⟩
      refine ⟨_, rfl, h, _, 0, 0, rfl, rfl, hh, rfl, ?_⟩
      have r1 : 0 ≤ a % (n : Int) := Int.emod_nonneg _ (by omega)
      have r2 : a % (n : Int) < n := Int.emod_lt_of_pos _ np
      have er : V.int (a % (n : Int)) = nv (a % (n : Int)).toNat := by
        unfold nv
        rw [Int.toNat_of_nonneg r1]
      refine ⟨_, rfl, ?_⟩
      show Q (V.int (a % (n : Int))) _
      rw [er]
      exact q _ _ (by omega) (RelH.put (a := a / n) b0 b1)
    · have m1 : 0 ≤ (b * 48271 + 11) % 2147483647 := Int.emod_nonneg _ (by decide)
      have m2 : (b * 48271 + 11) % 2147483647 < 2147483647 := Int.emod_lt_of_pos _ (by decide)
      refine ⟨_, rfl, h, _, 1, .int b, rfl, rfl, .inl (.inl hh), atI_nat (j := 1) rfl, b, 48271, rfl, rfl, .inr ⟨by decide, by decide⟩, _, _, rfl, rfl, _, _, rfl, rfl, (by decide : (0 : Int) < 2147483647), ?_⟩
      refine ⟨_, rfl, h, _, 1, 1, rfl, rfl, hh, rfl, ?_⟩
      have hr1 : RelH h H (upd H h (.lst [.int a, .int ((b * 48271 + 11) % 2147483647)])) := RelH.put m1 m2
      have hh1 : (upd H h (.lst [.int a, .int ((b * 48271 + 11) % 2147483647)])) h = some (.lst [.int a, .int ((b * 48271 + 11) % 2147483647)]) := upd_same
      dsimp only [List.set]
      generalize (b * 48271 + 11) % 2147483647 = b' at m1 m2 hr1 hh1 ⊢
      generalize upd H h (.lst [.int a, .int b']) = H1 at hr1 hh1 ⊢
      refine ⟨_, rfl, h, _, 1, .int b', rfl, rfl, .inl (.inl hh1), atI_nat (j := 1) rfl, _, rfl, h, _, 1, .int b', rfl, rfl, .inl (.inl hh1), atI_nat (j := 1) rfl, b', b', rfl, rfl, .inl ⟨by omega, by omega⟩,
        _, _, rfl, rfl, (by decide : (0 : Int) < 2147483629), _, _, rfl, rfl, (⟨by decide, by decide⟩ : CDiv _ 64), _, rfl, _, n, rfl, rfl, np, ?_⟩
      have r1 : 0 ≤ b' * b' % 2147483629 / 64 % (n : Int) := Int.emod_nonneg _ (by omega)
      have r2 : b' * b' % 2147483629 / 64 % (n : Int) < n := Int.emod_lt_of_pos _ np
      have er : V.int (b' * b' % 2147483629 / 64 % (n : Int)) = nv (b' * b' % 2147483629 / 64 % (n : Int)).toNat := by
        unfold nv
        rw [Int.toNat_of_nonneg r1]
      show Q (V.int (b' * b' % 2147483629 / 64 % (n : Int))) _
      rw [er]
      exact q _ _ (by omega) hr1
end
end K44

set_option Elab.async false
set_option linter.all false
set_option maxRecDepth 100000
set_option maxHeartbeats 4000000
namespace K44
open PySem PySem.Spec PyProof.Rows L2
section
variable {P : Program} {w : World} {K : PySem.W.Frag} {mg : Str → Option Value} {base : Heap}
def sp_hand : Sp := fun vs H Q _ => ∃ (a : Addr) (ns : List Int) (k : Nat), vs = [.ref a, nv k] ∧ SqL K H a (ns.map V.int) ∧ k ≤ 100 ∧ ∀ H' h, Same H H' → H h = none → HandAt H' h → Q (.ref h) H'
theorem cut_first (ns : List Int) (lo hi : Option Int) : ∃ c : Int, (cutV (ns.map V.int) lo hi ++ [V.int 0])[0]? = some (.int c) := by
  have h : ∀ x ∈ cutV (ns.map V.int) lo hi, ∃ c : Int, x = V.int c := fun x hx => by
    unfold cutV at hx
    have := List.mem_of_mem_drop (List.mem_of_mem_take hx)
    obtain ⟨c, _, e⟩ := List.mem_map.mp this
    exact ⟨c, e.symm⟩
  cases e : cutV (ns.map V.int) lo hi with
  | nil => exact ⟨0, rfl⟩
  | cons x r =>
    obtain ⟨c, ec⟩ := h x (by rw [e]; exact List.mem_cons_self)
    exact ⟨c, by rw [ec]; rfl⟩
theorem cl_hand (T : Txt mg) (F : Has K mg "_law_hand" s_law_hand) : Cal P w K mg base 1 "_law_hand" ["_law_script", "_law_k"] (sp_hand (K := K)) := by
  refine cal_mk F s_law_hand_sc (fun _ _ _ _ _ _ us hl => match us, hl with | [_, _], _ => rfl) (fun vs H Q E h => ?_) (fun f cdv A outer s H vs Q E hr h => ?_)
  · obtain ⟨_, _, _, rfl, _⟩ := h
    rfl
  · obtain ⟨a, ns, k, rfl, hs, hk, q⟩ := h
    have nd := s_law_hand_sc.nd
    refine ⟨_, pss_cons (ps_set (i := 2) nd rfl (.inl rfl) (pe_ix ix_list (pe_op op_cat (pe_slice sl_list (pv 0) (po_some (pv 1)) (po_some (pe_op op_add (pv 1) pe_int))) (pe_lst (pa_cons pe_int pa_nil))) pe_int (fun _ _ => rfl)))
      (pss_cons (ps_set (i := 3) nd rfl (.inl rfl) (pe_op op_mod (pe_op op_mul (pe_op op_add (pe_op op_add (pe_op op_mod (pv 2) pe_int) (pe_op op_mul pe_int (pv 1))) pe_int) pe_int) pe_int))
      (pss_one (ps_ret (pe_lst (pa_cons (pe_op op_mul (pe_callTy call_int1 (by rfl) T.int (by decide +kernel) (pa_cons (pe_cmpR op_ge (pv 2) (pe_op op_pow pe_int pe_int) (nomark _)) pa_nil)) (pv 2)) (pa_cons (pv 3) pa_nil)))))), ?_⟩
    refine ⟨_, rfl, _, rfl, _, rfl, _, rfl, _, _, rfl, rfl, _, rfl, a, _, rfl, hs, fun p hp => ?_⟩
    have s1 : Same H (upd H p (.lst (cutV (ns.map V.int) (some ((k : Nat) : Int)) (some (((k : Nat) : Int) + 1))))) := same_new hp
    have e1 : (upd H p (.lst (cutV (ns.map V.int) (some ((k : Nat) : Int)) (some (((k : Nat) : Int) + 1))))) p = some (.lst (cutV (ns.map V.int) (some ((k : Nat) : Int)) (some (((k : Nat) : Int) + 1)))) := upd_same
    obtain ⟨c, hc⟩ := cut_first ns (some ((k : Nat) : Int)) (some (((k : Nat) : Int) + 1))
    have hl : (cutV (ns.map V.int) (some ((k : Nat) : Int)) (some (((k : Nat) : Int) + 1))).length ≤ 1 := by
      unfold cutV
      have e : ((k : Nat) : Int) + 1 = ((k + 1 : Nat) : Int) := by omega
      rw [e, HT.sIx_nat, HT.sIx_nat, List.length_take]
      omega
    refine ⟨by show 1 ≤ sizeLine; decide, fun p2 hp2 => ?_⟩
    have s2 := same_new (o := .lst [V.int 0]) hp2
    refine ⟨p, p2, _, _, rfl, rfl, s2 _ _ e1, upd_same, Nat.le_trans (Nat.add_le_add_right hl _) (by decide), fun p3 hp3 => ?_⟩
    refine ⟨p3, _, 0, .int c, rfl, rfl, .inl (.inl upd_same), atI_nat (j := 0) hc, ?_⟩
    have s3 := s1.trans (s2.trans (same_new (o := .lst (cutV (ns.map V.int) (some ((k : Nat) : Int)) (some (((k : Nat) : Int) + 1)) ++ [V.int 0])) hp3))
    generalize upd (upd (upd H p (.lst (cutV (ns.map V.int) (some ((k : Nat) : Int)) (some (((k : Nat) : Int) + 1))))) p2 (.lst [V.int 0])) p3 (.lst (cutV (ns.map V.int) (some ((k : Nat) : Int)) (some (((k : Nat) : Int) + 1)) ++ [V.int 0])) = H3 at s3 ⊢
    refine ⟨_, rfl, c, 2147483647, rfl, rfl, (by decide : (0 : Int) < 2147483647), _, rfl, 7919, _, rfl, rfl, .inl ⟨by decide, by decide⟩, _, _, rfl, rfl, _, _, rfl, rfl, _, 48271, rfl, rfl, .inr ⟨by decide, by decide⟩, _, _, rfl, rfl, (by decide : (0 : Int) < 2147483629), ?_⟩
    refine ⟨_, rfl, 10, 18, rfl, rfl, ⟨by decide, by decide, by decide⟩, _, _, rfl, rfl, .inr ⟨_, rfl, _, rfl, _, c, rfl, rfl, .inl ?_, _, rfl, by show 2 ≤ sizeLine; decide, fun h hh => ?_⟩⟩
    · split <;> exact ⟨by decide, by decide⟩
    · refine q _ h (s3.trans (same_new hh)) (s3.free hh) ⟨_, _, upd_same, Int.emod_nonneg _ (by decide), Int.lt_trans (Int.emod_lt_of_pos _ (by decide)) (by decide)⟩
end
end K44

set_option Elab.async false
set_option linter.all false
set_option maxRecDepth 100000
set_option maxHeartbeats 4000000
namespace K44
open PySem PySem.Spec PyProof.Rows L2
def okLs (ls : List Nat) : Prop := 1 ≤ ls.length ∧ ls.length ≤ 3 ∧ ∀ c ∈ ls, 97 ≤ c ∧ c ≤ 122
theorem hand_ne {H : Hp} {h p : Addr} (hh : HandAt H h) (hp : H p = none) : p ≠ h := fun z => by
  obtain ⟨a, b, e, _⟩ := hh
  rw [z, e] at hp
  cases hp
section
variable {P : Program} {w : World} {K : PySem.W.Frag} {mg : Str → Option Value} {base : Heap}
def sp_letters : Sp := fun vs H Q _ => ∃ h : Addr, vs = [.ref h] ∧ HandAt H h ∧ ∀ H' ls, okLs ls → RelH h H H' → Q (.str (txt ls)) H'
theorem letters_at (r : Nat) (hr : r < 6) : ∃ ls, okLs ls ∧ ([V.str "ab", .str "ab", .str "abc", .str "qz", .str "mpx", .str "a"] : List V)[r]? = some (.str (txt ls)) := by
  have ok : ∀ ls : List Nat, (decide (1 ≤ ls.length) && decide (ls.length ≤ 3) && ls.all fun c => decide (97 ≤ c) && decide (c ≤ 122)) = true → okLs ls := fun ls h => by
    simp only [Bool.and_eq_true, decide_eq_true_eq, List.all_eq_true] at h
    exact ⟨h.1.1, h.1.2, h.2⟩
  match r, hr with
  | 0, _ => exact ⟨[97, 98], ok _ (by decide), rfl⟩
  | 1, _ => exact ⟨[97, 98], ok _ (by decide), rfl⟩
  | 2, _ => exact ⟨[97, 98, 99], ok _ (by decide), rfl⟩
  | 3, _ => exact ⟨[113, 122], ok _ (by decide), rfl⟩
  | 4, _ => exact ⟨[109, 112, 120], ok _ (by decide), rfl⟩
  | 5, _ => exact ⟨[97], ok _ (by decide), rfl⟩
theorem cl_letters (F : Has K mg "_law_letters" s_law_letters) (C : Cal P w K mg base 1 "_law_draw" ["_law_hand_here", "_law_size"] sp_draw) : Cal P w K mg base 2 "_law_letters" ["_law_hand_here"] sp_letters := by
  refine cal_mk F s_law_letters_sc (fun _ _ _ _ _ _ us hl => match us, hl with | [_], _ => rfl) (fun vs H Q E h => ?_) (fun f cdv A outer s H vs Q E hr h => ?_)
  · obtain ⟨_, rfl, _⟩ := h
    rfl
  · obtain ⟨h, rfl, hh, q⟩ := h
    refine ⟨_, pss_one (ps_ret (pe_ix ix_list (pe_lst (pa_cons pe_str (pa_cons pe_str (pa_cons pe_str (pa_cons pe_str (pa_cons pe_str (pa_cons pe_str pa_nil))))))) (pe_cal C hr (pa_cons (pv 0) (pa_cons pe_int pa_nil))) (fun _ _ => rfl))), ?_⟩
    refine ⟨by show 6 ≤ sizeLine; decide, fun p hp => ?_⟩
    have s1 : Same H (upd H p (.lst [V.str "ab", .str "ab", .str "abc", .str "qz", .str "mpx", .str "a"])) := same_new hp
    refine ⟨_, rfl, h, 6, rfl, by decide, by decide, (RelH.of s1).2.2 hh, fun H2 r hr6 r2 => ?_⟩
    obtain ⟨ls, okl, e⟩ := letters_at r hr6
    exact ⟨p, _, r, _, rfl, rfl, .inl (.inl (r2.1 _ _ (hand_ne hh hp) upd_same)), atI_nat (j := r) e, q H2 ls okl ((RelH.of s1).trans r2)⟩
def sp_rooms : Sp := fun vs H Q _ => ∃ (h : Addr) (n : Nat), vs = [.ref h, nv n] ∧ 1 ≤ n ∧ n ≤ 12 ∧ HandAt H h ∧ ∀ H' p (l : List Nat), RelH h H H' → H p = none → IntsAt H' p l → l.Pairwise (· < ·) → (∀ r ∈ l, r < n) → Q (.ref p) H'
theorem cl_rooms (T : Txt mg) (F : Has K mg "_law_rooms" s_law_rooms) (C : Cal P w K mg base 1 "_law_draw" ["_law_hand_here", "_law_size"] sp_draw) : Cal P w K mg base 2 "_law_rooms" ["_law_hand_here", "_law_size"] sp_rooms := by
  refine cal_mk F s_law_rooms_sc (fun _ _ _ _ _ _ us hl => match us, hl with | [_, _], _ => rfl) (fun vs H Q E h => ?_) (fun f cdv A outer s H vs Q E hr h => ?_)
  · obtain ⟨_, _, rfl, _⟩ := h
    rfl
  · obtain ⟨h, n, rfl, n1, n2, hh, q⟩ := h
    have nd := s_law_rooms_sc.nd
    refine ⟨_, pss_cons (ps_if (pt_cmpR op_eq (pe_cal C hr (pa_cons (pv 0) (pa_cons pe_int pa_nil))) pe_int (nomark _)) (pss_one (ps_ret (pe_lst pa_nil))) pss_nil)
      (pss_cons (ps_setLc (i := 2) (own := [("_law_room", 3)]) (g := gName 3) rfl nd rfl rfl (sw_true rfl rfl rfl (by decide +kernel)) (pi_range1 (by rfl) T.range (pa_cons (pv 1) pa_nil)) (blkOk_by (N := s_law_rooms_N) (sc := defScope s_law_rooms) (by decide +kernel))
        (fun _ _ _ _ _ => pg_name (i := 3) nd rfl (.inl rfl)) (fun _ _ _ _ _ => pts_one (pt_cmpR op_eq (pe_cal C hr (pa_cons (pv 0) (pa_cons pe_int pa_nil))) pe_int (nomark _))) (fun _ _ _ _ _ => pv 3))
      (pss_one (ps_ret (pe_orT (pv 2) (pe_one (pe_lst (pa_cons (pe_cal C hr (pa_cons (pv 0) (pa_cons (pv 1) pa_nil))) pa_nil))))))), ?_⟩
    refine ⟨_, rfl, h, 14, rfl, by decide, by decide, hh, fun H1 r0 _ r1 => ?_⟩
    have hh1 := r1.2.2 hh
    refine ⟨rfl, _, rfl, ite2 (fun _ => ?_) (fun _ => ?_)⟩
    · refine ⟨Nat.zero_le _, fun p hp => ?_⟩
      exact q _ p [] (r1.trans (.of (same_new hp))) (r1.2.1 _ hp) upd_same List.Pairwise.nil (fun r hr => by cases hr)
    · refine ⟨_, rfl, _, rfl, by omega, by omega, fun D hD => ?_⟩
      refine lc_range (fun i H' => RelH h H1 H' ∧ ∃ l : List Nat, IntsAt H' D l ∧ l.Pairwise (· < ·) ∧ (∀ r ∈ l, r < i) ∧ l.length ≤ i) ⟨.of (same_new hD), [], upd_same, List.Pairwise.nil, fun r hr => (by cases hr), Nat.zero_le _⟩ (fun i H2 hi ⟨r2, l, hl, pw, lt, len⟩ => ?_) (fun H2 ⟨r2, l, hl, pw, lt, len⟩ => ?_)
      · rw [Int.toNat_natCast] at hi
        have ei : V.int (0 + (i : Int)) = nv i := by rw [Int.zero_add]; rfl
        rw [ei]
        refine ⟨rfl, ?_⟩
        refine ⟨_, rfl, h, 3, rfl, by decide, by decide, r2.2.2 hh1, fun H3 r _ r3 => ?_⟩
        have r13 := r2.trans r3
        have hl3 : IntsAt H3 D l := r3.1 _ _ (hand_ne hh1 hD) hl
        refine ⟨rfl, _, rfl, ite2 (fun _ => ?_) (fun _ => ?_)⟩
        · refine ⟨_, rfl, l.map nv, hl3, ?_, r13.lst hD hh1 hl3, l ++ [i], ?_, ?_, ?_, ?_⟩
          · rw [List.length_map]
            exact small1000 (by omega)
          · show upd H3 D _ D = _
            rw [upd_same, List.map_append]
            rfl
          · refine List.pairwise_append.mpr ⟨pw, List.pairwise_singleton _ _, fun a ha b hb => ?_⟩
            rw [List.mem_singleton.mp hb]
            exact lt a ha
          · intro r hr
            rcases List.mem_append.mp hr with z | z
            · have := lt r z
              omega
            · rw [List.mem_singleton.mp z]
              omega
          · rw [List.length_append, List.length_singleton]
            omega
        · exact ⟨r13, l, hl3, pw, fun r hr => Nat.lt_succ_of_lt (lt r hr), by omega⟩
      · rw [Int.toNat_natCast] at lt
        have r02 := r1.trans r2
        refine ⟨_, rfl, !(l.map nv).isEmpty, .inl ⟨_, .inl (.inl hl), rfl⟩, ?_⟩
        cases l with
        | cons x l0 =>
          refine iteT ?_
          exact q H2 D _ r02 (r1.2.1 _ hD) hl pw lt
        | nil =>
          refine iteF ?_
          refine ⟨_, rfl, _, rfl, h, n, rfl, n1, by omega, r2.2.2 hh1, fun H3 r hrn r3 => ⟨by show 1 ≤ sizeLine; decide, fun p hp => ?_⟩⟩
          have r03 := r02.trans r3
          refine q _ p [r] (r03.trans (.of (same_new hp))) (r03.2.1 _ hp) upd_same (List.pairwise_singleton _ _) (fun x hx => ?_)
          rw [List.mem_singleton.mp hx]
          exact hrn
end
end K44

set_option Elab.async false
set_option linter.all false
set_option maxRecDepth 100000
set_option maxHeartbeats 4000000
namespace K44
open PySem PySem.Spec PyProof.Rows L2
section
variable {P : Program} {w : World} {K : PySem.W.Frag} {mg : Str → Option Value} {base : Heap}
def sp_order : Sp := fun vs H Q _ => ∃ (h : Addr) (n : Nat), vs = [.ref h, nv n] ∧ n ≤ 12 ∧ HandAt H h ∧ ∀ H' p (L : List Nat), RelH h H H' → H p = none → IntsAt H' p L → L.Perm (List.range n) → Q (.ref p) H'
theorem cl_order (T : Txt mg) (F : Has K mg "_law_order" s_law_order) (C : Cal P w K mg base 1 "_law_draw" ["_law_hand_here", "_law_size"] sp_draw) : Cal P w K mg base 2 "_law_order" ["_law_hand_here", "_law_many"] sp_order := by
  refine cal_mk F s_law_order_sc (fun _ _ _ _ _ _ us hl => match us, hl with | [_, _], _ => rfl) (fun vs H Q E h => ?_) (fun f cdv A outer s H vs Q E hr h => ?_)
  · obtain ⟨_, _, rfl, _⟩ := h
    rfl
  · obtain ⟨h, n, rfl, n2, hh, q⟩ := h
    have nd := s_law_order_sc.nd
    refine ⟨_, pss_cons (ps_set (i := 2) nd rfl (.inl rfl) (pe_lst pa_nil))
      (pss_cons (ps_for PassesOwn.never rfl (pi_range1 (by rfl) T.range (pa_cons (pv 1) pa_nil)) (pg_name (i := 3) nd rfl (.inl rfl))
        (pss_one (ps_expr (pe_bm PySem.F.plainAttrs_list PySem.F.slot_list_insert PySem.F.type_list_insert mt_insert (pv 2) (pa_cons (pe_cal C hr (pa_cons (pv 0) (pa_cons (pe_op op_add (pv 3) pe_int) pa_nil))) (pa_cons (pv 3) pa_nil))))))
      (pss_one (ps_ret (pv 2)))), ?_⟩
    refine ⟨Nat.zero_le _, fun D hD => ?_⟩
    refine ⟨_, rfl, _, rfl, by omega, by omega, ?_⟩
    refine for_it walk_range (fun i σ H' => ∃ y3 l, σ = [some (.ref h), some (nv n), some (.ref D), y3] ∧ RelH h H H' ∧ IntsAt H' D l ∧ l.Perm (List.range i)) ⟨_, [], rfl, .of (same_new hD), upd_same, .nil⟩ (fun _ _ _ _ _ => trivial) (fun i x σ H2 H2' hi ⟨y3, l, e, r2, hl, pm⟩ y => ?_) (fun σ H2 ⟨y3, l, e, r2, hl, pm⟩ => ?_)
    · subst e
      obtain ⟨rfl, rfl⟩ := y
      rw [Int.toNat_natCast] at hi
      have ei : V.int (0 + (i : Int)) = nv i := by rw [Int.zero_add]; rfl
      show gName 3 (V.int (0 + (i : Int))) _ _ _
      rw [ei]
      have len : l.length = i := by rw [pm.length_eq, List.length_range]
      refine ⟨_, rfl, .inl ⟨rfl, _, .inl (.inl hl)⟩, _, rfl, _, rfl, i, 1, rfl, rfl, h, i + 1, ?_, by omega, by omega, r2.2.2 hh, fun H3 r hr3 r3 => ?_⟩
      · show [V.ref h, V.int ((i : Int) + 1)] = [V.ref h, V.int ((i + 1 : Nat) : Int)]
        rw [show ((i : Int) + 1) = ((i + 1 : Nat) : Int) by omega]
      · have hl3 : IntsAt H3 D l := r3.1 _ _ (hand_ne hh hD) hl
        refine ⟨_, rfl, D, l.map nv, (r : Int), nv i, rfl, rfl, hl3, by rw [List.length_map]; exact small1000 (by omega), by omega, by omega, ?_⟩
        refine ⟨_, l.take r ++ [i] ++ l.drop r, rfl, (r2.trans r3).lst hD hh hl3, ?_, ?_⟩
        · show upd H3 D _ D = _
          rw [upd_same, Int.toNat_natCast, List.map_append, List.map_append, List.map_take, List.map_drop]
          rfl
        · rw [List.range_succ]
          have e : (l.take r ++ [i] ++ l.drop r).Perm (l ++ [i]) := by
            have z : (l.take r ++ [i] ++ l.drop r).Perm (l.take r ++ l.drop r ++ [i]) := by
              rw [List.append_assoc, List.append_assoc]
              exact (List.Perm.refl _).append List.perm_append_comm
            rw [List.take_append_drop] at z
            exact z
          exact e.trans (pm.append (List.Perm.refl _))
    · subst e
      rw [Int.toNat_natCast] at pm
      exact ⟨_, rfl, q H2 D l r2 hD hl pm⟩
/-! ### the machine that is drawn -/
def stD (t : Nat × Nat × Nat) : PyData := .tuple [.int t.1, .str (sg t.2.1), .int t.2.2]
theorem stD_fit {t : Nat × Nat × Nat} (h : t.2.1 ≤ 122) : Fit (stD t) 1 := Fit.tuple (n := 0) fun d hd => by
  rcases List.mem_cons.mp hd with e | hd
  · rw [e]; exact fit_int _
  · rcases List.mem_cons.mp hd with e | hd
    · rw [e]
      refine ⟨?_, by simp [PyData.depth]⟩
      rw [PyData.canLay0]
      unfold PyData.strOk sg
      rw [Array.all_eq_true']
      intro c hc
      have hc : c = t.2.1 := by simpa using hc
      rw [hc, decide_eq_true_iff]
      omega
    · rw [List.mem_singleton.mp hd]
      exact fit_int _
theorem stD_inj {a b : Nat × Nat × Nat} (h : PyData.eqv (stD a) (stD b) = true) : a = b := by
  unfold stD at h
  obtain ⟨a1, a2, a3⟩ := a
  obtain ⟨b1, b2, b3⟩ := b
  simp only [PyData.eqv, PyData.eqvAll, Bool.and_eq_true, Bool.and_true] at h
  obtain ⟨h1, h2, h3⟩ := h
  have e1 : (a1 : Int) = b1 := beq_iff_eq.mp h1
  have e2 : sg a2 = sg b2 := beq_iff_eq.mp h2
  have e3 : (a3 : Int) = b3 := beq_iff_eq.mp h3
  have f1 : a1 = b1 := by omega
  have f3 : a3 = b3 := by omega
  rw [f1, sg_inj e2, f3]
theorem st_any {t : Nat × Nat × Nat} (ht : t.2.1 ≤ 122) : ∀ {l : List (Nat × Nat × Nat)}, (l.map stD).any (fun z => PyData.eqv z (stD t)) = decide (t ∈ l)
  | [] => rfl
  | m :: l => by
    rw [List.map_cons, List.any_cons, st_any ht]
    by_cases e : t = m
    · subst e
      rw [(stD_fit ht).refl]
      simp
    · have e2 : PyData.eqv (stD m) (stD t) = false := by
        cases q : PyData.eqv (stD m) (stD t) with
        | false => rfl
        | true => exact absurd (stD_inj q).symm e
      rw [e2, Bool.false_or]
      simp [e]
theorem dp_st {K : PySem.W.Frag} {H : Hp} {x : V} {t : Nat × Nat × Nat} (h : RS H x t) : Dp K H x (stD t) := by
  obtain ⟨a, e, ha⟩ := h
  rw [e]
  exact .tup (.inl (.inl ha)) (.cons (.int _) (.cons (.str _) (.cons (.int _) .nil)))
theorem dp_steps {K : PySem.W.Frag} {H : Hp} {a : Addr} {xs : List V} {l : List (Nat × Nat × Nat)} (h1 : H a = some (.lst xs)) (h2 : LR RS H xs l) : Dp K H (.ref a) (.list (l.map stD)) :=
  dp_list stD h1 ⟨h2.1, fun i x y hx hy => dp_st (h2.2 i x y hx hy)⟩
theorem steps_fit {l : List (Nat × Nat × Nat)} (h : ∀ t ∈ l, t.2.1 ≤ 122) : Fit (.list (l.map stD)) 2 := Fit.list fun d hd => by
  obtain ⟨t, ht, e⟩ := List.mem_map.mp hd
  rw [← e]
  exact stD_fit (h t ht)
theorem tup_ne {H : Hp} {h a : Addr} {xs : List V} (hh : HandAt H h) (e : H a = some (.tup xs)) : a ≠ h := fun z => by
  obtain ⟨_, _, e2, _⟩ := hh
  rw [z, e2] at e
  cases e
theorem RelH.tups {h : Addr} {H H' : Hp} (r : RelH h H H') (hh : HandAt H h) : Tups H H' := fun b xs e => r.1 b _ (tup_ne hh e) e
theorem MacAt.relH {h : Addr} {H H' : Hp} {v : V} {m : Mach} {t fa la sa : Addr} (M : MacAt H v m t fa la sa) (r : RelH h H H') (hh : HandAt H h) (nf : fa ≠ h) (nl : la ≠ h) (ns : sa ≠ h) : MacAt H' v m t fa la sa := by
  obtain ⟨xs, h1, h2⟩ := M.sa
  exact ⟨M.v, r.tups hh _ _ M.t, r.1 _ _ nf M.fa, r.1 _ _ nl M.la, xs, r.1 _ _ ns h1, h2.mono fun x y k => k.mono (r.tups hh)⟩
end
end K44

set_option Elab.async false
set_option linter.all false
set_option maxRecDepth 100000
set_option maxHeartbeats 4000000
namespace K44
open PySem PySem.Spec PyProof.Rows L2
section
variable {P : Program} {w : World} {K : PySem.W.Frag} {mg : Str → Option Value} {base : Heap}
def sp_machine : Sp := fun vs H Q _ => ∃ (h : Addr) (u ex : Nat) (ls : List Nat), vs = [.ref h, nv u, nv ex, .str (txt ls)] ∧ 1 ≤ u ∧ u ≤ 6 ∧ ex ≤ 9 ∧ okLs ls ∧ HandAt H h ∧
  ∀ H' v m t fa la sa, RelH h H H' → MacAt H' v m t fa la sa → MOk m → m.many ≤ 6 → H fa = none → H la = none → H sa = none → Q v H'
theorem cl_machine (T : Txt mg) (F : Has K mg "_law_machine" s_law_machine) (C : Cal P w K mg base 1 "_law_draw" ["_law_hand_here", "_law_size"] sp_draw) (CR : Cal P w K mg base 2 "_law_rooms" ["_law_hand_here", "_law_size"] sp_rooms) :
    Cal P w K mg base 3 "_law_machine" ["_law_hand_here", "_law_upto", "_law_extra", "_law_letters_here"] sp_machine := by
  refine cal_mk F s_law_machine_sc (fun _ _ _ _ _ _ us hl => match us, hl with | [_, _, _, _], _ => rfl) (fun vs H Q E h => ?_) (fun f cdv A outer s H vs Q E hr h => ?_)
  · obtain ⟨_, _, _, _, rfl, _⟩ := h
    rfl
  · obtain ⟨h, u, ex, ls, rfl, u1, u6, ex9, ⟨ls1, ls3, lso⟩, hh, q⟩ := h
    have nd := s_law_machine_sc.nd
    have hu65 : (cxOf CX0 P w K mg base s_law_machine_N "_law_machine" (defScope s_law_machine) f cdv A outer s H E).nox.A.units + 65 < cLine := by
      have := hr.un
      show (A.deeper _).units + 65 < cLine
      omega
    have CD := C.mono (k := 2) (by decide)
    refine ⟨_, pss_cons (ps_set (i := 4) nd rfl (.inl rfl) (pe_op op_add pe_int (pe_cal CD hr (pa_cons (pv 0) (pa_cons (pv 1) pa_nil)))))
      (pss_cons (ps_set (i := 5) nd rfl (.inl rfl) (pe_cal CR hr (pa_cons (pv 0) (pa_cons (pv 4) pa_nil))))
      (pss_cons (ps_set (i := 6) nd rfl (.inl rfl) (pe_cal CR hr (pa_cons (pv 0) (pa_cons (pv 4) pa_nil))))
      (pss_cons (ps_set (i := 7) nd rfl (.inl rfl) (pe_lst pa_nil))
      (pss_cons (ps_for PassesOwn.never rfl (pi_range1 (by rfl) T.range (pa_cons (pe_cal CD hr (pa_cons (pv 0) (pa_cons (pe_op op_add (pv 4) (pv 2)) pa_nil))) pa_nil)) (pg_name (i := 8) nd rfl (.inl rfl))
        (pss_cons (ps_set (i := 9) nd rfl (.inl rfl) (pe_tup (pa_cons (pe_cal CD hr (pa_cons (pv 0) (pa_cons (pv 4) pa_nil))) (pa_cons (pe_ix ix_str (pv 3) (pe_cal CD hr (pa_cons (pv 0) (pa_cons (pe_callB call_len (by rfl) T.len (by decide +kernel) (pa_cons (pv 3) pa_nil)) pa_nil))) (fun _ _ => rfl)) (pa_cons (pe_cal CD hr (pa_cons (pv 0) (pa_cons (pv 4) pa_nil))) pa_nil)))))
        (pss_one (ps_if (pt_cmpR (op_notInD hu65) (pv 9) (pv 7) (by rfl)) (pss_one (ps_expr (pe_bm PySem.F.plainAttrs_list PySem.F.slot_list_append PySem.F.type_list_append mt_append (pv 7) (pa_cons (pv 9) pa_nil)))) pss_nil))))
      (pss_one (ps_ret (pe_tup (pa_cons (pv 4) (pa_cons (pv 5) (pa_cons (pv 6) (pa_cons (pv 7) pa_nil))))))))))), ?_⟩
    refine ⟨_, rfl, _, rfl, h, u, rfl, u1, by omega, hh, fun H1 r hru r1 => ?_⟩
    refine ⟨1, r, rfl, rfl, ?_⟩
    have e1 : V.int (1 + (r : Int)) = nv (r + 1) := by
      unfold nv
      rw [show (1 + (r : Int)) = ((r + 1 : Nat) : Int) by omega]
    dsimp only
    rw [e1]
    have hn : r + 1 ≤ 6 := by omega
    have hn1 : 1 ≤ r + 1 := by omega
    generalize r + 1 = n at hn hn1 ⊢
    have hh1 := r1.2.2 hh
    refine ⟨_, rfl, _, rfl, h, n, rfl, hn1, by omega, hh1, fun H2 fa l1 r2 nfa hfa pw1 lt1 => ?_⟩
    have hh2 := r2.2.2 hh1
    refine ⟨_, rfl, _, rfl, h, n, rfl, hn1, by omega, hh2, fun H3 la l2 r3 nla hla pw2 lt2 => ?_⟩
    have hh3 := r3.2.2 hh2
    have nfh := hand_ne hh1 nfa
    have nlh := hand_ne hh2 nla
    have hfa3 : IntsAt H3 fa l1 := r3.1 _ _ nfh hfa
    refine ⟨Nat.zero_le _, fun D hD => ?_⟩
    have nDh := hand_ne hh3 hD
    have s4 : Same H3 (upd H3 D (.lst [])) := same_new hD
    have e4 : (upd H3 D (.lst [])) D = some (.lst []) := upd_same
    generalize upd H3 D (.lst []) = H4 at s4 e4 ⊢
    have r4 : RelH h H3 H4 := .of s4
    refine ⟨_, rfl, _, rfl, _, rfl, n, ex, rfl, rfl, h, n + ex, ?_, by omega, by omega, r4.2.2 hh3, fun H5 cnt hcnt r5 => ?_⟩
    · show [V.ref h, V.int ((n : Int) + ex)] = [V.ref h, V.int ((n + ex : Nat) : Int)]
      rw [show ((n : Int) + ex) = ((n + ex : Nat) : Int) by omega]
    refine ⟨cnt, rfl, by omega, by omega, ?_⟩
    refine for_it walk_range (fun i σ H' => ∃ y8 y9 l xs, σ = [some (.ref h), some (nv u), some (nv ex), some (.str (txt ls)), some (nv n), some (.ref fa), some (.ref la), some (.ref D), y8, y9] ∧ RelH h H3 H' ∧ H' D = some (.lst xs) ∧ LR RS H' xs l ∧ l.Nodup ∧
        (∀ t ∈ l, t.1 < n ∧ (97 ≤ t.2.1 ∧ t.2.1 ≤ 122) ∧ t.2.2 < n) ∧ l.length ≤ i)
      ⟨_, _, [], [], rfl, r4.trans r5, r5.1 _ _ nDh e4, LR.nil, List.nodup_nil, fun t ht => (by cases ht), Nat.zero_le _⟩ (fun _ _ _ _ _ => trivial) (fun i x σ H6 H6' hi ⟨y8, y9, l, xs, e, r6, hx, lr, ndl, bd, len⟩ y => ?_) (fun σ H6 ⟨y8, y9, l, xs, e, r6, hx, lr, ndl, bd, len⟩ => ?_)
    · subst e
      obtain ⟨rfl, rfl⟩ := y
      rw [Int.toNat_natCast] at hi
      have hh6 := r6.2.2 hh3
      refine ⟨_, rfl, _, rfl, h, n, rfl, hn1, by omega, hh6, fun Ha x hxn ra => ?_⟩
      have hha := ra.2.2 hh6
      refine ⟨_, rfl, _, rfl, _, rfl, _, ls.length, rfl, ⟨by rw [txt_len]; exact Nat.le_trans ls3 (by decide), (txt_len ls).symm⟩, h, ls.length, rfl, ls1, by omega, hha, fun Hb yy hyy rb => ?_⟩
      have hhb := rb.2.2 hha
      obtain ⟨c, hc⟩ : ∃ c, ls[yy]? = some c := ⟨ls[yy], List.getElem?_eq_getElem hyy⟩
      have cb := lso c (List.mem_of_getElem? hc)
      have etl : (txt ls).cps.toList = ls := by simp [txt]
      refine ⟨txt ls, yy, c, rfl, rfl, by rw [txt_len]; exact Nat.le_trans ls3 (by decide), atI_nat (j := yy) (by rw [etl]; exact hc), ?_⟩
      refine ⟨_, rfl, _, rfl, h, n, rfl, hn1, by omega, hhb, fun Hc z hzn rc => ?_⟩
      have hhc := rc.2.2 hhb
      refine ⟨by show 3 ≤ sizeLine; decide, fun p hp => ?_⟩
      have s7 : Same Hc (upd Hc p (.tup [nv x, .str (sg c), nv z])) := same_new hp
      have e7 : (upd Hc p (.tup [nv x, .str (sg c), nv z])) p = some (.tup [nv x, .str (sg c), nv z]) := upd_same
      have r6c := ra.trans (rb.trans rc)
      have rall : RelH h H6' (upd Hc p (.tup [nv x, .str (sg c), nv z])) := r6c.trans (.of s7)
      have hx7 := rall.1 _ _ nDh hx
      have lr7 : LR RS (upd Hc p (.tup [nv x, .str (sg c), nv z])) xs l := lr.mono fun a b k => k.mono (rall.tups hh6)
      have r37 := r6.trans rall
      refine ⟨_, rfl, _, rfl, stD (x, c, z), l.map stD, dp_st ⟨p, rfl, e7⟩, dp_steps hx7 lr7, (stD_fit (t := (x, c, z)) cb.2).shaped, (steps_fit fun t ht => (bd t ht).2.1.2).shaped, _, rfl, ?_⟩
      rw [st_any (t := (x, c, z)) cb.2]
      by_cases hm : (x, c, z) ∈ l
      · rw [decide_eq_true hm]
        refine iteF ?_
        exact ⟨_, _, l, xs, rfl, r37, hx7, lr7, ndl, bd, by omega⟩
      · rw [decide_eq_false hm]
        refine iteT ?_
        refine ⟨_, rfl, .inl ⟨rfl, _, .inl (.inl hx7)⟩, _, rfl, D, xs, .ref p, rfl, rfl, hx7, ?_, ?_⟩
        · rw [lr.1]
          exact small1000 (by omega)
        · have tp : Tups (upd Hc p (.tup [nv x, .str (sg c), nv z])) (upd (upd Hc p (.tup [nv x, .str (sg c), nv z])) D (.lst (xs ++ [.ref p]))) := tups_upd (not_tup_lst hx7)
          refine ⟨_, _, l ++ [(x, c, z)], xs ++ [.ref p], rfl, r37.lst hD hh3 hx7, upd_same, LR.snoc (lr7.mono fun a b k => k.mono tp) ⟨p, rfl, tp _ _ e7⟩, nd_snoc ndl hm, fun t ht => ?_, by rw [List.length_append, List.length_singleton]; omega⟩
          rcases List.mem_append.mp ht with ht | ht
          · exact bd t ht
          · rw [List.mem_singleton.mp ht]
            exact ⟨hxn, cb, hzn⟩
    · subst e
      rw [Int.toNat_natCast] at len
      refine ⟨_, rfl, _, rfl, _, rfl, _, rfl, by show 4 ≤ sizeLine; decide, fun p hp => ?_⟩
      have s7 := same_new (o := .tup [nv n, .ref fa, .ref la, .ref D]) hp
      have r06 := r1.trans (r2.trans (r3.trans r6))
      refine q _ _ ⟨n, l1, l2, l⟩ p fa la D (r06.trans (.of s7)) ⟨rfl, upd_same, s7 _ _ (r6.1 _ _ nfh hfa3), s7 _ _ (r6.1 _ _ nlh hla), xs, s7 _ _ hx, lr.mono fun a b k => k.mono (Same.tups s7)⟩ ⟨hn1, by show n ≤ 12; omega, pw1, lt1, pw2, lt2, bd, ndl, by show l.length ≤ 200; omega⟩ hn (r1.2.1 _ nfa) (r1.2.1 _ (r2.2.1 _ nla)) ((r1.trans (r2.trans r3)).2.1 _ hD)
end
end K44

set_option Elab.async false
set_option linter.all false
set_option maxRecDepth 100000
set_option maxHeartbeats 4000000
namespace K44
open PySem PySem.Spec PyProof.Rows L2
/-! ### sorted(xs), xs a list of tuples of ints and texts -/
def vItems (shape : Nat → Bool) : Nat → List V → Option (List (Int ⊕ List Nat))
  | _, [] => some []
  | i, .int n :: r => if shape i = true then none else (vItems shape (i + 1) r).map (Sum.inl n :: ·)
  | i, .str x :: r => if shape i = true then (vItems shape (i + 1) r).map (Sum.inr x.cps.toList :: ·) else none
  | _, _ :: _ => none
theorem v_items {shape : Nat → Bool} : ∀ {its : List V} {us : List Value} {i : Nat} {l : List (Int ⊕ List Nat)}, Vals its us → vItems shape i its = some l → tupItems shape i us = some l
  | [], _, _, _, .nil, h => h
  | x :: its, u :: us, i, l, .cons r rr, h => by
    cases x with
    | int n =>
      obtain ⟨t, rfl⟩ := r
      have h : (if shape i = true then none else (vItems shape (i + 1) its).map (Sum.inl n :: ·)) = some l := h
      show (if shape i = true then none else (tupItems shape (i + 1) us).map (Sum.inl n :: ·)) = some l
      by_cases c : shape i = true
      · rw [if_pos c] at h
        cases h
      · rw [if_neg c] at h ⊢
        obtain ⟨l', e1, e2⟩ := Option.map_eq_some_iff.mp h
        rw [v_items rr e1, ← e2]
        rfl
    | str n =>
      obtain ⟨t, rfl⟩ := r
      have h : (if shape i = true then (vItems shape (i + 1) its).map (Sum.inr n.cps.toList :: ·) else none) = some l := h
      show (if shape i = true then (tupItems shape (i + 1) us).map (Sum.inr n.cps.toList :: ·) else none) = some l
      by_cases c : shape i = true
      · rw [if_pos c] at h ⊢
        obtain ⟨l', e1, e2⟩ := Option.map_eq_some_iff.mp h
        rw [v_items rr e1, ← e2]
        rfl
      · rw [if_neg c] at h
        cases h
    | _ => cases h
def kH (H : Hp) (shape : Nat → Bool) : V → List (Int ⊕ List Nat)
  | .ref t => match H t with
    | some (.tup its) => (vItems shape 0 its).getD []
    | _ => []
  | _ => []
theorem kH_at {H : Hp} {shape : Nat → Bool} {t : Addr} {its : List V} {l : List (Int ⊕ List Nat)} (h : H t = some (.tup its)) (e : vItems shape 0 its = some l) : kH H shape (.ref t) = l := by
  show (match H t with | some (.tup its) => (vItems shape 0 its).getD [] | _ => []) = l
  rw [h]
  show (vItems shape 0 its).getD [] = l
  rw [e]
  rfl
def rSortG (K : PySem.W.Frag) (shape : Nat → Bool) : List V → Hp → VK → Prop := fun vs H Q => ∃ (a : Addr) (xs : List V), vs = [.ref a] ∧ SqL K H a xs ∧ (∀ x ∈ xs, ∃ t its l, x = .ref t ∧ H t = some (.tup its) ∧ its ≠ [] ∧ vItems shape 0 its = some l) ∧
  ∀ ys p, ys.Perm xs → ys.Pairwise (fun x y => lexLt itemOrd (kH H shape y) (kH H shape x) = false) → H p = none → Q (.ref p) (upd H p (.lst ys))
section
variable {X : Cx} {pins : List (Addr × Obj)} {σ : L2.St} {H : Hp} {s : Shared} {shape : Nat → Bool}
theorem tup_obj (I : L2.Inv X pins σ H s) {t : Addr} {its : List V} (h : H t = some (.tup its)) : ∃ us o n, Vals its us ∧ s.heap.get? t = some o ∧ o.cls = .type "tuple" ∧ o.data = .seq us.toArray n := by
  obtain ⟨_, us, r, o, h1, h2, k, h3⟩ := (show ObjOk X.prog X.w H s.heap t (.tup its) from I.hok t _ h)
  exact ⟨us, o, k, r, h1, h2, h3⟩
theorem tup_key (I : L2.Inv X pins σ H s) {t : Addr} {its : List V} {l : List (Int ⊕ List Nat)} (h : H t = some (.tup its)) (e : vItems shape 0 its = some l) : G.tupKeyC s.heap shape (.ref t) = some l := by
  obtain ⟨us, o, n, r, h1, h2, h3⟩ := tup_obj I h
  obtain ⟨oc, od, dt, sl⟩ := o
  simp only at h2 h3
  subst h2 h3
  unfold G.tupKeyC
  have c : G.isTupObj s.heap (.ref t) = true := by
    simp only [G.isTupObj, h1]
    rfl
  rw [if_pos c]
  simp only [tupKey, h1]
  exact v_items r e
theorem tup_of (I : L2.Inv X pins σ H s) {t : Addr} {its : List V} {l : List (Int ⊕ List Nat)} (h : H t = some (.tup its)) (ne : its ≠ []) (e : vItems shape 0 its = some l) : ∃ f, TupOf s.heap shape (.ref t) f := by
  obtain ⟨us, o, n, r, h1, h2, h3⟩ := tup_obj I h
  cases its with
  | nil => exact absurd rfl ne
  | cons x its =>
    cases r with
    | @cons _ u _ us r rr =>
      refine ⟨u, t, o, _, n, rfl, h1, h2, h3, by simp, fun c => ?_, fun c => ?_⟩
      · cases x with
        | int k =>
          obtain ⟨t', rfl⟩ := r
          exact ⟨k, t', rfl⟩
        | str k =>
          have e : (if shape 0 = true then (vItems shape 1 its).map (Sum.inr k.cps.toList :: ·) else none) = some l := e
          rw [if_neg (by rw [c]; exact Bool.false_ne_true)] at e
          cases e
        | _ => cases e
      · cases x with
        | str k =>
          obtain ⟨t', rfl⟩ := r
          exact ⟨k, t', rfl⟩
        | int k =>
          have e : (if shape 0 = true then none else (vItems shape 1 its).map (Sum.inl k :: ·)) = some l := e
          rw [if_pos c] at e
          cases e
        | _ => cases e
end
section
variable {X : Cx} {shape : Nat → Bool}
theorem cr_sortG : CallR X (.builtin "sorted") (rSortG X.K shape) := by
  intro pins s σ H vs us Q I r h
  obtain ⟨a, xs, rfl, hs, hx, q⟩ := h
  obtain ⟨its, rv, hl, hz⟩ := I.list hs
  rw [Vals.ref1 r]
  obtain ⟨e1, e2⟩ := bkV_refs rv fun x m => by
    obtain ⟨t, _, _, e, _⟩ := hx x m
    exact ⟨t, e⟩
  have hv : ∀ v ∈ its, ∃ t is l, v = .ref t ∧ H t = some (.tup is) ∧ is ≠ [] ∧ vItems shape 0 is = some l := fun v hv => by
    obtain ⟨t, rfl⟩ := e2 v hv
    have hm : V.ref t ∈ xs := by
      rw [e1]
      exact List.mem_map.mpr ⟨_, hv, rfl⟩
    obtain ⟨t', is, l, e, h2⟩ := hx _ hm
    cases e
    exact ⟨t, is, l, rfl, h2⟩
  have hT : ∀ vs : List Value, (∀ v ∈ vs, v ∈ its) → ∃ fs, TupsOf s.heap shape vs fs := by
    intro vs
    induction vs with
    | nil => exact fun _ => ⟨[], .nil⟩
    | cons v vs ih =>
      intro h
      obtain ⟨fs, hf⟩ := ih fun u hu => h u (List.mem_cons_of_mem _ hu)
      obtain ⟨t, is, l, rfl, h1, h2, h3⟩ := hv v (h v List.mem_cons_self)
      obtain ⟨f, hf1⟩ := tup_of I h1 h2 h3
      exact ⟨f :: fs, .cons hf1 hf⟩
  obtain ⟨fs, hfs⟩ := hT its fun _ h => h
  have hk : ∀ v, v ∈ its → ∃ l, G.tupKeyC s.heap shape v = some l := fun v h => by
    obtain ⟨t, is, l, rfl, h1, h2, h3⟩ := hv v h
    exact ⟨l, tup_key I h1 h3⟩
  have hkk : ∀ v ∈ its, G.tupKeyC s.heap shape v = some (kH H shape (bkV v)) := fun v h => by
    obtain ⟨t, is, l, rfl, h1, h2, h3⟩ := hv v h
    rw [tup_key I h1 h3]
    exact congrArg some (kH_at h1 h3).symm
  refine G.sorted_tups hl.isList hfs hk (by rw [← rv.length]; exact hz) fun st' hp hs' _ => ?_
  have p1 : (arrOf st').toList.Perm (its.zip its) := by
    rw [← pairsOf_toList]
    exact hp.toList
  have m1 : ∀ p ∈ (arrOf st').toList, p.1 = p.2 ∧ p.1 ∈ its := fun p hp => mem_zip_self (p1.mem_iff.mp hp)
  have ho : ((arrOf st').map (·.2)).toList = (arrOf st').toList.map (·.2) := by simp
  have po : ((arrOf st').map (·.2)).toList.Perm its := by
    rw [ho]
    have z := p1.map Prod.snd
    rw [List.map_snd_zip (Nat.le_refl _)] at z
    exact z
  obtain ⟨ep, he'⟩ := PyProof.Rows.sortedAll_at s.heap its ((arrOf st').map (·.2))
  have h3 : ∀ u ∈ ((arrOf st').map (·.2)).toList, ∃ a, u = Value.ref a := fun u hu => e2 u (po.mem_iff.mp hu)
  have hpp : (((arrOf st').map (·.2)).toList.map bkV).Perm xs := by
    rw [e1]
    exact po.map bkV
  have hlen : (((arrOf st').map (·.2)).toList.map bkV).length ≤ sizeLine := by
    rw [hpp.length_eq]
    exact hz
  refine ⟨.ref _, upd H (s.heap.objs.size + 1) (.lst (((arrOf st').map (·.2)).toList.map bkV)), I.laid (t' := s.toks) (fun _ _ => PyProof.Rows.sortedAll_old) (Nat.le_succ _) ⟨hlen, ((arrOf st').map (·.2)).toList, ep, bkV_vals h3, by rw [Array.toArray_toList]; exact he'⟩, rfl, q _ _ hpp ?_ (I.hok.fresh (Nat.le_succ _))⟩
  rw [ho, List.map_map, List.pairwise_map, List.pairwise_iff_getElem]
  intro i j hi hj hij
  have hsz : (arrOf st').toList.length = (pairsOf its).size := by
    rw [p1.length_eq, ← pairsOf_toList, Array.length_toList]
  have z := hs' i j (Nat.le_of_lt hij) (by rw [← hsz]; exact hj)
  have kk : ∀ k (hk : k < (arrOf st').toList.length), KK (G.tupKindC s.heap shape) (arrOf st') k = kH H shape (bkV ((arrOf st').toList[k]).2) := fun k hk => by
    have hk2 : (arrOf st')[k]? = some ((arrOf st').toList[k]) := by
      rw [← Array.getElem?_toList, List.getElem?_eq_getElem hk]
    obtain ⟨g1, g2⟩ := m1 _ (List.getElem_mem hk)
    unfold KK
    rw [hk2]
    show (G.tupKeyC s.heap shape ((arrOf st').toList[k]).1).getD [] = _
    rw [hkk _ g2, g1]
    rfl
  rw [kk i hi, kk j hj] at z
  exact z
end
/-! ### rows behind a sort -/
section
variable {α : Type} {R : Hp → V → α → Prop} {H : Hp}
theorem lr_perm {ys xs : List V} (h : ys.Perm xs) : ∀ {l : List α}, LR R H xs l → ∃ l', l'.Perm l ∧ LR R H ys l' := by
  induction h with
  | nil => exact fun {l} h => ⟨l, .refl _, h⟩
  | @cons x a b _ ih =>
    intro l h
    cases l with
    | nil =>
      have := h.1
      cases this
    | cons y l =>
      obtain ⟨h1, h2⟩ := LR.cons_iff.mp h
      obtain ⟨l', p, q⟩ := ih h2
      exact ⟨y :: l', p.cons y, LR.cons_iff.mpr ⟨h1, q⟩⟩
  | swap x y a =>
    intro l h
    match l, h with
    | [], h =>
      have := h.1
      cases this
    | [_], h =>
      have := h.1
      cases this
    | u :: v :: l, h =>
      obtain ⟨h1, h2⟩ := LR.cons_iff.mp h
      obtain ⟨h3, h4⟩ := LR.cons_iff.mp h2
      exact ⟨v :: u :: l, .swap .., LR.cons_iff.mpr ⟨h3, LR.cons_iff.mpr ⟨h1, h4⟩⟩⟩
  | trans _ _ ih1 ih2 =>
    intro l h
    obtain ⟨l1, p1, q1⟩ := ih2 h
    obtain ⟨l2, p2, q2⟩ := ih1 q1
    exact ⟨l2, p2.trans p1, q2⟩
theorem lr_pw {ys : List V} {l : List α} {Pr : V → V → Prop} {Pr' : α → α → Prop} (h : ys.Pairwise Pr) (lr : LR R H ys l) (f : ∀ x e y g, R H x e → R H y g → Pr x y → Pr' e g) : l.Pairwise Pr' := by
  rw [List.pairwise_iff_getElem] at h ⊢
  intro i j hi hj hij
  have hi' : i < ys.length := by rw [lr.1]; exact hi
  have hj' : j < ys.length := by rw [lr.1]; exact hj
  exact f _ _ _ _ (lr.2 i _ _ (List.getElem?_eq_getElem hi') (List.getElem?_eq_getElem hi)) (lr.2 j _ _ (List.getElem?_eq_getElem hj') (List.getElem?_eq_getElem hj)) (h i j hi' hj' hij)
end
theorem lex_le {a b : Int} {r t : List (Int ⊕ List Nat)} (h : lexLt itemOrd (Sum.inl b :: t) (Sum.inl a :: r) = false) : a ≤ b ∧ (a = b → lexLt itemOrd t r = false) := by
  obtain ⟨h1, h2⟩ := lex_false.mp h
  have h1 : decide (b < a) = false := h1
  have h1 := of_decide_eq_false h1
  refine ⟨by omega, fun e => ?_⟩
  rcases h2 with h2 | h2
  · have h2 : decide (a < b) = true := h2
    have := of_decide_eq_true h2
    omega
  · exact h2
end K44

set_option Elab.async false
set_option linter.all false
set_option maxRecDepth 100000
set_option maxHeartbeats 4000000
namespace K44
open PySem PySem.Spec PyProof.Rows L2 NdefX LamX
theorem sq_rel {K : PySem.W.Frag} {T : List NTab} {H H' : Hp} {a : Addr} {xs : List V} (h : SqL K H a xs) (r : RelT T H H') : SqL K H' a xs := by
  rcases h with (h | ⟨o, h⟩) | h
  · exact .inl (.inl (r.lst h))
  · exact .inl (.inr ⟨o, r.1 _ _ h fun ps z => by cases z⟩)
  · exact .inr h
theorem tabs_relH {T : List NTab} {h : Addr} {H H' : Hp} (t : TabsN T H) (r : RelH h H H') (hh : HandAt H h) : TabsN T H' := fun p hp => by
  obtain ⟨a, b, ha, _⟩ := hh
  obtain ⟨ps, h1, h2, h3⟩ := t p hp
  refine ⟨ps, r.1 _ _ (fun z => by rw [z, ha] at h1; cases h1) h1, h2, fun pos cv hc => ?_⟩
  obtain ⟨c, e1, e2⟩ := h3 pos cv hc
  exact ⟨c, e1, r.1 _ _ (fun z => by rw [z, ha] at e2; cases e2) e2⟩
theorem RelT.hand {T : List NTab} {H0 H H' : Hp} {h : Addr} (a : RelT T H0 H) (n : H0 h = none) (hh : HandAt H h) (r : RelH h H H') : RelT T H0 H' :=
  ⟨fun b o e nt => r.1 _ _ (fun z => by rw [z, n] at e; cases e) (a.1 b o e nt), fun b e => a.2.1 b (r.2.1 b e), fun t => tabs_relH (a.2.2 t) r hh⟩
theorem HandAt.rel {T : List NTab} {H H' : Hp} {h : Addr} (hh : HandAt H h) (r : RelT T H H') : HandAt H' h := by
  obtain ⟨a, b, e, q⟩ := hh
  exact ⟨a, b, r.lst e, q⟩
theorem DblAt.rel {T : List NTab} {H H' : Hp} {p : Addr} {l : List (Nat × List Nat)} (d : DblAt H p l) (r : RelT T H H') : DblAt H' p l := by
  obtain ⟨xs, h1, h2⟩ := d
  exact ⟨xs, r.lst h1, h2.mono fun x y k => k.mono fun b ys e => r.tup e⟩
theorem PrsAt.rel {T : List NTab} {H H' : Hp} {p : Addr} {l : List (Nat × Nat × List Nat)} (d : PrsAt H p l) (r : RelT T H H') : PrsAt H' p l := by
  obtain ⟨xs, h1, h2⟩ := d
  exact ⟨xs, r.lst h1, h2.mono fun x y k => k.mono fun b ys e => r.tup e⟩
theorem DblAt.relH {h : Addr} {H H' : Hp} {p : Addr} {l : List (Nat × List Nat)} (d : DblAt H p l) (r : RelH h H H') (hh : HandAt H h) (n : p ≠ h) : DblAt H' p l := by
  obtain ⟨xs, h1, h2⟩ := d
  exact ⟨xs, r.1 _ _ n h1, h2.mono fun x y k => k.mono (r.tups hh)⟩
theorem PrsAt.relH {h : Addr} {H H' : Hp} {p : Addr} {l : List (Nat × Nat × List Nat)} (d : PrsAt H p l) (r : RelH h H H') (hh : HandAt H h) (n : p ≠ h) : PrsAt H' p l := by
  obtain ⟨xs, h1, h2⟩ := d
  exact ⟨xs, r.1 _ _ n h1, h2.mono fun x y k => k.mono (r.tups hh)⟩
def RT3 (H : Hp) (x : V) (e : Nat × Nat × Nat) : Prop := ∃ a, x = .ref a ∧ H a = some (.tup [nv e.1, nv e.2.1, nv e.2.2])
theorem RT3.mono {H H' : Hp} {x : V} {e : Nat × Nat × Nat} (h : RT3 H x e) (k : Tups H H') : RT3 H' x e := by
  obtain ⟨a, h1, h2⟩ := h
  exact ⟨a, h1, k _ _ h2⟩
theorem doubles_few {m : Mach} (ok : MOk m) : (doubles m).length ≤ 12 := Nat.le_trans (List.length_filterMap_le _ _) (useful_few ok)
theorem flat_len {α β : Type} {f : α → List β} {n : Nat} (h : ∀ x, (f x).length ≤ n) : ∀ l : List α, (l.flatMap f).length ≤ l.length * n
  | [] => by simp
  | x :: l => by
    rw [List.flatMap_cons, List.length_append, List.length_cons]
    have h1 := h x
    have h2 := flat_len h l
    rw [Nat.succ_mul]
    omega
theorem pairs_few {m : Mach} (ok : MOk m) : (pairs m).length ≤ 144 := by
  rw [pairs_eq]
  have h1 := flat_len (f := prR m) (n := 12) (fun x => Nat.le_trans (List.length_filterMap_le _ _) (useful_few ok)) (usefulL m)
  have h2 := useful_few ok
  omega
/-! ### as data -/
def p2D (e : Nat × Nat) : PyData := .tuple [.int e.1, .int e.2]
def p3D (e : Nat × Nat × Nat) : PyData := .tuple [.int e.1, .int e.2.1, .int e.2.2]
def dbD (e : Nat × List Nat) : PyData := .tuple [.int e.1, .str (txt e.2)]
def prD (e : Nat × Nat × List Nat) : PyData := .tuple [.int e.1, .int e.2.1, .str (txt e.2.2)]
theorem fit_txt {w : List Nat} (h : ∀ c ∈ w, c ≤ 122) : Fit (.str (txt w)) 0 := by
  refine ⟨?_, by simp [PyData.depth]⟩
  rw [PyData.canLay0]
  unfold PyData.strOk txt
  rw [Array.all_eq_true']
  intro c hc
  have hc : c ∈ w := by simpa using hc
  have := h c hc
  rw [decide_eq_true_iff]
  omega
theorem fit_l {α : Type} {f : α → PyData} {l : List α} (h : ∀ e ∈ l, Fit (f e) 1) : Fit (.list (l.map f)) 2 := Fit.list fun d hd => by
  obtain ⟨e, he, q⟩ := List.mem_map.mp hd
  rw [← q]
  exact h e he
theorem fit_p2 (e : Nat × Nat) : Fit (p2D e) 1 := Fit.tuple (n := 0) fun d hd => by
  simp only [List.mem_cons, List.not_mem_nil, or_false] at hd
  rcases hd with e | e <;> rw [e] <;> exact fit_int _
theorem fit_p3 (e : Nat × Nat × Nat) : Fit (p3D e) 1 := Fit.tuple (n := 0) fun d hd => by
  simp only [List.mem_cons, List.not_mem_nil, or_false] at hd
  rcases hd with e | e | e <;> rw [e] <;> exact fit_int _
theorem fit_db {e : Nat × List Nat} (h : ∀ c ∈ e.2, c ≤ 122) : Fit (dbD e) 1 := Fit.tuple (n := 0) fun d hd => by
  simp only [List.mem_cons, List.not_mem_nil, or_false] at hd
  rcases hd with e | e <;> rw [e]
  · exact fit_int _
  · exact fit_txt h
theorem fit_pr {e : Nat × Nat × List Nat} (h : ∀ c ∈ e.2.2, c ≤ 122) : Fit (prD e) 1 := Fit.tuple (n := 0) fun d hd => by
  simp only [List.mem_cons, List.not_mem_nil, or_false] at hd
  rcases hd with e | e | e <;> rw [e]
  · exact fit_int _
  · exact fit_int _
  · exact fit_txt h
section
variable {K : PySem.W.Frag} {H : Hp} {a : Addr} {xs : List V}
theorem dp_l {α : Type} {R : Hp → V → α → Prop} (f : α → PyData) {l : List α} (h : H a = some (.lst xs)) (lr : LR R H xs l) (d : ∀ x y, R H x y → Dp K H x (f y)) : Dp K H (.ref a) (.list (l.map f)) :=
  dp_list f h ⟨lr.1, fun i x y hx hy => d x y (lr.2 i x y hx hy)⟩
theorem dp_p2 {x : V} {e : Nat × Nat} (h : RP H x e) : Dp K H x (p2D e) := by
  obtain ⟨t, rfl, ht⟩ := h
  exact .tup (.inl (.inl ht)) (.cons (.int _) (.cons (.int _) .nil))
theorem dp_p3 {x : V} {e : Nat × Nat × Nat} (h : RT3 H x e) : Dp K H x (p3D e) := by
  obtain ⟨t, rfl, ht⟩ := h
  exact .tup (.inl (.inl ht)) (.cons (.int _) (.cons (.int _) (.cons (.int _) .nil)))
theorem dp_db {x : V} {e : Nat × List Nat} (h : RDb H x e) : Dp K H x (dbD e) := by
  obtain ⟨t, rfl, ht, _⟩ := h
  exact .tup (.inl (.inl ht)) (.cons (.int _) (.cons (.str _) .nil))
theorem dp_pr {x : V} {e : Nat × Nat × List Nat} (h : RPr H x e) : Dp K H x (prD e) := by
  obtain ⟨t, rfl, ht, _⟩ := h
  exact .tup (.inl (.inl ht)) (.cons (.int _) (.cons (.int _) (.cons (.str _) .nil)))
theorem ne_same {x y : V} {d : PyData} {n : Nat} {Q : VK} (hx : Dp K H x d) (hy : Dp K H y d) (f : Fit d n) (q : Q (.bl false) H) (l : n ≤ 64 := by decide) : rNeD K x y H Q :=
  ⟨d, d, hx, hy, f.shaped l, f.shaped l, by rw [f.refl]; exact q⟩
end
/-! ### behind the sorts -/
def shN : Nat → Bool := fun _ => false
def sh1 : Nat → Bool := fun i => i == 1
def sh2 : Nat → Bool := fun i => i == 2
section
variable {H : Hp} {ys xs : List V}
theorem sorted3 {l : List (Nat × Nat × Nat)} (lr : LR RT3 H xs l) (p : ys.Perm xs) (pw : ys.Pairwise fun x y => lexLt itemOrd (kH H shN y) (kH H shN x) = false) : ∃ S, S.Perm l ∧ S.Pairwise leB ∧ LR RT3 H ys S := by
  obtain ⟨S, h1, h2⟩ := lr_perm p lr
  refine ⟨S, h1, lr_pw pw h2 fun x e y g hx hy h => ?_, h2⟩
  obtain ⟨t1, rfl, e1⟩ := hx
  obtain ⟨t2, rfl, e2⟩ := hy
  rw [kH_at (l := [Sum.inl (e.1 : Int), Sum.inl (e.2.1 : Int), Sum.inl (e.2.2 : Int)]) e1 rfl, kH_at (l := [Sum.inl (g.1 : Int), Sum.inl (g.2.1 : Int), Sum.inl (g.2.2 : Int)]) e2 rfl] at h
  obtain ⟨k1, k2⟩ := lex_le h
  unfold leB
  by_cases c : e.1 = g.1
  · obtain ⟨k3, _⟩ := lex_le (k2 (by omega))
    exact .inr ⟨c, by omega⟩
  · exact .inl (by omega)
theorem sortedD {l : List (Nat × List Nat)} (lr : LR RDb H xs l) (p : ys.Perm xs) (pw : ys.Pairwise fun x y => lexLt itemOrd (kH H sh1 y) (kH H sh1 x) = false) : ∃ S, S.Perm l ∧ S.Pairwise (fun a b => a.1 ≤ b.1) ∧ LR RDb H ys S := by
  obtain ⟨S, h1, h2⟩ := lr_perm p lr
  refine ⟨S, h1, lr_pw pw h2 fun x e y g hx hy h => ?_, h2⟩
  obtain ⟨t1, rfl, e1, _⟩ := hx
  obtain ⟨t2, rfl, e2, _⟩ := hy
  rw [kH_at (l := [Sum.inl (e.1 : Int), Sum.inr (txt e.2).cps.toList]) e1 rfl, kH_at (l := [Sum.inl (g.1 : Int), Sum.inr (txt g.2).cps.toList]) e2 rfl] at h
  have := (lex_le h).1
  omega
theorem sortedP {l : List (Nat × Nat × List Nat)} (lr : LR RPr H xs l) (p : ys.Perm xs) (pw : ys.Pairwise fun x y => lexLt itemOrd (kH H sh2 y) (kH H sh2 x) = false) : ∃ S, S.Perm l ∧ S.Pairwise leB ∧ LR RPr H ys S := by
  obtain ⟨S, h1, h2⟩ := lr_perm p lr
  refine ⟨S, h1, lr_pw pw h2 fun x e y g hx hy h => ?_, h2⟩
  obtain ⟨t1, rfl, e1, _⟩ := hx
  obtain ⟨t2, rfl, e2, _⟩ := hy
  rw [kH_at (l := [Sum.inl (e.1 : Int), Sum.inl (e.2.1 : Int), Sum.inr (txt e.2.2).cps.toList]) e1 rfl, kH_at (l := [Sum.inl (g.1 : Int), Sum.inl (g.2.1 : Int), Sum.inr (txt g.2.2).cps.toList]) e2 rfl] at h
  obtain ⟨k1, k2⟩ := lex_le h
  unfold leB
  by_cases c : e.1 = g.1
  · obtain ⟨k3, _⟩ := lex_le (k2 (by omega))
    exact .inr ⟨c, by omega⟩
  · exact .inl (by omega)
/-- all of a row's values are such tuples -/
theorem lr_all {α : Type} {R : Hp → V → α → Prop} {l : List α} (lr : LR R H xs l) {x : V} (h : x ∈ xs) : ∃ y ∈ l, R H x y := by
  obtain ⟨i, hi⟩ := List.mem_iff_getElem?.mp h
  obtain ⟨y, hy, r⟩ := lr.at hi
  exact ⟨y, List.mem_of_getElem? hy, r⟩
end
def rLn (K : PySem.W.Frag) : List V → Hp → VK → Prop := fun xs H Q => ∃ x n, xs = [x] ∧ LenV K x H n ∧ Q (.int n) H
theorem c_len {X : Cx} : CallR X (.builtin "len") (rLn X.K) := call_len
theorem ex_at (r : Nat) (h : r < 2) : ∃ ex : Nat, ex ≤ 9 ∧ ([V.int 4, V.int 9] : List V)[r]? = some (nv ex) := by
  match r, h with
  | 0, _ => exact ⟨4, by decide, rfl⟩
  | 1, _ => exact ⟨9, by decide, rfl⟩
end K44

set_option Elab.async false
set_option linter.all false
set_option maxRecDepth 100000
set_option maxHeartbeats 16000000
namespace K44
open PySem PySem.Spec PyProof.Rows L2 NdefX LamX
section
variable {P : Program} {w : World} {K : PySem.W.Frag} {mg : Str → Option Value} {base : Heap} {T0 : List NTab}
def sp_law (K : PySem.W.Frag) (T0 : List NTab) : Sp := fun vs H Q _ => ∃ (a : Addr) (ns : List Int), vs = [.ref a] ∧ SqL K H a (ns.map V.int) ∧ TabsN T0 H ∧ ∀ H', Q (.bl true) H'
theorem fn_mk {x : Str} {st : Stmt} {N ps : List Str} {k : Nat} {sp : Sp} {f : Addr} {fd : FuncData} (F : FnP K x st f fd) (S : FnScope N ps (defScope st)) (len : ∀ vs H Q E, sp vs H Q E → vs.length = ps.length)
    (hb : ∀ (f : Addr) (cdv : Value) (A : Around) (outer : List Env) (s : Shared) (H : Hp) (vs : List V) (Q : VK) (E : XK), Room k (A.deeper (envOfC x (defScope st) s.heap.objs.size f cdv)) → sp vs H Q E →
      ∃ t, PSs (cxOf CX0 P w K mg base N x (defScope st) f cdv A outer s H E).nox (defBody st) t ∧ t { nx := fun _ H' => Q .non H', rt := Q } (start N vs) H) : FnOk P w K mg base CX0 (k + 1) f fd ps sp :=
  F.ok S len fun cdv A outer s H vs Q E hr hs => let ⟨t, h1, h2⟩ := hb f cdv A outer s H vs Q E hr hs; ⟨t, h1.nox, h2⟩
theorem ok_law (T : Txt mg) {fl : Addr} {fdl : FuncData} (F : FnP K "law" s_law fl fdl)
    (CH : Cal P w K mg base 8 "_law_hand" ["_law_script", "_law_k"] (sp_hand (K := K)))
    (CD : Cal P w K mg base 8 "_law_draw" ["_law_hand_here", "_law_size"] sp_draw)
    (CLt : Cal P w K mg base 8 "_law_letters" ["_law_hand_here"] sp_letters)
    (CM : Cal P w K mg base 8 "_law_machine" ["_law_hand_here", "_law_upto", "_law_extra", "_law_letters_here"] sp_machine)
    (CDR : Cal P w K mg base 8 "double_rounds" ["machine"] (sp_double_rounds T0))
    (CLR : Cal P w K mg base 8 "led_rounds" ["machine"] (sp_led_rounds T0))
    (CG : Cal P w K mg base 8 "_law_grows" ["_law_machine_here", "_law_doubles", "_law_pairs"] sp_grows)
    (CT : Cal P w K mg base 8 "turned" ["machine"] sp_turned)
    (CO : Cal P w K mg base 8 "_law_order" ["_law_hand_here", "_law_many"] sp_order)
    (CC : Cal P w K mg base 8 "called" ["machine", "rooms"] sp_called) : FnOk P w K mg base CX0 9 fl fdl ["_law_script"] (sp_law K T0) := by
  refine fn_mk F s_law_sc (fun vs H Q E h => ?_) (fun f cdv A outer s H vs Q E hr h => ?_)
  · obtain ⟨_, _, rfl, _⟩ := h
    rfl
  · obtain ⟨a, ns, rfl, hS, hT, q⟩ := h
    have nd := s_law_sc.nd
    refine ⟨_, pss_cons (ps_for PassesOwn.never rfl (pi_range1 (by rfl) T.range (pa_cons (pe_callB (call_max2 rfl) (by rfl) T.max (by decide +kernel) (pa_cons pe_int (pa_cons (pe_callB (call_min2 rfl) (by rfl) T.min (by decide +kernel) (pa_cons (pe_callB call_len (by rfl) T.len (by decide +kernel) (pa_cons (pv 0) pa_nil)) (pa_cons pe_int pa_nil))) pa_nil))) pa_nil)) (pg_name (i := 1) nd rfl (.inl rfl))
        (pss_cons (ps_set (i := 2) nd rfl (.inl rfl) (pe_cal CH hr (pa_cons (pv 0) (pa_cons (pv 1) pa_nil))))
        (pss_cons (ps_set (i := 3) nd rfl (.inl rfl) (pe_cal CM hr (pa_cons (pv 2) (pa_cons pe_int (pa_cons (pe_ix ix_list (pe_lst (pa_cons pe_int (pa_cons pe_int pa_nil))) (pe_cal CD hr (pa_cons (pv 2) (pa_cons pe_int pa_nil))) (fun _ _ => rfl)) (pa_cons (pe_cal CLt hr (pa_cons (pv 2) pa_nil)) pa_nil))))))
        (pss_cons (ps_set (i := 4) nd rfl (.inl rfl) (pe_cal CDR hr (pa_cons (pv 3) pa_nil)))
        (pss_cons (ps_set (i := 5) nd rfl (.inl rfl) (pe_cal CLR hr (pa_cons (pv 3) pa_nil)))
        (pss_cons (ps_if (pt_not (pt_val (pe_cal CG hr (pa_cons (pv 3) (pa_cons (pv 4) (pa_cons (pv 5) pa_nil)))))) (pss_one ps_never) pss_nil)
        (pss_cons (ps_set (i := 6) nd rfl (.inl rfl) (pe_cal CT hr (pa_cons (pv 3) pa_nil)))
        (pss_cons (ps_if (pt_cmpR (op_neD hr.units) (pe_lc (own := [("_law_room", 10), ("_law_word_here", 11)]) (g := gTup K 2 (gCons (gName 10) (gCons (gName 11) gNil))) (tt := tYes) rfl nd (pi_list (pe_cal CDR hr (pa_cons (pv 6) pa_nil))) (blkOk_by (N := s_law_N) (sc := defScope s_law) (by decide +kernel)) (fun _ _ _ _ _ => pg_tup rfl (pgs_cons (pg_name (i := 10) nd rfl (.inl rfl)) (pgs_cons (pg_name (i := 11) nd rfl (.inl rfl)) pgs_nil))) (fun _ _ _ _ _ => pts_nil) (fun _ _ _ _ _ => pe_tup (pa_cons (pv 10) (pa_cons (pe_callB (id := "len") (r := rLn K) c_len (by rfl) T.len (by decide +kernel) (pa_cons (pv 11) pa_nil)) pa_nil)))) (pe_lc (own := [("_law_room", 10), ("_law_word_here", 11)]) (g := gTup K 2 (gCons (gName 10) (gCons (gName 11) gNil))) (tt := tYes) rfl nd (pi_list (pv 4)) (blkOk_by (N := s_law_N) (sc := defScope s_law) (by decide +kernel)) (fun _ _ _ _ _ => pg_tup rfl (pgs_cons (pg_name (i := 10) nd rfl (.inl rfl)) (pgs_cons (pg_name (i := 11) nd rfl (.inl rfl)) pgs_nil))) (fun _ _ _ _ _ => pts_nil) (fun _ _ _ _ _ => pe_tup (pa_cons (pv 10) (pa_cons (pe_callB (id := "len") (r := rLn K) c_len (by rfl) T.len (by decide +kernel) (pa_cons (pv 11) pa_nil)) pa_nil)))) (nomark _)) (pss_one ps_never) pss_nil)
        (pss_cons (ps_set (i := 7) nd rfl (.inl rfl) (pe_callB (cr_sortG (shape := shN)) (by rfl) T.sorted (by decide +kernel) (pa_cons (pe_lc (own := [("_law_room", 10), ("_law_other", 12), ("_law_word_here", 11)]) (g := gTup K 3 (gCons (gName 10) (gCons (gName 12) (gCons (gName 11) gNil)))) (tt := tYes) rfl nd (pi_list (pv 5)) (blkOk_by (N := s_law_N) (sc := defScope s_law) (by decide +kernel)) (fun _ _ _ _ _ => pg_tup rfl (pgs_cons (pg_name (i := 10) nd rfl (.inl rfl)) (pgs_cons (pg_name (i := 12) nd rfl (.inl rfl)) (pgs_cons (pg_name (i := 11) nd rfl (.inl rfl)) pgs_nil)))) (fun _ _ _ _ _ => pts_nil) (fun _ _ _ _ _ => pe_tup (pa_cons (pv 12) (pa_cons (pv 10) (pa_cons (pe_callB (id := "len") (r := rLn K) c_len (by rfl) T.len (by decide +kernel) (pa_cons (pv 11) pa_nil)) pa_nil))))) pa_nil)))
        (pss_cons (ps_if (pt_cmpR (op_neD hr.units) (pe_lc (own := [("_law_room", 10), ("_law_other", 12), ("_law_word_here", 11)]) (g := gTup K 3 (gCons (gName 10) (gCons (gName 12) (gCons (gName 11) gNil)))) (tt := tYes) rfl nd (pi_list (pe_cal CLR hr (pa_cons (pv 6) pa_nil))) (blkOk_by (N := s_law_N) (sc := defScope s_law) (by decide +kernel)) (fun _ _ _ _ _ => pg_tup rfl (pgs_cons (pg_name (i := 10) nd rfl (.inl rfl)) (pgs_cons (pg_name (i := 12) nd rfl (.inl rfl)) (pgs_cons (pg_name (i := 11) nd rfl (.inl rfl)) pgs_nil)))) (fun _ _ _ _ _ => pts_nil) (fun _ _ _ _ _ => pe_tup (pa_cons (pv 10) (pa_cons (pv 12) (pa_cons (pe_callB (id := "len") (r := rLn K) c_len (by rfl) T.len (by decide +kernel) (pa_cons (pv 11) pa_nil)) pa_nil))))) (pv 7) (nomark _)) (pss_one ps_never) pss_nil)
        (pss_cons (ps_set (i := 8) nd rfl (.inr rfl) (pe_cal CO hr (pa_cons (pv 2) (pa_cons (pe_ix ix_tup (pv 3) pe_int (fun _ _ => rfl)) pa_nil))))
        (pss_cons (ps_set (i := 9) nd rfl (.inl rfl) (pe_cal CC hr (pa_cons (pv 3) (pa_cons (pv 8) pa_nil))))
        (pss_cons (ps_if (pt_cmpR (op_neD hr.units) (pe_cal CDR hr (pa_cons (pv 9) pa_nil)) (pe_callB (cr_sortG (shape := sh1)) (by rfl) T.sorted (by decide +kernel) (pa_cons (pe_lc (own := [("_law_room", 10), ("_law_word_here", 11)]) (g := gTup K 2 (gCons (gName 10) (gCons (gName 11) gNil))) (tt := tYes) rfl nd (pi_list (pv 4)) (blkOk_by (N := s_law_N) (sc := defScope s_law) (by decide +kernel)) (fun _ _ _ _ _ => pg_tup rfl (pgs_cons (pg_name (i := 10) nd rfl (.inl rfl)) (pgs_cons (pg_name (i := 11) nd rfl (.inl rfl)) pgs_nil))) (fun _ _ _ _ _ => pts_nil) (fun _ _ _ _ _ => pe_tup (pa_cons (pe_ix (r := rIxL K) ix_list (pv 8) (pv 10) (fun _ _ => rfl)) (pa_cons (pv 11) pa_nil)))) pa_nil)) (nomark _)) (pss_one ps_never) pss_nil)
        (pss_one (ps_if (pt_cmpR (op_neD hr.units) (pe_cal CLR hr (pa_cons (pv 9) pa_nil)) (pe_callB (cr_sortG (shape := sh2)) (by rfl) T.sorted (by decide +kernel) (pa_cons (pe_lc (own := [("_law_room", 10), ("_law_other", 12), ("_law_word_here", 11)]) (g := gTup K 3 (gCons (gName 10) (gCons (gName 12) (gCons (gName 11) gNil)))) (tt := tYes) rfl nd (pi_list (pv 5)) (blkOk_by (N := s_law_N) (sc := defScope s_law) (by decide +kernel)) (fun _ _ _ _ _ => pg_tup rfl (pgs_cons (pg_name (i := 10) nd rfl (.inl rfl)) (pgs_cons (pg_name (i := 12) nd rfl (.inl rfl)) (pgs_cons (pg_name (i := 11) nd rfl (.inl rfl)) pgs_nil)))) (fun _ _ _ _ _ => pts_nil) (fun _ _ _ _ _ => pe_tup (pa_cons (pe_ix (r := rIxL K) ix_list (pv 8) (pv 10) (fun _ _ => rfl)) (pa_cons (pe_ix (r := rIxL K) ix_list (pv 8) (pv 12) (fun _ _ => rfl)) (pa_cons (pv 11) pa_nil))))) pa_nil)) (nomark _)) (pss_one ps_never) pss_nil)))))))))))))))
      (pss_one (ps_ret pe_bl)), ?_⟩
    refine ⟨_, rfl, _, ns.length, rfl, .inl ⟨_, hS, (List.length_map _).symm⟩, _, 6, rfl, 1, _, rfl, _, rfl, ?_, ?_, ?_⟩
    · split <;> split <;> omega
    · split <;> split <;> omega
    refine for_it walk_range (fun i σ H' => (∃ y1 y2 y3 y4 y5 y6 y7 y8 y9 y10 y11 y12, σ = [some (.ref a), y1, y2, y3, y4, y5, y6, y7, y8, y9, y10, y11, y12]) ∧ RelT T0 H H') ⟨⟨_, _, _, _, _, _, _, _, _, _, _, _, rfl⟩, .of (Same.refl _)⟩ (fun _ _ _ _ _ => trivial) (fun i x σ Ha Ha' hi ⟨⟨y1, y2, y3, y4, y5, y6, y7, y8, y9, y10, y11, y12, e⟩, ra⟩ y => ?_) (fun σ Ha ⟨_, ra⟩ => q Ha)
    subst e
    obtain ⟨rfl, rfl⟩ := y
    have hi6 : i < 6 := by
      refine Nat.lt_of_lt_of_le hi ?_
      split <;> split <;> omega
    clear hi
    have ei : V.int (0 + (i : Int)) = nv i := by rw [Int.zero_add]; rfl
    show gName 1 (V.int (0 + (i : Int))) _ _ _
    rw [ei]
    -- the hand
    refine ⟨_, rfl, _, rfl, a, ns, i, rfl, sq_rel hS ra, by omega, fun Hb h sb nh hhb => ?_⟩
    have n0 : H h = none := ra.2.1 _ nh
    have rb : RelT T0 H Hb := ra.trans (.of sb)
    -- the machine
    refine ⟨_, rfl, by show 2 ≤ sizeLine; decide, fun p0 hp0 => ?_⟩
    have s1 : Same Hb (upd Hb p0 (.lst [V.int 4, V.int 9])) := same_new hp0
    have e1 : (upd Hb p0 (.lst [V.int 4, V.int 9])) p0 = some (.lst [V.int 4, V.int 9]) := upd_same
    have hh1 := (RelH.of (h := h) s1).2.2 hhb
    refine ⟨_, rfl, h, 2, rfl, by decide, by decide, hh1, fun Hc r hr2 rc => ?_⟩
    obtain ⟨ex, ex9, exr⟩ := ex_at r hr2
    refine ⟨p0, _, r, nv ex, rfl, rfl, .inl (.inl (rc.1 _ _ (hand_ne hhb hp0) e1)), atI_nat (j := r) exr, ?_⟩
    have hhc := rc.2.2 hh1
    refine ⟨_, rfl, h, rfl, hhc, fun Hd ls okl rd => ?_⟩
    have hhd := rd.2.2 hhc
    refine ⟨h, 6, ex, ls, rfl, by decide, by decide, ex9, okl, hhd, fun He v m t fa la sa re M ok m6 nfa nla nsa => ?_⟩
    have hhe := re.2.2 hhd
    have ev := M.v
    subst ev
    have rele : RelT T0 H He := (rb.trans (.of s1)).hand n0 hh1 (rc.trans (rd.trans re))
    have nfh := hand_ne hhd nfa
    have nlh := hand_ne hhd nla
    have nsh := hand_ne hhd nsa
    clear e1 exr rc rd re s1 hh1 hhc hhd nfa nla nsa rb ra
    have few1 := doubles_few ok
    have few2 := pairs_few ok
    have okB := turn_ok ok
    -- its doubles, its pairs
    refine ⟨_, rfl, .ref t, m, t, fa, la, sa, rfl, M, ok, rele.2.2 hT, fun Hf pd rf npd hD => ?_⟩
    have relf := rele.trans rf
    refine ⟨_, rfl, .ref t, m, t, fa, la, sa, rfl, M.rel rf, ok, relf.2.2 hT, fun Hg pp rg npp hP => ?_⟩
    have relg := relf.trans rg
    have Mg := (M.rel rf).rel rg
    have hDg := hD.rel rg
    have npdh := hand_ne hhe npd
    have npph := hand_ne (hhe.rel rf) npp
    have hhg := (hhe.rel rf).rel rg
    refine ⟨_, rfl, _, rfl, _, rfl, .ref t, m, t, fa, la, sa, pd, pp, rfl, Mg, ok, hDg, hP, fun Hh sh => ⟨true, rfl, iteF ?_⟩⟩
    have rgh : RelT T0 Hg Hh := .of sh
    have Mh := Mg.rel rgh
    have hDh := hDg.rel rgh
    have hPh := hP.rel rgh
    have relh := relg.trans rgh
    have hhh := hhg.rel rgh
    clear hD hDg hP Mg M rf rg rgh sh relf relg rele hhg npd npp
    -- turned
    refine ⟨_, rfl, .ref t, m, t, fa, la, sa, rfl, Mh, ok, fun Hi v2 t2 fa2 la2 sa2 si M2 => ?_⟩
    have rhi : RelT T0 Hh Hi := .of si
    have reli := relh.trans rhi
    refine ⟨_, rfl, v2, turnM m, t2, fa2, la2, sa2, rfl, M2, okB, reli.2.2 hT, fun Hj pd2 rj npd2 hD2 => ?_⟩
    have rhj := rhi.trans rj
    obtain ⟨xs2, hx2, lr2⟩ := hD2
    refine ⟨pd2, rfl, ⟨xs2, .inl (.inl hx2)⟩, fun D1 hD1 => ?_⟩
    refine lc_map (R := RP) grow_same (fun _ _ _ _ e h => h.mono e) lr2 (fun e => (e.1, e.2.length)) (small1000 (by have := doubles_few okB; omega)) hD1 (fun H' sm => .inl (.inl (sm _ _ hx2))) (fun i x y H5 Ka ey ry sm ka => ?_) (fun Hk acc1 sk hA1 lr1 => ?_) (mono_tup (mono_cons (mono_name 10) (mono_cons (mono_name 11) mono_nil)))
    · obtain ⟨b, rfl, hb, len⟩ := ry
      refine ⟨b, _, rfl, .inl (.inl (sm _ _ hb)), rfl, _, _, rfl, _, _, rfl, rfl, rfl, ?_⟩
      refine ⟨_, rfl, _, rfl, _, y.2.length, rfl, ⟨by rw [txt_len]; exact Nat.le_trans len (by decide), (txt_len _).symm⟩, by show 2 ≤ sizeLine; decide, fun p hp => ?_⟩
      exact ka _ _ ⟨p, rfl, upd_same⟩ (same_new hp)
    have rhk := rhj.trans (.of sk)
    obtain ⟨xd, hxd, lrd⟩ := hDh.rel rhk
    refine ⟨_, rfl, pd, rfl, ⟨xd, .inl (.inl hxd)⟩, fun D2 hD2' => ?_⟩
    refine lc_map (R := RP) grow_same (fun _ _ _ _ e h => h.mono e) lrd (fun e => (e.1, e.2.length)) (small1000 (by omega)) hD2' (fun H' sm => .inl (.inl (sm _ _ hxd))) (fun i x y H5 Ka ey ry sm ka => ?_) (fun Hl acc2 sl hA2 lr2' => ?_) (mono_tup (mono_cons (mono_name 10) (mono_cons (mono_name 11) mono_nil)))
    · obtain ⟨b, rfl, hb, len⟩ := ry
      refine ⟨b, _, rfl, .inl (.inl (sm _ _ hb)), rfl, _, _, rfl, _, _, rfl, rfl, rfl, ?_⟩
      refine ⟨_, rfl, _, rfl, _, y.2.length, rfl, ⟨by rw [txt_len]; exact Nat.le_trans len (by decide), (txt_len _).symm⟩, by show 2 ≤ sizeLine; decide, fun p hp => ?_⟩
      exact ka _ _ ⟨p, rfl, upd_same⟩ (same_new hp)
    rw [turn_doubles ok] at lr1
    refine ne_same (dp_l p2D (sl _ _ hA1) (lr1.mono fun x y k => k.mono (Same.tups sl)) fun _ _ => dp_p2) (dp_l p2D hA2 lr2' fun _ _ => dp_p2) (fit_l fun e _ => fit_p2 e) ⟨false, rfl, iteF ?_⟩
    have rhl := rhk.trans (.of sl)
    -- due
    obtain ⟨xp, hxp, lrp⟩ := hPh.rel rhl
    refine ⟨_, rfl, pp, rfl, ⟨xp, .inl (.inl hxp)⟩, fun D3 hD3 => ?_⟩
    refine lc_map (R := RT3) grow_same (fun _ _ _ _ e h => h.mono e) lrp (fun e => (e.2.1, e.1, e.2.2.length)) (small1000 (by omega)) hD3 (fun H' sm => .inl (.inl (sm _ _ hxp))) (fun i x y H5 Ka ey ry sm ka => ?_) (fun Hm acc3 sm3 hA3 lr3 => ?_) (mono_tup (mono_cons (mono_name 10) (mono_cons (mono_name 12) (mono_cons (mono_name 11) mono_nil))))
    · obtain ⟨b, rfl, hb, len⟩ := ry
      refine ⟨b, _, rfl, .inl (.inl (sm _ _ hb)), rfl, _, _, rfl, _, _, rfl, _, _, rfl, rfl, rfl, ?_⟩
      refine ⟨_, rfl, _, rfl, _, rfl, _, y.2.2.length, rfl, ⟨by rw [txt_len]; exact Nat.le_trans len (by decide), (txt_len _).symm⟩, by show 3 ≤ sizeLine; decide, fun p hp => ?_⟩
      exact ka _ _ ⟨p, rfl, upd_same⟩ (same_new hp)
    have rhm := rhl.trans (.of sm3)
    refine ⟨D3, acc3, rfl, .inl (.inl hA3), fun x hx => ?_, fun ys3 ps3 py3 pw3 hps3 => ?_⟩
    · obtain ⟨y, _, b, rfl, hb⟩ := lr_all lr3 hx
      exact ⟨b, _, _, rfl, hb, (fun z => by cases z), rfl⟩
    obtain ⟨S3, pS3, wS3, lS3⟩ := sorted3 lr3 py3 pw3
    have sn : Same Hm (upd Hm ps3 (.lst ys3)) := same_new hps3
    have en : (upd Hm ps3 (.lst ys3)) ps3 = some (.lst ys3) := upd_same
    have lS3n : LR RT3 (upd Hm ps3 (.lst ys3)) ys3 S3 := lS3.mono fun x y k => k.mono (Same.tups sn)
    generalize upd Hm ps3 (.lst ys3) = Hn at sn en lS3n ⊢
    have rin : RelT T0 Hi Hn := rj.trans (.of (sk.trans (sl.trans (sm3.trans sn))))
    refine ⟨_, rfl, v2, turnM m, t2, fa2, la2, sa2, rfl, M2.rel rin, okB, (reli.trans rin).2.2 hT, fun Ho pp2 ro npp2 hP2 => ?_⟩
    obtain ⟨xs3, hx3, lrx3⟩ := hP2
    refine ⟨pp2, rfl, ⟨xs3, .inl (.inl hx3)⟩, fun D4 hD4 => ?_⟩
    refine lc_map (R := RT3) grow_same (fun _ _ _ _ e h => h.mono e) lrx3 (fun e => (e.1, e.2.1, e.2.2.length)) (small1000 (by have := pairs_few okB; omega)) hD4 (fun H' sm => .inl (.inl (sm _ _ hx3))) (fun i x y H5 Ka ey ry sm ka => ?_) (fun Hp acc4 sp hA4 lr4 => ?_) (mono_tup (mono_cons (mono_name 10) (mono_cons (mono_name 12) (mono_cons (mono_name 11) mono_nil))))
    · obtain ⟨b, rfl, hb, len⟩ := ry
      refine ⟨b, _, rfl, .inl (.inl (sm _ _ hb)), rfl, _, _, rfl, _, _, rfl, _, _, rfl, rfl, rfl, ?_⟩
      refine ⟨_, rfl, _, rfl, _, rfl, _, y.2.2.length, rfl, ⟨by rw [txt_len]; exact Nat.le_trans len (by decide), (txt_len _).symm⟩, by show 3 ≤ sizeLine; decide, fun p hp => ?_⟩
      exact ka _ _ ⟨p, rfl, upd_same⟩ (same_new hp)
    rw [turn_pairs ok pS3 wS3] at lr4
    have ron := ro.trans (.of sp)
    refine ⟨_, rfl, ne_same (dp_l p3D hA4 lr4 fun _ _ => dp_p3) (dp_l p3D (ron.lst en) (lS3n.mono fun x y k => k.mono fun b ys e => ron.tup e) fun _ _ => dp_p3) (fit_l fun e _ => fit_p3 e) ⟨false, rfl, iteF ?_⟩⟩
    -- called
    have rhp : RelT T0 Hh Hp := rhi.trans (rin.trans ron)
    have relp := relh.trans rhp
    have Mp := Mh.rel rhp
    have hhp := hhh.rel rhp
    refine ⟨_, rfl, _, rfl, t, _, 0, nv m.many, rfl, rfl, .inl (.inl Mp.t), atI_nat (j := 0) rfl, h, m.many, rfl, ok.top, hhp, fun Hq o L rq no hL pm => ?_⟩
    have Mq := Mp.relH rq hhp nfh nlh nsh
    have relq := relp.hand n0 hhp rq
    have hDq := (hDh.rel rhp).relH rq hhp npdh
    have hPq := (hPh.rel rhp).relH rq hhp npph
    refine ⟨_, rfl, _, rfl, .ref t, m, t, fa, la, sa, o, L, rfl, Mq, ok, hL, pm, fun Hr v3 t3 fa3 la3 sa3 sr M3 => ?_⟩
    have okC := call_ok pm ok
    have rqr : RelT T0 Hq Hr := .of sr
    refine ⟨_, rfl, v3, callM m L, t3, fa3, la3, sa3, rfl, M3, okC, (relq.trans rqr).2.2 hT, fun Hs pd3 rs npd3 hD3' => ?_⟩
    have rqs := rqr.trans rs
    obtain ⟨xd5, hxd5, lrd5⟩ := hDq.rel rqs
    have hL5 : IntsAt Hs o L := rqs.lst hL
    refine ⟨_, rfl, pd, rfl, ⟨xd5, .inl (.inl hxd5)⟩, fun D5 hD5 => ?_⟩
    refine lc_map (R := RDb) grow_same (fun _ _ _ _ e h => h.mono e) lrd5 (fun e => (piN L e.1, e.2)) (small1000 (by omega)) hD5 (fun H' sm => .inl (.inl (sm _ _ hxd5))) (fun i x y H5 Ka ey ry sm ka => ?_) (fun Ht acc5 st hA5 lr5 => ?_) (mono_tup (mono_cons (mono_name 10) (mono_cons (mono_name 11) mono_nil)))
    · obtain ⟨b, rfl, hb, len⟩ := ry
      have f1 := (dbl_facts ok (List.mem_of_getElem? ey)).1
      refine ⟨b, _, rfl, .inl (.inl (sm _ _ hb)), rfl, _, _, rfl, _, _, rfl, rfl, rfl, ?_⟩
      refine ⟨_, rfl, _, rfl, o, _, y.1, nv (piN L y.1), rfl, rfl, .inl (.inl (sm _ _ hL5)), atI_nat (j := y.1) (by rw [List.getElem?_map, pi_at pm f1]; rfl), _, rfl, by show 2 ≤ sizeLine; decide, fun p hp => ?_⟩
      exact ka _ _ ⟨p, rfl, upd_same, len⟩ (same_new hp)
    refine ⟨D5, acc5, rfl, .inl (.inl hA5), fun x hx => ?_, fun ys5 ps5 py5 pw5 hps5 => ?_⟩
    · obtain ⟨y, _, b, rfl, hb, _⟩ := lr_all lr5 hx
      exact ⟨b, _, _, rfl, hb, (fun z => by cases z), rfl⟩
    obtain ⟨S5, pS5, wS5, lS5⟩ := sortedD lr5 py5 pw5
    have e5 := call_doubles pm ok pS5 wS5
    have su : Same Ht (upd Ht ps5 (.lst ys5)) := same_new hps5
    have eu : (upd Ht ps5 (.lst ys5)) ps5 = some (.lst ys5) := upd_same
    have lS5u : LR RDb (upd Ht ps5 (.lst ys5)) ys5 S5 := lS5.mono fun x y k => k.mono (Same.tups su)
    generalize upd Ht ps5 (.lst ys5) = Hu at su eu lS5u ⊢
    have rsu : RelT T0 Hs Hu := .of (st.trans su)
    rw [← e5] at lS5u
    obtain ⟨xd6, hxd6, lrd6⟩ := hD3'.rel rsu
    refine ne_same (dp_l dbD hxd6 lrd6 fun _ _ => dp_db) (dp_l dbD eu lS5u fun _ _ => dp_db) (fit_l fun e he => fit_db fun c hc => ((dbl_facts okC he).2.1 c hc).2) ⟨false, rfl, iteF ?_⟩
    have rqu := rqs.trans rsu
    have rru : RelT T0 Hr Hu := rs.trans rsu
    refine ⟨_, rfl, v3, callM m L, t3, fa3, la3, sa3, rfl, M3.rel rru, okC, (relq.trans rqu).2.2 hT, fun Hv pp3 rv npp3 hP3 => ?_⟩
    have rqv := rqu.trans rv
    obtain ⟨xp7, hxp7, lrp7⟩ := hPq.rel rqv
    have hL7 : IntsAt Hv o L := rqv.lst hL
    refine ⟨_, rfl, pp, rfl, ⟨xp7, .inl (.inl hxp7)⟩, fun D7 hD7 => ?_⟩
    refine lc_map (R := RPr) grow_same (fun _ _ _ _ e h => h.mono e) lrp7 (fun e => (piN L e.1, piN L e.2.1, e.2.2)) (small1000 (by omega)) hD7 (fun H' sm => .inl (.inl (sm _ _ hxp7))) (fun i x y H5 Ka ey ry sm ka => ?_) (fun Hw acc7 sw hA7 lr7 => ?_) (mono_tup (mono_cons (mono_name 10) (mono_cons (mono_name 12) (mono_cons (mono_name 11) mono_nil))))
    · obtain ⟨b, rfl, hb, len⟩ := ry
      have f1 := prs_facts ok (List.mem_of_getElem? ey)
      refine ⟨b, _, rfl, .inl (.inl (sm _ _ hb)), rfl, _, _, rfl, _, _, rfl, _, _, rfl, rfl, rfl, ?_⟩
      refine ⟨_, rfl, _, rfl, o, _, y.1, nv (piN L y.1), rfl, rfl, .inl (.inl (sm _ _ hL7)), atI_nat (j := y.1) (by rw [List.getElem?_map, pi_at pm f1.1]; rfl), ?_⟩
      refine ⟨_, rfl, _, rfl, o, _, y.2.1, nv (piN L y.2.1), rfl, rfl, .inl (.inl (sm _ _ hL7)), atI_nat (j := y.2.1) (by rw [List.getElem?_map, pi_at pm f1.2.1]; rfl), _, rfl, by show 3 ≤ sizeLine; decide, fun p hp => ?_⟩
      exact ka _ _ ⟨p, rfl, upd_same, len⟩ (same_new hp)
    refine ⟨D7, acc7, rfl, .inl (.inl hA7), fun x hx => ?_, fun ys7 ps7 py7 pw7 hps7 => ?_⟩
    · obtain ⟨y, _, b, rfl, hb, _⟩ := lr_all lr7 hx
      exact ⟨b, _, _, rfl, hb, (fun z => by cases z), rfl⟩
    obtain ⟨S7, pS7, wS7, lS7⟩ := sortedP lr7 py7 pw7
    have e7 := call_pairs pm ok pS7 wS7
    have sx : Same Hw (upd Hw ps7 (.lst ys7)) := same_new hps7
    have ex7 : (upd Hw ps7 (.lst ys7)) ps7 = some (.lst ys7) := upd_same
    have lS7x : LR RPr (upd Hw ps7 (.lst ys7)) ys7 S7 := lS7.mono fun x y k => k.mono (Same.tups sx)
    generalize upd Hw ps7 (.lst ys7) = Hx at sx ex7 lS7x ⊢
    have rvx : RelT T0 Hv Hx := .of (sw.trans sx)
    rw [← e7] at lS7x
    obtain ⟨xp8, hxp8, lrp8⟩ := hP3.rel rvx
    refine ne_same (dp_l prD hxp8 lrp8 fun _ _ => dp_pr) (dp_l prD ex7 lS7x fun _ _ => dp_pr) (fit_l fun e he => fit_pr fun c hc => ((prs_facts okC he).2.2.2.1 c hc).2) ⟨false, rfl, iteF ?_⟩
    exact ⟨⟨_, _, _, _, _, _, _, _, _, _, _, _, rfl⟩, relq.trans (rqv.trans rvx)⟩
end
end K44

set_option Elab.async false
set_option linter.all false
set_option maxRecDepth 100000
set_option maxHeartbeats 0
namespace K44
open PySem PySem.Spec PyProof.Rows L2
def ds_is_sign : He.DefD := ⟨("is_sign", none), "is_sign", "is_sign", defArgs s_is_sign, defBody s_is_sign, defScope s_is_sign, [], []⟩
def ds_is_whole : He.DefD := ⟨("is_whole", none), "is_whole", "is_whole", defArgs s_is_whole, defBody s_is_whole, defScope s_is_whole, [], []⟩
def ds_is_within : He.DefD := ⟨("is_within", none), "is_within", "is_within", defArgs s_is_within, defBody s_is_within, defScope s_is_within, [], []⟩
def ds_look_at_rooms : He.DefD := ⟨("look_at_rooms", none), "look_at_rooms", "look_at_rooms", defArgs s_look_at_rooms, defBody s_look_at_rooms, defScope s_look_at_rooms, [], []⟩
def ds_is_step : He.DefD := ⟨("is_step", none), "is_step", "is_step", defArgs s_is_step, defBody s_is_step, defScope s_is_step, [], []⟩
def ds_look_at_steps : He.DefD := ⟨("look_at_steps", none), "look_at_steps", "look_at_steps", defArgs s_look_at_steps, defBody s_look_at_steps, defScope s_look_at_steps, [], []⟩
def ds_look_at : He.DefD := ⟨("look_at", none), "look_at", "look_at", defArgs s_look_at, defBody s_look_at, defScope s_look_at, [], []⟩
def ds_look_at_room : He.DefD := ⟨("look_at_room", none), "look_at_room", "look_at_room", defArgs s_look_at_room, defBody s_look_at_room, defScope s_look_at_room, [], []⟩
def ds_turned : He.DefD := ⟨("turned", none), "turned", "turned", defArgs s_turned, defBody s_turned, defScope s_turned, [], []⟩
def ds_called : He.DefD := ⟨("called", none), "called", "called", defArgs s_called, defBody s_called, defScope s_called, [], []⟩
def ds_come_to : He.DefD := ⟨("come_to", none), "come_to", "come_to", defArgs s_come_to, defBody s_come_to, defScope s_come_to, [], []⟩
def ds_useful : He.DefD := ⟨("useful", none), "useful", "useful", defArgs s_useful, defBody s_useful, defScope s_useful, [], []⟩
def ds_trimmed : He.DefD := ⟨("trimmed", none), "trimmed", "trimmed", defArgs s_trimmed, defBody s_trimmed, defScope s_trimmed, [], []⟩
def ds_signs_of : He.DefD := ⟨("signs_of", none), "signs_of", "signs_of", defArgs s_signs_of, defBody s_signs_of, defScope s_signs_of, [], []⟩
def ds_by_signs : He.DefD := ⟨("by_signs", none), "by_signs", "by_signs", defArgs s_by_signs, defBody s_by_signs, defScope s_by_signs, [], []⟩
def ds_first_text : He.DefD := ⟨("first_text", none), "first_text", "first_text", defArgs s_first_text, defBody s_first_text, defScope s_first_text, [], []⟩
def ds_double_text : He.DefD := ⟨("double_text", none), "double_text", "double_text", defArgs s_double_text, defBody s_double_text, defScope s_double_text, [], []⟩
def ds_led_text : He.DefD := ⟨("led_text", none), "led_text", "led_text", defArgs s_led_text, defBody s_led_text, defScope s_led_text, [], []⟩
def ds_double_rounds : He.DefD := ⟨("double_rounds", none), "double_rounds", "double_rounds", defArgs s_double_rounds, defBody s_double_rounds, defScope s_double_rounds, [], []⟩
def ds_led_rounds : He.DefD := ⟨("led_rounds", none), "led_rounds", "led_rounds", defArgs s_led_rounds, defBody s_led_rounds, defScope s_led_rounds, [], []⟩
def ds_look_at_word : He.DefD := ⟨("look_at_word", none), "look_at_word", "look_at_word", defArgs s_look_at_word, defBody s_look_at_word, defScope s_look_at_word, [], []⟩
def ds_alone_at : He.DefD := ⟨("alone_at", none), "alone_at", "alone_at", defArgs s_alone_at, defBody s_alone_at, defScope s_alone_at, [], []⟩
def ds_moved : He.DefD := ⟨("moved", none), "moved", "moved", defArgs s_moved, defBody s_moved, defScope s_moved, [], []⟩
def ds_moved_by : He.DefD := ⟨("moved_by", none), "moved_by", "moved_by", defArgs s_moved_by, defBody s_moved_by, defScope s_moved_by, [], []⟩
def ds_sum_at : He.DefD := ⟨("sum_at", none), "sum_at", "sum_at", defArgs s_sum_at, defBody s_sum_at, defScope s_sum_at, [], []⟩
def ds_ways : He.DefD := ⟨("ways", none), "ways", "ways", defArgs s_ways, defBody s_ways, defScope s_ways, [.non, .non], []⟩
def ds_law_hand : He.DefD := ⟨("_law_hand", none), "_law_hand", "_law_hand", defArgs s_law_hand, defBody s_law_hand, defScope s_law_hand, [], []⟩
def ds_law_draw : He.DefD := ⟨("_law_draw", none), "_law_draw", "_law_draw", defArgs s_law_draw, defBody s_law_draw, defScope s_law_draw, [], []⟩
def ds_law_rooms : He.DefD := ⟨("_law_rooms", none), "_law_rooms", "_law_rooms", defArgs s_law_rooms, defBody s_law_rooms, defScope s_law_rooms, [], []⟩
def ds_law_letters : He.DefD := ⟨("_law_letters", none), "_law_letters", "_law_letters", defArgs s_law_letters, defBody s_law_letters, defScope s_law_letters, [], []⟩
def ds_law_machine : He.DefD := ⟨("_law_machine", none), "_law_machine", "_law_machine", defArgs s_law_machine, defBody s_law_machine, defScope s_law_machine, [], []⟩
def ds_law_order : He.DefD := ⟨("_law_order", none), "_law_order", "_law_order", defArgs s_law_order, defBody s_law_order, defScope s_law_order, [], []⟩
def ds_law_grows : He.DefD := ⟨("_law_grows", none), "_law_grows", "_law_grows", defArgs s_law_grows, defBody s_law_grows, defScope s_law_grows, [], []⟩
def ds_law : He.DefD := ⟨("law", none), "law", "law", defArgs s_law, defBody s_law, defScope s_law, [], []⟩
def hfn : List He.DefD := [ds_is_sign, ds_is_whole, ds_is_within, ds_look_at_rooms, ds_is_step, ds_look_at_steps, ds_look_at, ds_look_at_room, ds_turned, ds_called, ds_come_to, ds_useful, ds_trimmed, ds_signs_of, ds_by_signs, ds_first_text, ds_double_text, ds_led_text, ds_double_rounds, ds_led_rounds, ds_look_at_word, ds_alone_at, ds_moved, ds_moved_by, ds_sum_at, ds_ways, ds_law_hand, ds_law_draw, ds_law_rooms, ds_law_letters, ds_law_machine, ds_law_order, ds_law_grows, ds_law]
def hfa : List He.Fa := [.glo "is_sign", .glo "is_whole", .glo "is_within", .glo "look_at_rooms", .glo "is_step", .glo "look_at_steps", .glo "look_at", .glo "look_at_room", .glo "turned", .glo "called", .glo "come_to", .glo "useful", .glo "trimmed", .glo "signs_of", .glo "by_signs", .glo "first_text", .glo "double_text", .glo "led_text", .glo "double_rounds", .glo "led_rounds", .glo "look_at_word", .glo "alone_at", .glo "moved", .glo "moved_by", .glo "sum_at", .glo "ways", .glo "_law_hand", .glo "_law_draw", .glo "_law_rooms", .glo "_law_letters", .glo "_law_machine", .glo "_law_order", .glo "_law_grows", .glo "law", .free "isinstance", .free "len", .free "str", .free "int", .free "bool", .free "list", .free "tuple", .free "enumerate", .free "sorted", .free "all", .free "range", .free "sum", .free "set", .free "max", .free "min", .str "LETTERS" "abcdefghijklmnopqrstuvwxyz", .int "MOST_WORD" 400, .int "MOST_ROOMS" 12, .int "MOST_STEPS" 200]
def htf : List He.Defn := [("double_text", none), ("led_text", none)]
abbrev HR : PySem.W.OpenRow := PySem.W.OpenLaw.row PySem.Challenge.rw_triesgrow_k44_whole_rounds_laid_again
def hEx (K : PySem.W.Frag) : Bool := decide ((He.cT K ("double_text", none)).2 ≠ (He.cT K ("led_text", none)).2)
abbrev hHk : PySem.W.Hook := He.hookX 4 hfa hfn [] htf hEx
def hob (s : PySem.W.SharedT) : He.AlX := He.obsX 4 hfa hfn [] htf hEx (HandSHeadRun.getT s)
theorem hob_eq (s : PySem.W.SharedT) : hob s = hHk.obs s.abs := He.obsX_eq (HandSHeadRun.getT_eq s)
def hn1 : List PySem.Str := ["NoMachine", "NoWord", "NoRoom", "LETTERS", "MOST_WORD", "is_sign", "MOST_ROOMS", "MOST_STEPS", "is_whole", "is_within", "look_at_rooms", "is_step", "look_at_steps", "look_at", "look_at_room", "turned", "called", "come_to", "useful", "trimmed"]
def hn2 : List PySem.Str := ["signs_of", "by_signs", "first_text", "double_text", "led_text", "double_rounds", "led_rounds", "look_at_word", "alone_at", "moved", "moved_by", "sum_at", "ways", "_law_hand", "_law_draw", "_law_rooms", "_law_letters", "_law_machine", "_law_word", "_law_order", "_law_grows"]
def hnames : List PySem.Str := hn1 ++ hn2
theorem hrun (w : World) : HandSHeadRun.RunEq HR (PySem.W.view HR.prog [48]) hHk hob 3000 hnames w := by
  intro os
  kernel_rfl
end K44

set_option Elab.async false
set_option linter.all false
set_option maxRecDepth 100000
set_option maxHeartbeats 0
namespace K44
open PySem PySem.Spec PyProof.Rows L2 NdefX LamX
section
variable {K : PySem.W.Frag} {h : Heap} {mg : Str → Option Value}
theorem has_of (X : K.In h) (G : h.Ns mainGlobals mg) (c : He.SaysD hfa hfn K) {d : He.DefD} (hd : d ∈ hfn) {x : Str} (st : Stmt) (e : d = ⟨(x, none), x, x, defArgs st, defBody st, defScope st, [], []⟩) (hx : He.Fa.glo x ∈ hfa) : Has K mg x st := by
  subst e
  obtain ⟨fd, F⟩ := c.defs hd
  exact ⟨_, fd, F, He.glo_ok X G (c.facts hx)⟩
theorem hasW_of (X : K.In h) (G : h.Ns mainGlobals mg) (c : He.SaysD hfa hfn K) : HasW K mg := by
  obtain ⟨fd, F⟩ := c.defs (d := ds_ways) (by simp only [hfn, List.mem_cons, true_or, or_true])
  exact ⟨_, fd, F, He.glo_ok X G (c.facts (f := .glo "ways") (by simp only [hfa, List.mem_cons, true_or, or_true]))⟩
theorem hasT_of {base : Heap} {T : List NTab} (X : K.In h) (G : h.Ns mainGlobals mg) (c : He.SaysD hfa hfn K) {x : Str} {st : Stmt} {nm : Nat → Nat → Str} (hs : Has K mg x st) (hx : He.Fa.glo x ∈ hfa) (TB : TabB base mg (He.cT K (x, none)).1 (He.cT K (x, none)).2)
    (hm : ((He.cT K (x, none)).2, nm) ∈ T) (hu : ∀ p ∈ T, p.1 = (He.cT K (x, none)).2 → p.2 = nm) : HasT K mg base T x st nm := by
  obtain ⟨f, fd, F, g⟩ := hs
  have g2 := He.glo_ok X G (c.facts hx)
  rw [g] at g2
  have ef : f = He.fAd K (x, none) := by
    injection g2 with g2
    injection g2 with g2
  have F0 := F
  obtain ⟨oc, od, dV, kV, doc, pm, an, cdv, ct, osl, efd, lk, hcd, _, _⟩ := F.ex
  obtain ⟨c', ec⟩ := He.codeIn_ref hcd
  have ecd : fd.code = .ref c' := by rw [efd]; exact ec
  have e1 : He.codeOf K (x, none) = c' := He.codeOf_eq (by rw [← ef]; exact lk) ecd
  have e2 : (He.cT K (x, none)).1 = c' := e1
  refine ⟨f, fd, (He.cT K (x, none)).1, (He.cT K (x, none)).2, F0, g, by rw [e2]; exact ecd, TB, hm, hu⟩
theorem txt_of (X : K.In h) (G : h.Ns mainGlobals mg) (c : He.SaysD hfa hfn K) : Txt mg where
  isinstance := He.free_ok X G (c.facts (by simp only [hfa, List.mem_cons, true_or, or_true]))
  len := He.free_ok X G (c.facts (by simp only [hfa, List.mem_cons, true_or, or_true]))
  str := He.free_ok X G (c.facts (by simp only [hfa, List.mem_cons, true_or, or_true]))
  int := He.free_ok X G (c.facts (by simp only [hfa, List.mem_cons, true_or, or_true]))
  bool := He.free_ok X G (c.facts (by simp only [hfa, List.mem_cons, true_or, or_true]))
  list := He.free_ok X G (c.facts (by simp only [hfa, List.mem_cons, true_or, or_true]))
  tuple := He.free_ok X G (c.facts (by simp only [hfa, List.mem_cons, true_or, or_true]))
  enumerate := He.free_ok X G (c.facts (by simp only [hfa, List.mem_cons, true_or, or_true]))
  sorted := He.free_ok X G (c.facts (by simp only [hfa, List.mem_cons, true_or, or_true]))
  all := He.free_ok X G (c.facts (by simp only [hfa, List.mem_cons, true_or, or_true]))
  range := He.free_ok X G (c.facts (by simp only [hfa, List.mem_cons, true_or, or_true]))
  sum := He.free_ok X G (c.facts (by simp only [hfa, List.mem_cons, true_or, or_true]))
  set := He.free_ok X G (c.facts (by simp only [hfa, List.mem_cons, true_or, or_true]))
  max := He.free_ok X G (c.facts (by simp only [hfa, List.mem_cons, true_or, or_true]))
  min := He.free_ok X G (c.facts (by simp only [hfa, List.mem_cons, true_or, or_true]))
  LETTERS := He.str_ok X G (c.facts (by simp only [hfa, List.mem_cons, true_or, or_true]))
  MOST_WORD := He.int_ok X G (c.facts (by simp only [hfa, List.mem_cons, true_or, or_true]))
  MOST_ROOMS := He.int_ok X G (c.facts (by simp only [hfa, List.mem_cons, true_or, or_true]))
  MOST_STEPS := He.int_ok X G (c.facts (by simp only [hfa, List.mem_cons, true_or, or_true]))
theorem law_at {w : World} {fa : Addr} (X : K.In h) (G : h.Ns mainGlobals mg) (hmg : mg ("law" : Str) = some (.ref fa)) (c : He.SaysX hfa hfn [] htf hEx w h K) : LamX.LawAtS PySem.Challenge.rw_triesgrow_k44_whole_rounds_laid_again w K CX0 9 63 "_law_script" mg fa h := by
  have cd := c.t.d
  obtain ⟨fd, F⟩ := cd.defs (d := ds_law) (by simp only [hfn, List.mem_cons, true_or, or_true])
  have F : FnP K "law" s_law (He.fAd K ("law", none)) fd := F
  have e := hmg.symm.trans (He.glo_ok X G (cd.facts (f := .glo "law") (by simp only [hfa, List.mem_cons, true_or, or_true])))
  injection e with e
  injection e with e
  have ef : fa = He.fAd K ("law", none) := e
  subst ef
  have ne : (He.cT K ("double_text", none)).2 ≠ (He.cT K ("led_text", none)).2 := of_decide_eq_true c.more
  have b := FunD.bindsA (ps := ["_law_script"]) F fun _ _ _ _ _ _ us hl => match us, hl with | [_], _ => rfl
  have mem : ∀ {P : He.Defn → Prop}, (∀ p ∈ htf, P p) → P ("double_text", none) ∧ P ("led_text", none) := fun {P} h => ⟨h _ List.mem_cons_self, h _ (List.mem_cons_of_mem _ List.mem_cons_self)⟩
  have two : ∀ {P : Addr × Addr → Prop}, P (He.cT K ("double_text", none)) → P (He.cT K ("led_text", none)) → ∀ p ∈ [He.cT K ("double_text", none), He.cT K ("led_text", none)], P p := fun {P} h1 h2 p hp => by
    rcases List.mem_cons.mp hp with e | hp
    · rw [e]; exact h1
    · rw [List.mem_singleton.mp hp]; exact h2
  refine ⟨fd, [He.cT K ("double_text", none), He.cT K ("led_text", none)], sp_law K [((He.cT K ("double_text", none)).2, nmD), ((He.cT K ("led_text", none)).2, nmL)],
    two (mem c.empty).1 (mem c.empty).2, two (mem c.out).1 (mem c.out).2, two (PySem.W.codeHd_of_K X (mem c.hd).1) (PySem.W.codeHd_of_K X (mem c.hd).2), fun s u => b s [u] rfl, fun H a ns hl _ hT hS => ⟨a, ns, rfl, hS, fun p hp => ?_, fun _ => rfl⟩, fun base KB GB TB => ?_⟩
  · rcases List.mem_cons.mp hp with e | hp
    · rw [e]
      exact TabN.nil (hT _ List.mem_cons_self)
    · rw [List.mem_singleton.mp hp]
      exact TabN.nil (hT _ (List.mem_cons_of_mem _ List.mem_cons_self))
  · have T := txt_of X G cd
    have TB1 := TB _ List.mem_cons_self
    have TB2 := TB _ (List.mem_cons_of_mem _ List.mem_cons_self)
    have h_is_sign : Has K mg "is_sign" s_is_sign := has_of X G cd (d := ds_is_sign) (by simp only [hfn, List.mem_cons, true_or, or_true]) s_is_sign rfl (by simp only [hfa, List.mem_cons, true_or, or_true])
    have h_is_whole : Has K mg "is_whole" s_is_whole := has_of X G cd (d := ds_is_whole) (by simp only [hfn, List.mem_cons, true_or, or_true]) s_is_whole rfl (by simp only [hfa, List.mem_cons, true_or, or_true])
    have h_is_within : Has K mg "is_within" s_is_within := has_of X G cd (d := ds_is_within) (by simp only [hfn, List.mem_cons, true_or, or_true]) s_is_within rfl (by simp only [hfa, List.mem_cons, true_or, or_true])
    have h_look_at_rooms : Has K mg "look_at_rooms" s_look_at_rooms := has_of X G cd (d := ds_look_at_rooms) (by simp only [hfn, List.mem_cons, true_or, or_true]) s_look_at_rooms rfl (by simp only [hfa, List.mem_cons, true_or, or_true])
    have h_is_step : Has K mg "is_step" s_is_step := has_of X G cd (d := ds_is_step) (by simp only [hfn, List.mem_cons, true_or, or_true]) s_is_step rfl (by simp only [hfa, List.mem_cons, true_or, or_true])
    have h_look_at_steps : Has K mg "look_at_steps" s_look_at_steps := has_of X G cd (d := ds_look_at_steps) (by simp only [hfn, List.mem_cons, true_or, or_true]) s_look_at_steps rfl (by simp only [hfa, List.mem_cons, true_or, or_true])
    have h_look_at : Has K mg "look_at" s_look_at := has_of X G cd (d := ds_look_at) (by simp only [hfn, List.mem_cons, true_or, or_true]) s_look_at rfl (by simp only [hfa, List.mem_cons, true_or, or_true])
    have h_look_at_room : Has K mg "look_at_room" s_look_at_room := has_of X G cd (d := ds_look_at_room) (by simp only [hfn, List.mem_cons, true_or, or_true]) s_look_at_room rfl (by simp only [hfa, List.mem_cons, true_or, or_true])
    have h_turned : Has K mg "turned" s_turned := has_of X G cd (d := ds_turned) (by simp only [hfn, List.mem_cons, true_or, or_true]) s_turned rfl (by simp only [hfa, List.mem_cons, true_or, or_true])
    have h_called : Has K mg "called" s_called := has_of X G cd (d := ds_called) (by simp only [hfn, List.mem_cons, true_or, or_true]) s_called rfl (by simp only [hfa, List.mem_cons, true_or, or_true])
    have h_come_to : Has K mg "come_to" s_come_to := has_of X G cd (d := ds_come_to) (by simp only [hfn, List.mem_cons, true_or, or_true]) s_come_to rfl (by simp only [hfa, List.mem_cons, true_or, or_true])
    have h_useful : Has K mg "useful" s_useful := has_of X G cd (d := ds_useful) (by simp only [hfn, List.mem_cons, true_or, or_true]) s_useful rfl (by simp only [hfa, List.mem_cons, true_or, or_true])
    have h_trimmed : Has K mg "trimmed" s_trimmed := has_of X G cd (d := ds_trimmed) (by simp only [hfn, List.mem_cons, true_or, or_true]) s_trimmed rfl (by simp only [hfa, List.mem_cons, true_or, or_true])
    have h_signs_of : Has K mg "signs_of" s_signs_of := has_of X G cd (d := ds_signs_of) (by simp only [hfn, List.mem_cons, true_or, or_true]) s_signs_of rfl (by simp only [hfa, List.mem_cons, true_or, or_true])
    have h_by_signs : Has K mg "by_signs" s_by_signs := has_of X G cd (d := ds_by_signs) (by simp only [hfn, List.mem_cons, true_or, or_true]) s_by_signs rfl (by simp only [hfa, List.mem_cons, true_or, or_true])
    have h_first_text : Has K mg "first_text" s_first_text := has_of X G cd (d := ds_first_text) (by simp only [hfn, List.mem_cons, true_or, or_true]) s_first_text rfl (by simp only [hfa, List.mem_cons, true_or, or_true])
    have h_double_text : Has K mg "double_text" s_double_text := has_of X G cd (d := ds_double_text) (by simp only [hfn, List.mem_cons, true_or, or_true]) s_double_text rfl (by simp only [hfa, List.mem_cons, true_or, or_true])
    have h_led_text : Has K mg "led_text" s_led_text := has_of X G cd (d := ds_led_text) (by simp only [hfn, List.mem_cons, true_or, or_true]) s_led_text rfl (by simp only [hfa, List.mem_cons, true_or, or_true])
    have h_double_rounds : Has K mg "double_rounds" s_double_rounds := has_of X G cd (d := ds_double_rounds) (by simp only [hfn, List.mem_cons, true_or, or_true]) s_double_rounds rfl (by simp only [hfa, List.mem_cons, true_or, or_true])
    have h_led_rounds : Has K mg "led_rounds" s_led_rounds := has_of X G cd (d := ds_led_rounds) (by simp only [hfn, List.mem_cons, true_or, or_true]) s_led_rounds rfl (by simp only [hfa, List.mem_cons, true_or, or_true])
    have h_look_at_word : Has K mg "look_at_word" s_look_at_word := has_of X G cd (d := ds_look_at_word) (by simp only [hfn, List.mem_cons, true_or, or_true]) s_look_at_word rfl (by simp only [hfa, List.mem_cons, true_or, or_true])
    have h_alone_at : Has K mg "alone_at" s_alone_at := has_of X G cd (d := ds_alone_at) (by simp only [hfn, List.mem_cons, true_or, or_true]) s_alone_at rfl (by simp only [hfa, List.mem_cons, true_or, or_true])
    have h_moved : Has K mg "moved" s_moved := has_of X G cd (d := ds_moved) (by simp only [hfn, List.mem_cons, true_or, or_true]) s_moved rfl (by simp only [hfa, List.mem_cons, true_or, or_true])
    have h_moved_by : Has K mg "moved_by" s_moved_by := has_of X G cd (d := ds_moved_by) (by simp only [hfn, List.mem_cons, true_or, or_true]) s_moved_by rfl (by simp only [hfa, List.mem_cons, true_or, or_true])
    have h_sum_at : Has K mg "sum_at" s_sum_at := has_of X G cd (d := ds_sum_at) (by simp only [hfn, List.mem_cons, true_or, or_true]) s_sum_at rfl (by simp only [hfa, List.mem_cons, true_or, or_true])
    have h_law_hand : Has K mg "_law_hand" s_law_hand := has_of X G cd (d := ds_law_hand) (by simp only [hfn, List.mem_cons, true_or, or_true]) s_law_hand rfl (by simp only [hfa, List.mem_cons, true_or, or_true])
    have h_law_draw : Has K mg "_law_draw" s_law_draw := has_of X G cd (d := ds_law_draw) (by simp only [hfn, List.mem_cons, true_or, or_true]) s_law_draw rfl (by simp only [hfa, List.mem_cons, true_or, or_true])
    have h_law_rooms : Has K mg "_law_rooms" s_law_rooms := has_of X G cd (d := ds_law_rooms) (by simp only [hfn, List.mem_cons, true_or, or_true]) s_law_rooms rfl (by simp only [hfa, List.mem_cons, true_or, or_true])
    have h_law_letters : Has K mg "_law_letters" s_law_letters := has_of X G cd (d := ds_law_letters) (by simp only [hfn, List.mem_cons, true_or, or_true]) s_law_letters rfl (by simp only [hfa, List.mem_cons, true_or, or_true])
    have h_law_machine : Has K mg "_law_machine" s_law_machine := has_of X G cd (d := ds_law_machine) (by simp only [hfn, List.mem_cons, true_or, or_true]) s_law_machine rfl (by simp only [hfa, List.mem_cons, true_or, or_true])
    have h_law_order : Has K mg "_law_order" s_law_order := has_of X G cd (d := ds_law_order) (by simp only [hfn, List.mem_cons, true_or, or_true]) s_law_order rfl (by simp only [hfa, List.mem_cons, true_or, or_true])
    have h_law_grows : Has K mg "_law_grows" s_law_grows := has_of X G cd (d := ds_law_grows) (by simp only [hfn, List.mem_cons, true_or, or_true]) s_law_grows rfl (by simp only [hfa, List.mem_cons, true_or, or_true])
    have k1 := cl_is_sign (P := PySem.Challenge.rw_triesgrow_k44_whole_rounds_laid_again.prog) (w := w) (base := base) T h_is_sign
    have k2 := cl_is_whole (P := PySem.Challenge.rw_triesgrow_k44_whole_rounds_laid_again.prog) (w := w) (base := base) T h_is_whole
    have k3 := cl_is_within T h_is_within k2
    have k4 := cl_look_at_rooms T h_look_at_rooms k3
    have k5 := cl_is_step T h_is_step k3 k1
    have k6 := cl_look_at_steps T h_look_at_steps k5
    have k7 := cl_look_at T h_look_at k3 k4 k6
    have k8 := cl_look_at_room h_look_at_room k3
    have k9 := cl_turned T h_turned k7
    have k10 := cl_called T h_called k7 k3
    have k11 := cl_come_to (P := PySem.Challenge.rw_triesgrow_k44_whole_rounds_laid_again.prog) (w := w) (base := base) T h_come_to
    have k12 := cl_useful T h_useful k7 k11
    have k13 := cl_trimmed T h_trimmed k12
    have k14 := cl_signs_of (P := PySem.Challenge.rw_triesgrow_k44_whole_rounds_laid_again.prog) (w := w) (base := base) T h_signs_of
    have k15 := cl_by_signs (P := PySem.Challenge.rw_triesgrow_k44_whole_rounds_laid_again.prog) (w := w) (base := base) h_by_signs
    have k16 := cl_first (P := PySem.Challenge.rw_triesgrow_k44_whole_rounds_laid_again.prog) (w := w) (base := base) 1 h_first_text
    have tD : HasT K mg base [((He.cT K ("double_text", none)).2, nmD), ((He.cT K ("led_text", none)).2, nmL)] "double_text" s_double_text nmD := hasT_of X G cd h_double_text (by simp only [hfa, List.mem_cons, true_or, or_true]) TB1 List.mem_cons_self fun p hp e => by
      rcases List.mem_cons.mp hp with z | hp
      · rw [z]
      · rw [List.mem_singleton.mp hp] at e
        exact absurd e.symm ne
    have tL : HasT K mg base [((He.cT K ("double_text", none)).2, nmD), ((He.cT K ("led_text", none)).2, nmL)] "led_text" s_led_text nmL := hasT_of X G cd h_led_text (by simp only [hfa, List.mem_cons, true_or, or_true]) TB2 (List.mem_cons_of_mem _ List.mem_cons_self) fun p hp e => by
      rcases List.mem_cons.mp hp with z | hp
      · rw [z] at e
        exact absurd e ne
      · rw [List.mem_singleton.mp hp]
    have k17 := cl_double_text tD k16
    have k18 := cl_led_text tL k16
    have k19 := cl_double_rounds h_double_rounds k12 k13 k15 k14 k17
    have k20 := cl_led_rounds h_led_rounds k12 k13 k15 k14 k18
    have k21 := cl_look_at_word T h_look_at_word k1
    have k22 := cl_alone_at (P := PySem.Challenge.rw_triesgrow_k44_whole_rounds_laid_again.prog) (w := w) (base := base) T h_alone_at
    have k23 := cl_moved (P := PySem.Challenge.rw_triesgrow_k44_whole_rounds_laid_again.prog) (w := w) (base := base) h_moved
    have k24 := cl_moved_by h_moved_by k23
    have k25 := cl_sum_at (P := PySem.Challenge.rw_triesgrow_k44_whole_rounds_laid_again.prog) (w := w) (base := base) T h_sum_at
    have k26 := cl_ways (hasW_of X G cd) k7 k21 k8 k22 k24 k25
    have k27 := cl_hand (P := PySem.Challenge.rw_triesgrow_k44_whole_rounds_laid_again.prog) (w := w) (base := base) T h_law_hand
    have k28 := cl_draw (P := PySem.Challenge.rw_triesgrow_k44_whole_rounds_laid_again.prog) (w := w) (base := base) h_law_draw
    have k29 := cl_rooms T h_law_rooms k28
    have k30 := cl_letters h_law_letters k28
    have k31 := cl_machine T h_law_machine k28 k29
    have k32 := cl_order T h_law_order k28
    have k33 := cl_grows T h_law_grows k26
    exact ok_law T F (k27.mono (by decide)) (k28.mono (by decide)) (k30.mono (by decide)) (k31.mono (by decide)) k19 k20 (k33.mono (by decide)) (k9.mono (by decide)) (k32.mono (by decide)) (k10.mono (by decide))
end
end K44

set_option Elab.async false
set_option linter.all false
set_option maxRecDepth 100000
set_option maxHeartbeats 0
open PySem PySem.W PySem.Calls PyProof.Rows
theorem PySem.Challenge.cw_triesgrow_k44_whole_rounds_laid_again_holds : PySem.Challenge.rw_triesgrow_k44_whole_rounds_laid_again.Holds := by
  w_on; o_law
  refine HandSHeadRun.head_any (r := OpenLaw.row PySem.Challenge.rw_triesgrow_k44_whole_rounds_laid_again) (q := view (OpenLaw.row PySem.Challenge.rw_triesgrow_k44_whole_rounds_laid_again).prog [48]) (H := K44.hHk) (ob := K44.hob) (M := 3000) (loose := K44.hnames) (d := HandSHeadRun.topDef (OpenLaw.row PySem.Challenge.rw_triesgrow_k44_whole_rounds_laid_again).prog 48) (kwd := []) K44.hob_eq
    (by kernel_rfl) (fun s => by kernel_rfl) K44.hrun (by kernel_rfl) (by kernel_rfl) (by kernel_rfl) (by rfl) (by first | assumption | decide +kernel) (by decide +kernel) ⟨rfl, rfl, rfl, rfl, rfl, by decide +kernel⟩ ?hw ?hc
  case hw => w_witness2
  case hc =>
    refine LamX.walk_ofTsE (l := PySem.Challenge.rw_triesgrow_k44_whole_rounds_laid_again) (n := 63) (k := 9) (x := "_law_script") (CX := fun _ => L2.CX0) rfl (by decide) (by kernel_rfl) ⟨rfl, by decide, by decide⟩ ?F (fun _ _ _ _ _ z => z)
    intro w mg fa h Y G hmg0
    obtain ⟨K, KX, c⟩ := Y
    have hmg : mg ("law" : PySem.Str) = some (.ref fa) := by
      have e : (HandSHeadRun.topDef (OpenLaw.row PySem.Challenge.rw_triesgrow_k44_whole_rounds_laid_again).prog 48).name = ("law" : PySem.Str) := by kernel_rfl
      rw [← e]
      exact hmg0
    exact ⟨K, KX, K44.law_at KX G hmg c⟩
