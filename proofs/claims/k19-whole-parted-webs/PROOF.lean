import PyProof.Rows.All
import Wide.All
import OpenK.AllK
import Wide.FinOn
import HandS.AnyAll
import HandS.GenOver
import HandS.ForMost
import HandS.IsInst
import HandS.Conv
import HandS.Deep
import HandS.TupAny
import HandS.DictComp
import HandS.More
import HandS.Iter
import PySem.Challenge.RW_bellcopies_k19_whole_parted_webs
import HandS.Style
import HandS.SetFor
import KE.SortData
import KE.GoesMore
import KE.KDictDisplayH
import KE.KRevSl
import HandS.SortInts
import HandS.EndBits
import HandS.EndTab
import KE.KNest
set_option linter.all false
/-! The plain law: webs, who reaches whom, springs, states. Core Lean alone. -/
namespace Bel
abbrev Arc := Int × Int

/-! ### lists -/
theorem len_le_of_sub {α : Type} [DecidableEq α] : ∀ {l m : List α}, l.Nodup → (∀ x ∈ l, x ∈ m) → l.length ≤ m.length
  | [], _, _, _ => Nat.zero_le _
  | x :: l, m, nd, h => by
    have hx : x ∈ m := h x List.mem_cons_self
    obtain ⟨n1, n2⟩ := List.nodup_cons.mp nd
    have h2 : ∀ y ∈ l, y ∈ m.erase x := fun y hy => by
      have hne : y ≠ x := fun e => n1 (e ▸ hy)
      exact (List.mem_erase_of_ne hne).mpr (h y (List.mem_cons_of_mem _ hy))
    have := len_le_of_sub n2 h2
    rw [List.length_erase_of_mem hx] at this
    have hp : 0 < m.length := List.length_pos_of_mem hx
    simp only [List.length_cons]
    omega
theorem len_eq_of_mem {α : Type} [DecidableEq α] {l m : List α} (nl : l.Nodup) (nm : m.Nodup) (h : ∀ x, x ∈ l ↔ x ∈ m) : l.length = m.length :=
  Nat.le_antisymm (len_le_of_sub nl fun x hx => (h x).mp hx) (len_le_of_sub nm fun x hx => (h x).mpr hx)
theorem all_of_len {α : Type} [DecidableEq α] {l m : List α} (nl : l.Nodup) (h : ∀ x ∈ l, x ∈ m) (hl : m.length ≤ l.length) : ∀ x ∈ m, x ∈ l := by
  intro x hx
  by_cases hm : x ∈ l
  · exact hm
  · have nd : (x :: l).Nodup := List.nodup_cons.mpr ⟨hm, nl⟩
    have := len_le_of_sub (m := m) nd fun y hy => by
      rcases List.mem_cons.mp hy with e | hy
      · exact e ▸ hx
      · exact h y hy
    simp only [List.length_cons] at this
    omega
theorem len_lt_of {α : Type} [DecidableEq α] {l m : List α} (nl : l.Nodup) (h : ∀ x ∈ l, x ∈ m) {y : α} (hy : y ∈ m) (hn : y ∉ l) : l.length < m.length := by
  have nd : (y :: l).Nodup := List.nodup_cons.mpr ⟨hn, nl⟩
  have := len_le_of_sub (m := m) nd fun z hz => by
    rcases List.mem_cons.mp hz with e | hz
    · exact e ▸ hy
    · exact h z hz
  simp only [List.length_cons] at this
  omega

/-! ### people -/
def people (n : Int) : List Int := (List.range n.toNat).map fun k : Nat => (k : Int) + 1
theorem mem_people {n p : Int} : p ∈ people n ↔ 1 ≤ p ∧ p ≤ n := by
  unfold people
  rw [List.mem_map]
  constructor
  · rintro ⟨k, hk, rfl⟩
    have := List.mem_range.mp hk
    omega
  · rintro ⟨h1, h2⟩
    exact ⟨(p - 1).toNat, List.mem_range.mpr (by omega), by omega⟩
theorem len_people (n : Int) : (people n).length = n.toNat := by unfold people; simp
theorem get_people {n : Int} {i : Nat} (h : i < n.toNat) : (people n)[i]? = some ((i : Int) + 1) := by
  unfold people
  rw [List.getElem?_map, List.getElem?_range h]
  rfl
theorem asc_people (n : Int) : (people n).Pairwise (· < ·) := by
  unfold people
  rw [List.pairwise_map]
  exact List.Pairwise.imp (fun {a b} (h : a < b) => by omega) List.pairwise_lt_range
theorem nodup_people (n : Int) : (people n).Nodup := (asc_people n).imp fun {a b} h => by omega

structure Web (n : Int) (arcs : List Arc) : Prop where
  lo : 1 ≤ n
  hi : n ≤ 5
  len : arcs.length ≤ 10
  ok : ∀ a ∈ arcs, 1 ≤ a.1 ∧ a.1 ≤ n ∧ 1 ≤ a.2 ∧ a.2 ≤ n ∧ a.1 ≠ a.2
  nd : arcs.Nodup

/-! ### who reaches whom -/
inductive Reach (arcs : List Arc) (p : Int) : Int → Prop
  | refl : Reach arcs p p
  | step {q r : Int} : Reach arcs p q → (q, r) ∈ arcs → Reach arcs p r
section
variable {n : Int} {arcs : List Arc}
theorem Reach.trans {p q r : Int} (a : Reach arcs p q) (b : Reach arcs q r) : Reach arcs p r := by
  induction b with
  | refl => exact a
  | step _ h ih => exact ih.step h
theorem Reach.head {p q r : Int} (h : (p, q) ∈ arcs) (b : Reach arcs q r) : Reach arcs p r := Reach.trans (Reach.refl.step h) b
theorem Reach.range (W : Web n arcs) {p q : Int} (a : Reach arcs p q) (hp : 1 ≤ p ∧ p ≤ n) : 1 ≤ q ∧ q ≤ n := by
  cases a with
  | refl => exact hp
  | step _ h => obtain ⟨_, _, h3, h4, _⟩ := W.ok _ h; exact ⟨h3, h4⟩
/-- a set that is closed to the right holds all that is reached -/
theorem Reach.mem {p q : Int} {f : List Int} (a : Reach arcs p q) (hp : p ∈ f) (hc : ∀ x ∈ arcs, x.1 ∈ f → x.2 ∈ f) : q ∈ f := by
  induction a with
  | refl => exact hp
  | step _ h ih => exact hc _ h ih
/-- an arc on the way where a test turns -/
theorem Reach.turn {p q : Int} {P : Int → Prop} (a : Reach arcs p q) (hp : P p) (hq : ¬ P q) : ∃ x ∈ arcs, P x.1 ∧ ¬ P x.2 := by
  induction a with
  | refl => exact absurd hp hq
  | @step q r _ h ih =>
    by_cases hm : P q
    · exact ⟨(q, r), h, hm, hq⟩
    · exact ih hm
end

def relax1 (f : List Int) (a : Arc) : List Int := if a.1 ∈ f ∧ a.2 ∉ f then f ++ [a.2] else f
def relax (arcs : List Arc) (f : List Int) : List Int := arcs.foldl relax1 f
def hearN (arcs : List Arc) (f : List Int) : Nat → List Int
  | 0 => f
  | k + 1 => relax arcs (hearN arcs f k)
def hear (n : Int) (arcs : List Arc) (p : Int) : List Int := hearN arcs [p] n.toNat

theorem relax1_sub {f : List Int} {a : Arc} : ∀ q ∈ f, q ∈ relax1 f a := fun q h => by
  unfold relax1
  split
  · exact List.mem_append_left _ h
  · exact h
theorem relax1_mem {f : List Int} {a : Arc} {q : Int} (h : q ∈ relax1 f a) : q ∈ f ∨ (a.1 ∈ f ∧ q = a.2) := by
  unfold relax1 at h
  split at h
  · rename_i hc
    rcases List.mem_append.mp h with h | h
    · exact .inl h
    · exact .inr ⟨hc.1, List.mem_singleton.mp h⟩
  · exact .inl h
theorem relax1_nodup {f : List Int} {a : Arc} (h : f.Nodup) : (relax1 f a).Nodup := by
  unfold relax1
  split
  · rename_i hc
    rw [List.nodup_append]
    refine ⟨h, List.nodup_cons.mpr ⟨by simp, List.nodup_nil⟩, fun x hx y hy e => ?_⟩
    rw [List.mem_singleton.mp hy] at e
    exact hc.2 (e ▸ hx)
  · exact h
theorem relax1_len {f : List Int} {a : Arc} : f.length ≤ (relax1 f a).length := by
  unfold relax1
  split
  · simp
  · exact Nat.le_refl _
theorem relax_sub {arcs : List Arc} : ∀ {f : List Int}, ∀ q ∈ f, q ∈ relax arcs f := by
  induction arcs with
  | nil => exact fun q h => h
  | cons a r ih => exact fun q h => ih (f := relax1 _ a) q (relax1_sub q h)
theorem relax_nodup {arcs : List Arc} : ∀ {f : List Int}, f.Nodup → (relax arcs f).Nodup := by
  induction arcs with
  | nil => exact fun h => h
  | cons a r ih => exact fun h => ih (relax1_nodup h)
theorem relax_len {arcs : List Arc} : ∀ {f : List Int}, f.length ≤ (relax arcs f).length := by
  induction arcs with
  | nil => exact fun {f} => Nat.le_refl _
  | cons a r ih => exact fun {f} => Nat.le_trans relax1_len (ih (f := relax1 f a))
theorem relax_sound {P : Int → Prop} {arcs : List Arc} : ∀ {f : List Int}, (∀ q ∈ f, P q) → (∀ a ∈ arcs, P a.1 → P a.2) → ∀ q ∈ relax arcs f, P q := by
  induction arcs with
  | nil => exact fun h _ => h
  | cons a r ih =>
    intro f h hs
    refine ih (f := relax1 f a) (fun q hq => ?_) fun b hb => hs b (List.mem_cons_of_mem _ hb)
    rcases relax1_mem hq with h1 | ⟨h1, rfl⟩
    · exact h q h1
    · exact hs a List.mem_cons_self (h _ h1)
theorem relax_stop {arcs : List Arc} : ∀ {f : List Int}, (relax arcs f).length = f.length → ∀ a ∈ arcs, a.1 ∈ f → a.2 ∈ f := by
  induction arcs with
  | nil => exact fun _ a h => absurd h (by simp)
  | cons b r ih =>
    intro f h
    have h : (relax r (relax1 f b)).length = f.length := h
    have h1 : (relax1 f b).length = f.length := Nat.le_antisymm (Nat.le_trans relax_len (Nat.le_of_eq h)) relax1_len
    have hn : ¬ (b.1 ∈ f ∧ b.2 ∉ f) := fun hc => by
      unfold relax1 at h1
      rw [if_pos hc] at h1
      simp at h1
    have e : relax1 f b = f := by unfold relax1; rw [if_neg hn]
    rw [e] at h
    intro a ha h2
    rcases List.mem_cons.mp ha with e | ha
    · subst e
      exact Classical.byContradiction fun z => hn ⟨h2, z⟩
    · exact ih h a ha h2
section
variable {n : Int} {arcs : List Arc} {p : Int}
theorem hearN_nodup (k : Nat) : (hearN arcs [p] k).Nodup := by
  induction k with
  | zero => exact List.nodup_cons.mpr ⟨by simp, List.nodup_nil⟩
  | succ k ih => exact relax_nodup ih
theorem hearN_sound (k : Nat) : ∀ q ∈ hearN arcs [p] k, Reach arcs p q := by
  induction k with
  | zero => intro q h; rw [List.mem_singleton.mp h]; exact .refl
  | succ k ih => exact relax_sound ih fun a ha h => h.step ha
theorem hearN_self (k : Nat) : p ∈ hearN arcs [p] k := by
  induction k with
  | zero => exact List.mem_singleton.mpr rfl
  | succ k ih => exact relax_sub _ ih
theorem relax_same {f : List Int} : ∀ {arcs : List Arc}, (∀ a ∈ arcs, a.1 ∈ f → a.2 ∈ f) → relax arcs f = f
  | [], _ => rfl
  | a :: r, h => by
    have e : relax1 f a = f := by
      unfold relax1
      rw [if_neg fun hc => hc.2 (h a List.mem_cons_self hc.1)]
    show relax r (relax1 f a) = f
    rw [e]
    exact relax_same fun b hb => h b (List.mem_cons_of_mem _ hb)
theorem hearN_or (k : Nat) : (∀ a ∈ arcs, a.1 ∈ hearN arcs [p] k → a.2 ∈ hearN arcs [p] k) ∨ k + 1 ≤ (hearN arcs [p] k).length := by
  induction k with
  | zero => exact .inr (Nat.le_refl _)
  | succ k ih =>
    rcases ih with ih | ih
    · refine .inl ?_
      have e : hearN arcs [p] (k + 1) = hearN arcs [p] k := relax_same ih
      rw [e]; exact ih
    · by_cases h : (relax arcs (hearN arcs [p] k)).length = (hearN arcs [p] k).length
      · have c := relax_stop h
        have e : hearN arcs [p] (k + 1) = hearN arcs [p] k := relax_same c
        refine .inl ?_
        rw [e]; exact c
      · refine .inr ?_
        have := relax_len (arcs := arcs) (f := hearN arcs [p] k)
        show k + 1 + 1 ≤ (relax arcs (hearN arcs [p] k)).length
        omega
theorem hear_nodup : (hear n arcs p).Nodup := hearN_nodup _
theorem hear_self : p ∈ hear n arcs p := hearN_self _
theorem mem_hear (W : Web n arcs) (hp : 1 ≤ p ∧ p ≤ n) {q : Int} : q ∈ hear n arcs p ↔ Reach arcs p q := by
  refine ⟨fun h => hearN_sound _ q h, fun h => ?_⟩
  refine h.mem hear_self ?_
  rcases hearN_or (arcs := arcs) (p := p) n.toNat with c | c
  · exact c
  · exfalso
    have := len_le_of_sub (m := people n) (hear_nodup (n := n) (arcs := arcs) (p := p)) fun x hx => mem_people.mpr ((hearN_sound _ x hx).range W hp)
    rw [len_people] at this
    unfold hear at this
    omega
theorem hear_range (W : Web n arcs) (hp : 1 ≤ p ∧ p ≤ n) : ∀ q ∈ hear n arcs p, q ∈ people n := fun q h => mem_people.mpr (((mem_hear W hp).mp h).range W hp)
/-- p can win -/
def Win (n : Int) (arcs : List Arc) (p : Int) : Prop := ∀ q, 1 ≤ q ∧ q ≤ n → Reach arcs p q
theorem hear_win (W : Web n arcs) (hp : 1 ≤ p ∧ p ≤ n) : ((hear n arcs p).length : Int) = n ↔ Win n arcs p := by
  constructor
  · intro h q hq
    refine (mem_hear W hp).mp (all_of_len hear_nodup (hear_range W hp) ?_ q (mem_people.mpr hq))
    rw [len_people]; omega
  · intro h
    have := len_eq_of_mem hear_nodup (nodup_people n) fun x => ⟨fun hx => hear_range W hp x hx, fun hx => (mem_hear W hp).mpr (h x (mem_people.mp hx))⟩
    rw [this, len_people]
    have := W.lo
    omega
end
/-- the winners, and that there is none -/
def winB (n : Int) (arcs : List Arc) (p : Int) : Bool := decide (((hear n arcs p).length : Int) = n)
def winL (n : Int) (arcs : List Arc) : List Int := (people n).filter (winB n arcs)
def noneB (n : Int) (arcs : List Arc) : Bool := (winL n arcs).isEmpty
theorem noneB_iff {n : Int} {arcs : List Arc} (W : Web n arcs) : noneB n arcs = false ↔ ∃ p, (1 ≤ p ∧ p ≤ n) ∧ Win n arcs p := by
  unfold noneB
  constructor
  · intro h
    cases e : winL n arcs with
    | nil => rw [e] at h; simp at h
    | cons p r =>
      have hm : p ∈ winL n arcs := by rw [e]; exact List.mem_cons_self
      obtain ⟨h1, h2⟩ := List.mem_filter.mp hm
      have hp := mem_people.mp h1
      exact ⟨p, hp, (hear_win W hp).mp (of_decide_eq_true h2)⟩
  · rintro ⟨p, hp, h⟩
    have hm : p ∈ winL n arcs := List.mem_filter.mpr ⟨mem_people.mpr hp, decide_eq_true ((hear_win W hp).mpr h)⟩
    cases e : winL n arcs with
    | nil => rw [e] at hm; simp at hm
    | cons _ _ => rfl

/-! ### springs -/
def src (n : Int) (arcs : List Arc) (p : Int) : List Int := (people n).filter fun q => decide (p ∈ hear n arcs q)
def isSpr (n : Int) (arcs : List Arc) (p : Int) : Bool := (src n arcs p).all fun q => decide (p ∈ src n arcs q)
def addK (ks : List (List Int)) (S : List Int) : List (List Int) := if S ∈ ks then ks else ks ++ [S]
def sprStep (n : Int) (arcs : List Arc) (ks : List (List Int)) (p : Int) : List (List Int) := if isSpr n arcs p = true then addK ks (src n arcs p) else ks
def sprL (n : Int) (arcs : List Arc) : List (List Int) := (people n).foldl (sprStep n arcs) []
theorem addK_nodup {ks : List (List Int)} {S : List Int} (h : ks.Nodup) : (addK ks S).Nodup := by
  unfold addK
  split
  · exact h
  · rename_i hc
    rw [List.nodup_append]
    refine ⟨h, List.nodup_cons.mpr ⟨by simp, List.nodup_nil⟩, fun x hx y hy e => ?_⟩
    rw [List.mem_singleton.mp hy] at e
    exact hc (e ▸ hx)
theorem addK_mem {ks : List (List Int)} {S T : List Int} : T ∈ addK ks S ↔ T ∈ ks ∨ T = S := by
  unfold addK
  split
  · rename_i h
    exact ⟨.inl, fun x => x.elim id fun e => e ▸ h⟩
  · rw [List.mem_append, List.mem_singleton]
section
variable {n : Int} {arcs : List Arc}
theorem spr_fold : ∀ (l : List Int) (ks : List (List Int)), ks.Nodup → (l.foldl (sprStep n arcs) ks).Nodup ∧
    ∀ T, T ∈ l.foldl (sprStep n arcs) ks ↔ T ∈ ks ∨ ∃ p ∈ l, isSpr n arcs p = true ∧ T = src n arcs p
  | [], ks, h => ⟨h, fun T => by simp⟩
  | p :: l, ks, h => by
    have h1 : (sprStep n arcs ks p).Nodup := by
      unfold sprStep
      split
      · exact addK_nodup h
      · exact h
    obtain ⟨h2, h3⟩ := spr_fold l (sprStep n arcs ks p) h1
    refine ⟨h2, fun T => (h3 T).trans ?_⟩
    unfold sprStep
    constructor
    · rintro (h4 | ⟨q, hq, h4⟩)
      · split at h4
        · rename_i hs
          rcases addK_mem.mp h4 with h4 | h4
          · exact .inl h4
          · exact .inr ⟨p, List.mem_cons_self, hs, h4⟩
        · exact .inl h4
      · exact .inr ⟨q, List.mem_cons_of_mem _ hq, h4⟩
    · rintro (h4 | ⟨q, hq, hs, h4⟩)
      · refine .inl ?_
        split
        · exact addK_mem.mpr (.inl h4)
        · exact h4
      · rcases List.mem_cons.mp hq with e | hq
        · subst e
          rw [if_pos hs]
          exact .inl (addK_mem.mpr (.inr h4))
        · exact .inr ⟨q, hq, hs, h4⟩
theorem nodup_spr : (sprL n arcs).Nodup := (spr_fold (people n) [] List.nodup_nil).1
theorem mem_spr {T : List Int} : T ∈ sprL n arcs ↔ ∃ p, (1 ≤ p ∧ p ≤ n) ∧ isSpr n arcs p = true ∧ T = src n arcs p := by
  rw [sprL, (spr_fold (people n) [] List.nodup_nil).2 T]
  constructor
  · rintro (h | ⟨p, hp, h⟩)
    · simp at h
    · exact ⟨p, mem_people.mp hp, h⟩
  · rintro ⟨p, hp, h⟩
    exact .inr ⟨p, mem_people.mpr hp, h⟩
variable (W : Web n arcs)
include W
theorem mem_src {p q : Int} : q ∈ src n arcs p ↔ (1 ≤ q ∧ q ≤ n) ∧ Reach arcs q p := by
  unfold src
  rw [List.mem_filter, mem_people]
  constructor
  · rintro ⟨h1, h2⟩
    exact ⟨h1, (mem_hear W h1).mp (of_decide_eq_true h2)⟩
  · rintro ⟨h1, h2⟩
    exact ⟨h1, decide_eq_true ((mem_hear W h1).mpr h2)⟩
omit W in
theorem asc_src (p : Int) : (src n arcs p).Pairwise (· < ·) := (asc_people n).sublist List.filter_sublist
omit W in
theorem nodup_src (p : Int) : (src n arcs p).Nodup := (asc_src p).imp fun {a b} h => by omega
theorem self_src {p : Int} (hp : 1 ≤ p ∧ p ≤ n) : p ∈ src n arcs p := (mem_src W).mpr ⟨hp, .refl⟩
theorem closed_src {p : Int} : ∀ a ∈ arcs, a.2 ∈ src n arcs p → a.1 ∈ src n arcs p := fun a ha h => by
  obtain ⟨h1, h2, _⟩ := W.ok a ha
  exact (mem_src W).mpr ⟨⟨h1, h2⟩, Reach.head ha ((mem_src W).mp h).2⟩
theorem isSpr_iff {p : Int} : isSpr n arcs p = true ↔ ∀ q, (1 ≤ q ∧ q ≤ n) → Reach arcs q p → (1 ≤ p ∧ p ≤ n) → Reach arcs p q := by
  unfold isSpr
  rw [List.all_eq_true]
  constructor
  · intro h q hq hr hp
    exact ((mem_src W).mp (of_decide_eq_true (h q ((mem_src W).mpr ⟨hq, hr⟩)))).2
  · intro h q hq
    obtain ⟨h1, h2⟩ := (mem_src W).mp hq
    by_cases hp : 1 ≤ p ∧ p ≤ n
    · exact decide_eq_true ((mem_src W).mpr ⟨hp, h q h1 h2 hp⟩)
    · exact absurd (h2.range W h1) hp
/-- people who reach each other have the same sources -/
theorem src_eq {p q : Int} (a : Reach arcs p q) (b : Reach arcs q p) : src n arcs p = src n arcs q := by
  unfold src
  refine List.filter_congr fun x hx => ?_
  have h1 := mem_people.mp hx
  rw [decide_eq_decide, mem_hear W h1, mem_hear W h1]
  exact ⟨fun r => r.trans a, fun r => r.trans b⟩
theorem spr_below : ∀ (k : Nat) (p q : Int), (src n arcs p).length ≤ k → (1 ≤ p ∧ p ≤ n) → Reach arcs p q → ∃ r, (1 ≤ r ∧ r ≤ n) ∧ isSpr n arcs r = true ∧ Reach arcs r q := by
  intro k
  induction k with
  | zero =>
    intro p q hk hp hr
    have := List.length_pos_of_mem (self_src W hp)
    omega
  | succ k ih =>
    intro p q hk hp hr
    by_cases hs : isSpr n arcs p = true
    · exact ⟨p, hp, hs, hr⟩
    · have : ¬ ∀ x, (1 ≤ x ∧ x ≤ n) → Reach arcs x p → (1 ≤ p ∧ p ≤ n) → Reach arcs p x := fun h => hs ((isSpr_iff W).mpr h)
      obtain ⟨x, hx⟩ := Classical.not_forall.mp this
      have hx1 : 1 ≤ x ∧ x ≤ n := Classical.byContradiction fun z => hx fun y => absurd y z
      have hx2 : Reach arcs x p := Classical.byContradiction fun z => hx fun _ y => absurd y z
      have hx3 : ¬ Reach arcs p x := fun z => hx fun _ _ _ => z
      refine ih x q ?_ hx1 (hx2.trans hr)
      have : (src n arcs x).length < (src n arcs p).length := len_lt_of (nodup_src x) (fun y hy => by
        obtain ⟨h1, h2⟩ := (mem_src W).mp hy
        exact (mem_src W).mpr ⟨h1, h2.trans hx2⟩) (self_src W hp) fun z => hx3 ((mem_src W).mp z).2
      omega
theorem spr_of {q : Int} (hq : 1 ≤ q ∧ q ≤ n) : ∃ r, (1 ≤ r ∧ r ≤ n) ∧ isSpr n arcs r = true ∧ Reach arcs r q := spr_below W _ q q (Nat.le_refl _) hq .refl
theorem spr_pos : 0 < (sprL n arcs).length := by
  obtain ⟨r, hr, hs, _⟩ := spr_of W (q := 1) ⟨by omega, W.lo⟩
  exact List.length_pos_of_mem (mem_spr.mpr ⟨r, hr, hs, rfl⟩)
/-- two springs with somebody in both are one -/
theorem spr_apart {S T : List Int} {x : Int} (hS : S ∈ sprL n arcs) (hT : T ∈ sprL n arcs) (h1 : x ∈ S) (h2 : x ∈ T) : S = T := by
  obtain ⟨p, hp, sp, rfl⟩ := mem_spr.mp hS
  obtain ⟨q, hq, sq, rfl⟩ := mem_spr.mp hT
  obtain ⟨hx, r1⟩ := (mem_src W).mp h1
  obtain ⟨_, r2⟩ := (mem_src W).mp h2
  have b1 := (isSpr_iff W).mp sp x hx r1 hp
  have b2 := (isSpr_iff W).mp sq x hx r2 hq
  exact src_eq W (b1.trans r2) (b2.trans r1)
theorem none_iff : noneB n arcs = false ↔ (sprL n arcs).length = 1 := by
  rw [noneB_iff W]
  constructor
  · rintro ⟨p, hp, hw⟩
    have hpos := spr_pos W
    have all : ∀ S ∈ sprL n arcs, S = src n arcs p := fun S hS => by
      obtain ⟨q, hq, sq, rfl⟩ := mem_spr.mp hS
      exact src_eq W ((isSpr_iff W).mp sq p hp (hw q hq) hq) (hw q hq)
    have := len_le_of_sub (m := [src n arcs p]) nodup_spr fun S hS => List.mem_singleton.mpr (all S hS)
    simp only [List.length_cons, List.length_nil] at this
    omega
  · intro h
    obtain ⟨S, e⟩ := List.length_eq_one_iff.mp h
    have hS : S ∈ sprL n arcs := by rw [e]; exact List.mem_singleton.mpr rfl
    obtain ⟨p, hp, sp, eS⟩ := mem_spr.mp hS
    refine ⟨p, hp, fun q hq => ?_⟩
    obtain ⟨r, hr, sr, rr⟩ := spr_of W hq
    have hm : src n arcs r ∈ sprL n arcs := mem_spr.mpr ⟨r, hr, sr, rfl⟩
    rw [e] at hm
    have e2 : src n arcs r = src n arcs p := (List.mem_singleton.mp hm).trans eS
    have : p ∈ src n arcs r := by rw [e2]; exact self_src W hp
    exact ((mem_src W).mp this).2.trans rr
end

/-! ### groups -/
def closedB (arcs : List Arc) (S : List Int) : Bool := !(arcs.any fun a => decide (a.2 ∈ S) && !decide (a.1 ∈ S))
def ascB : List Int → Bool
  | [] => true
  | [_] => true
  | x :: y :: r => decide (x < y) && ascB (y :: r)
def inB (n : Int) (x : Int) : Bool := decide (1 ≤ x) && decide (x ≤ n)
def groupB (n : Int) (arcs : List Arc) (S : List Int) : Bool := !S.isEmpty && (S.all (inB n) && (ascB S && closedB arcs S))
def apartB (A B : List Int) : Bool := !(A.any fun x => decide (x ∈ B))
def partedB (n : Int) (arcs : List Arc) (A B : List Int) : Bool := groupB n arcs A && (groupB n arcs B && apartB A B)
theorem ascB_of : ∀ {S : List Int}, S.Pairwise (· < ·) → ascB S = true
  | [], _ => rfl
  | [_], _ => rfl
  | x :: y :: r, h => by
    obtain ⟨h1, h2⟩ := List.pairwise_cons.mp h
    show (decide (x < y) && ascB (y :: r)) = true
    rw [ascB_of h2, decide_eq_true (h1 y List.mem_cons_self)]
    rfl
theorem closedB_iff {arcs : List Arc} {S : List Int} : closedB arcs S = true ↔ ∀ a ∈ arcs, a.2 ∈ S → a.1 ∈ S := by
  unfold closedB
  rw [Bool.not_eq_true', Bool.eq_false_iff, ne_eq, List.any_eq_true]
  constructor
  · intro h a ha h2
    refine Classical.byContradiction fun z => h ⟨a, ha, ?_⟩
    rw [decide_eq_true h2, decide_eq_false z]; rfl
  · rintro h ⟨a, ha, e⟩
    rw [Bool.and_eq_true, Bool.not_eq_true', decide_eq_true_eq, decide_eq_false_iff_not] at e
    exact e.2 (h a ha e.1)
section
variable {n : Int} {arcs : List Arc} (W : Web n arcs)
include W
theorem group_spr {S : List Int} (h : S ∈ sprL n arcs) : groupB n arcs S = true := by
  obtain ⟨p, hp, sp, rfl⟩ := mem_spr.mp h
  have h1 : (src n arcs p).isEmpty = false := by
    have := self_src W hp
    cases e : src n arcs p with
    | nil => rw [e] at this; simp at this
    | cons _ _ => rfl
  have h2 : (src n arcs p).all (inB n) = true := List.all_eq_true.mpr fun x hx => by
    obtain ⟨⟨a, b⟩, _⟩ := (mem_src W).mp hx
    unfold inB
    rw [decide_eq_true a, decide_eq_true b]; rfl
  unfold groupB
  rw [h1, h2, ascB_of (asc_src p), closedB_iff.mpr (closed_src W)]
  rfl
theorem parted_spr {S T : List Int} (hS : S ∈ sprL n arcs) (hT : T ∈ sprL n arcs) (h : S ≠ T) : partedB n arcs S T = true := by
  unfold partedB
  rw [group_spr W hS, group_spr W hT]
  show apartB S T = true
  unfold apartB
  rw [Bool.not_eq_true', Bool.eq_false_iff, ne_eq, List.any_eq_true]
  rintro ⟨x, h1, h2⟩
  exact h (spr_apart W hS hT h1 (of_decide_eq_true h2))
end

/-! ### states -/
def stepS (t : List Int) (a : Arc) : List Int := t.set (a.2 - 1).toNat (t.getD (a.1 - 1).toNat 0)
inductive Rst (n : Int) (arcs : List Arc) : List Int → Prop
  | start : Rst n arcs (people n)
  | step {t : List Int} {a : Arc} : Rst n arcs t → a ∈ arcs → Rst n arcs (stepS t a)
def at1 (t : List Int) (q : Int) : Int := t.getD (q - 1).toNat 0
section
variable {n : Int} {arcs : List Arc}
theorem stepS_len (t : List Int) (a : Arc) : (stepS t a).length = t.length := List.length_set
theorem Rst.len {t : List Int} (h : Rst n arcs t) : t.length = n.toNat := by
  induction h with
  | start => exact len_people n
  | step _ _ ih => rw [stepS_len]; exact ih
theorem at1_people {q : Int} (h : 1 ≤ q ∧ q ≤ n) : at1 (people n) q = q := by
  unfold at1
  rw [List.getD_eq_getElem?_getD, get_people (by omega)]
  show ((q - 1).toNat : Int) + 1 = q
  omega
theorem at1_step {t : List Int} {a : Arc} {q : Int} (h : 1 ≤ q ∧ q ≤ t.length) (h2 : 1 ≤ a.2) : at1 (stepS t a) q = if q = a.2 then at1 t a.1 else at1 t q := by
  unfold at1 stepS
  rw [List.getD_eq_getElem?_getD, List.getD_eq_getElem?_getD, List.getD_eq_getElem?_getD]
  by_cases e : q = a.2
  · rw [if_pos e, ← e, List.getElem?_set_self (by omega)]
    rfl
  · rw [if_neg e, List.getElem?_set_ne (by omega)]
theorem at1_mem {t : List Int} {q : Int} (h : 1 ≤ q ∧ q ≤ t.length) : at1 t q ∈ t := by
  unfold at1
  have hl : (q - 1).toNat < t.length := by omega
  rw [List.getD_eq_getElem?_getD, List.getElem?_eq_getElem hl]
  exact List.getElem_mem hl
theorem mem_at1 {t : List Int} {x : Int} (h : x ∈ t) : ∃ q : Int, (1 ≤ q ∧ q ≤ t.length) ∧ x = at1 t q := by
  obtain ⟨i, hi, e⟩ := List.getElem_of_mem h
  refine ⟨(i : Int) + 1, by omega, ?_⟩
  unfold at1
  have : ((i : Int) + 1 - 1).toNat = i := by omega
  rw [this, List.getD_eq_getElem?_getD, List.getElem?_eq_getElem hi, e]
  rfl
variable (W : Web n arcs)
include W
theorem Rst.range {t : List Int} (h : Rst n arcs t) : ∀ x ∈ t, 1 ≤ x ∧ x ≤ n := by
  induction h with
  | start => exact fun x hx => mem_people.mp hx
  | @step t a ht ha ih =>
    intro x hx
    obtain ⟨q, hq, e⟩ := mem_at1 hx
    rw [stepS_len] at hq
    obtain ⟨a1, a2, a3, a4, _⟩ := W.ok a ha
    have hl := ht.len
    rw [at1_step hq a3] at e
    split at e
    · rw [e]; exact ih _ (at1_mem ⟨a1, by omega⟩)
    · rw [e]; exact ih _ (at1_mem hq)
/-- who is in a closed set says a sign of it -/
theorem Rst.closed {t : List Int} (h : Rst n arcs t) {S : List Int} (hc : ∀ a ∈ arcs, a.2 ∈ S → a.1 ∈ S) (hS : ∀ x ∈ S, 1 ≤ x ∧ x ≤ n) : ∀ q ∈ S, at1 t q ∈ S := by
  induction h with
  | start => exact fun q hq => by rw [at1_people (hS q hq)]; exact hq
  | @step t a ht ha ih =>
    intro q hq
    obtain ⟨a1, a2, a3, a4, _⟩ := W.ok a ha
    have hl := ht.len
    have hr := hS q hq
    rw [at1_step (by omega) a3]
    split
    · rename_i e
      exact ih _ (hc a ha (e ▸ hq))
    · exact ih q hq
theorem spr_range {S : List Int} (h : S ∈ sprL n arcs) : ∀ x ∈ S, 1 ≤ x ∧ x ≤ n := by
  obtain ⟨p, hp, sp, rfl⟩ := mem_spr.mp h
  exact fun x hx => ((mem_src W).mp hx).1
theorem spr_closed {S : List Int} (h : S ∈ sprL n arcs) : ∀ a ∈ arcs, a.2 ∈ S → a.1 ∈ S := by
  obtain ⟨p, hp, sp, rfl⟩ := mem_spr.mp h
  exact closed_src W
theorem spr_ne {S : List Int} (h : S ∈ sprL n arcs) : ∃ x, x ∈ S := by
  obtain ⟨p, hp, sp, rfl⟩ := mem_spr.mp h
  exact ⟨p, self_src W hp⟩
omit W in
/-- signs of sets that are apart are unlike -/
theorem pick_nodup {f : List Int → Int} : ∀ {L : List (List Int)}, L.Nodup → (∀ S ∈ L, f S ∈ S) → (∀ S ∈ L, ∀ T ∈ L, ∀ x, x ∈ S → x ∈ T → S = T) → (L.map f).Nodup
  | [], _, _, _ => List.nodup_nil
  | S :: L, nd, hf, hd => by
    obtain ⟨n1, n2⟩ := List.nodup_cons.mp nd
    rw [List.map_cons, List.nodup_cons]
    refine ⟨fun hm => ?_, pick_nodup n2 (fun T hT => hf T (List.mem_cons_of_mem _ hT)) fun T hT U hU => hd T (List.mem_cons_of_mem _ hT) U (List.mem_cons_of_mem _ hU)⟩
    obtain ⟨T, hT, e⟩ := List.mem_map.mp hm
    have h1 := hf S List.mem_cons_self
    have h2 := hf T (List.mem_cons_of_mem _ hT)
    rw [e] at h2
    exact n1 (hd S List.mem_cons_self T (List.mem_cons_of_mem _ hT) _ h1 h2 ▸ hT)
/-- so many signs at least are left: D holds the signs of t -/
theorem left_ge {t D : List Int} (h : Rst n arcs t) (hD : ∀ x ∈ t, x ∈ D) : (sprL n arcs).length ≤ D.length := by
  have hl := h.len
  have key := len_le_of_sub (m := D) (pick_nodup (L := sprL n arcs) (f := fun S => at1 t (S.headD 0)) nodup_spr (fun S hS => ?_) fun S hS T hT x => spr_apart W hS hT) fun x hx => ?_
  · rw [List.length_map] at key; exact key
  · obtain ⟨x, hx⟩ := spr_ne W hS
    refine h.closed W (spr_closed W hS) (spr_range W hS) _ ?_
    cases S with
    | nil => simp at hx
    | cons y r => exact List.mem_cons_self
  · obtain ⟨S, hS, rfl⟩ := List.mem_map.mp hx
    refine hD _ (at1_mem ?_)
    obtain ⟨x, hx⟩ := spr_ne W hS
    have hr : 1 ≤ S.headD 0 ∧ S.headD 0 ≤ n := by
      refine spr_range W hS _ ?_
      cases S with
      | nil => simp at hx
      | cons y r => exact List.mem_cons_self
    omega
/-- one of each spring -/
def reps (n : Int) (arcs : List Arc) : List Int := (sprL n arcs).map fun S => S.headD 0
omit W in
theorem reps_len : (reps n arcs).length = (sprL n arcs).length := List.length_map _
theorem rep_of {q : Int} (hq : 1 ≤ q ∧ q ≤ n) : ∃ p ∈ reps n arcs, (1 ≤ p ∧ p ≤ n) ∧ Reach arcs p q := by
  obtain ⟨r, hr, sr, rr⟩ := spr_of W hq
  have hm : src n arcs r ∈ sprL n arcs := mem_spr.mpr ⟨r, hr, sr, rfl⟩
  have hp : (src n arcs r).headD 0 ∈ src n arcs r := by
    have := self_src W hr
    cases e : src n arcs r with
    | nil => rw [e] at this; simp at this
    | cons y s => exact List.mem_cons_self
  obtain ⟨h1, h2⟩ := (mem_src W).mp hp
  exact ⟨_, List.mem_map.mpr ⟨_, hm, rfl⟩, h1, h2.trans rr⟩
theorem left_all : ∀ (k : Nat) (t : List Int), Rst n arcs t → (∀ p ∈ reps n arcs, 1 ≤ p ∧ p ≤ n → at1 t p ∈ reps n arcs) → ((people n).filter fun q => decide (at1 t q ∉ reps n arcs)).length ≤ k →
    ∃ t', Rst n arcs t' ∧ ∀ q, 1 ≤ q ∧ q ≤ n → at1 t' q ∈ reps n arcs := by
  intro k
  induction k with
  | zero =>
    intro t ht _ hk
    refine ⟨t, ht, fun q hq => Classical.byContradiction fun z => ?_⟩
    have : q ∈ (people n).filter fun q => decide (at1 t q ∉ reps n arcs) := List.mem_filter.mpr ⟨mem_people.mpr hq, decide_eq_true z⟩
    have := List.length_pos_of_mem this
    omega
  | succ k ih =>
    intro t ht hr hk
    by_cases all : ∀ q, 1 ≤ q ∧ q ≤ n → at1 t q ∈ reps n arcs
    · exact ⟨t, ht, all⟩
    · obtain ⟨q, hq⟩ := Classical.not_forall.mp all
      have hq1 : 1 ≤ q ∧ q ≤ n := Classical.byContradiction fun z => hq fun y => absurd y z
      have hq2 : at1 t q ∉ reps n arcs := fun z => hq fun _ => z
      obtain ⟨p, hp, hp1, hpq⟩ := rep_of W hq1
      obtain ⟨a, ha, g1, g2⟩ := hpq.turn (P := fun x => at1 t x ∈ reps n arcs) (hr p hp hp1) hq2
      obtain ⟨a1, a2, a3, a4, _⟩ := W.ok a ha
      have hl := ht.len
      have stp : ∀ x, 1 ≤ x ∧ x ≤ n → at1 (stepS t a) x = if x = a.2 then at1 t a.1 else at1 t x := fun x hx => at1_step (by omega) a3
      refine ih (stepS t a) (ht.step ha) (fun x hx hx1 => ?_) ?_
      · rw [stp x hx1]
        split
        · exact g1
        · exact hr x hx hx1
      · have : ((people n).filter fun q => decide (at1 (stepS t a) q ∉ reps n arcs)).length < ((people n).filter fun q => decide (at1 t q ∉ reps n arcs)).length := by
          refine len_lt_of (y := a.2) ((nodup_people n).sublist List.filter_sublist) (fun x hx => ?_) (List.mem_filter.mpr ⟨mem_people.mpr ⟨a3, a4⟩, decide_eq_true g2⟩) fun z => ?_
          · obtain ⟨h1, h2⟩ := List.mem_filter.mp hx
            refine List.mem_filter.mpr ⟨h1, ?_⟩
            have h2 := of_decide_eq_true h2
            rw [stp x (mem_people.mp h1)] at h2
            split at h2
            · exact absurd g1 h2
            · exact decide_eq_true h2
          · have h2 := of_decide_eq_true (List.mem_filter.mp z).2
            rw [stp a.2 ⟨a3, a4⟩, if_pos rfl] at h2
            exact h2 g1
        omega
/-- so few signs can be left -/
theorem left_le : ∃ t, Rst n arcs t ∧ ∀ D : List Int, D.Nodup → (∀ x ∈ D, x ∈ t) → D.length ≤ (sprL n arcs).length := by
  obtain ⟨t, ht, h⟩ := left_all W _ (people n) .start (fun p hp hp1 => by rw [at1_people hp1]; exact hp) (Nat.le_refl _)
  refine ⟨t, ht, fun D nd hD => ?_⟩
  rw [← reps_len]
  refine len_le_of_sub nd fun x hx => ?_
  obtain ⟨q, hq, rfl⟩ := mem_at1 (hD x hx)
  have hl := ht.len
  have := W.lo
  exact h q (by omega)
end
end Bel
set_option Elab.async false
set_option linter.all false
set_option maxRecDepth 100000
set_option maxHeartbeats 4000000
/-! all(..), any(..) of a generator expression over anything that PI serves, its element any expression of the layer. -/
namespace GxA
open PySem PySem.Spec PyProof.Rows L2 GxR GenW

theorem over_loop0 {A : Around} {elt tg iter : Expr} {scope : Scope} {pos : Pos} {it : Value} {env : Env} : A.over (.compLoop (.GeneratorExp elt [⟨tg, iter, [], 0⟩] scope pos) 0 it .none env) [] = A.deeper env := rfl
theorem over_start0 {A : Around} {elt tg iter : Expr} {scope : Scope} {pos : Pos} {it : Value} {env : Env} : A.over (.compStart (.GeneratorExp elt [⟨tg, iter, [], 0⟩] scope pos) 0 it .none env) [] = A.deeper env := rfl

/-- around the generator's code -/
abbrev gA (A : Around) (cenv : Env) : Around := A.in1.in1.deeper cenv
theorem room_gA {k : Nat} {A : Around} {cenv : Env} (hr : Room (k + 1) A) : Room k (gA A cenv) :=
  ⟨hr.hd, by have := hr.dp; show A.depth + 1 + 3 * k + 5 < _; omega, by have := hr.un; show A.units + 1 + 1 + 3 + 16 * k + 200 < _; omega⟩

/-- the generator expression's names: its own (behind the def's in the list of names), captured ones, globals -/
structure GenO (N : List Str) (sc scope : Scope) (own : List Str) : Prop where
  kind : scope.kind = .function
  co : scope.isCoroutine = false
  cell : ∀ y ∈ scope.names, y.2 ≠ .cell
  dot : scope.names.lookup (".0" : Str) = some NameKind.local
  free : ∀ y ∈ scope.names, y.2 = .free → sc.names.lookup y.1 = some .cell ∨ sc.names.lookup y.1 = some .free
  nloc : ∀ y ∈ scope.names, y.2 = .local → y.1 ∉ N
  nd : (N ++ own).Nodup
def genOB (N : List Str) (sc scope : Scope) (own : List Str) : Bool :=
  decide (scope.kind = .function) && (!scope.isCoroutine && (decide (scope.names.lookup (".0" : Str) = some NameKind.local) && (decide (N ++ own).Nodup &&
    scope.names.all fun y => !decide (y.2 = .cell) && ((!decide (y.2 = .free) || (decide (sc.names.lookup y.1 = some .cell) || decide (sc.names.lookup y.1 = some .free))) && (!decide (y.2 = .local) || !decide (y.1 ∈ N))))))
theorem genO_by {N : List Str} {sc scope : Scope} {own : List Str} (h : genOB N sc scope own = true) : GenO N sc scope own := by
  unfold genOB at h
  simp only [Bool.and_eq_true, Bool.or_eq_true, Bool.not_eq_true', decide_eq_true_eq, decide_eq_false_iff_not, List.all_eq_true] at h
  obtain ⟨h1, h2, h3, h4, h5⟩ := h
  refine ⟨h1, h2, fun y hy => (h5 y hy).1, h3, fun y hy e => ?_, fun y hy e => ?_, h4⟩
  · rcases (h5 y hy).2.1 with z | z
    · exact absurd e z
    · exact z
  · rcases (h5 y hy).2.2 with z | z
    · exact absurd e z
    · exact z

/-- the generator's context -/
abbrev gcx (X : Cx) (s : Shared) (H : Hp) (cenv : Env) (fp : List Addr) (own : List Str) : Cx :=
  { X with A := gA X.A cenv, N := X.N ++ own, s_0 := s, H_0 := H, env := cenv, outer := X.stack, stack := cenv :: X.stack, ex := fp, fn := fun _ => false, calm := true, pn := [], xe := fun _ _ => False }

/-- the generator's object -/
abbrev genO (fs : Array Value) : Obj := { cls := .type "generator", data := .fields fs }
/-- while the generator sleeps nothing but the table of generators is touched -/
structure Slept (s s' : Shared) : Prop where
  heap : s'.heap = s.heap
  os : s'.os = s.os
  bare : AllBare s'.gens
theorem Slept.inv {X : Cx} {pins : List (Addr × Obj)} {σ : L2.St} {H : Hp} {s s' : Shared} (I : Inv X pins σ H s) (z : Slept s s') : Inv X pins σ H s' := by
  obtain ⟨e1, e2, e3⟩ := z
  obtain ⟨h, g, d, t, o⟩ := s'
  have e1 : h = s.heap := e1
  have e2 : o = s.os := e2
  subst e1 e2
  exact ⟨I.ok, I.os, e3, I.base, I.loc, I.cell, I.free, I.freeC, I.pin, I.hok, I.len⟩
theorem bare_set {s : Shared} {g : Nat} {x : GenState} (h : AllBare s.gens) (hx : x.bare = true) : AllBare (s.setGen g x).gens := by
  intro y hy
  have hy : y ∈ s.gens.setIfInBounds g x := hy
  obtain ⟨i, hi, rfl⟩ := Array.mem_iff_getElem.mp hy
  by_cases e : g = i
  · subst e
    have hi' : g < s.gens.size := by simpa using hi
    rw [Array.getElem_setIfInBounds_self]
    exact hx
  · have hi' : i < s.gens.size := by simpa using hi
    rw [Array.getElem_setIfInBounds_ne hi' e]
    exact h _ (Array.getElem_mem hi')

section
variable {X : Cx} {pins : List (Addr × Obj)} {σ : L2.St} {H : Hp} {s : Shared} {scope : Scope} {own : List Str} {fp : List Addr}
theorem gen_start {code : Value} {fs : Array Value} {h' : Heap} {it : Value} {g' : Array GenState} {tk : Nat} {k : Nat} (hr : Room (k + 1) X.A) (I : Inv X pins σ H s) (S : GenO X.N X.env.scope scope own) (hfp : ∀ b ∈ fp, FpOk X pins H b ∧ b < s.heap.objs.size)
    (hn : h'.Ns s.heap.objs.size (fun y => if y = ".0" then some it else none)) (hs : Heap.SameBut s.heap.objs.size (s.heap.push { cls := .type "frame", data := .dict #[] }) h') (hg : AllBare g') :
    Inv (gcx X s H (genEnv scope (cloFrom X.env.cells scope.names []) s.heap.objs.size code builtinsNs X.env) fp own) [(h'.objs.size, genO fs)] (σ ++ List.replicate own.length none) H
      { s with gens := g', toks := tk, heap := h'.push (genO fs) } := by
  have hfree : ∀ y ∈ scope.names, y.2 = .free → ∃ c, X.env.cells.lookup y.1 = some c := fun y hy e => by
    rcases S.free y hy e with k | k
    · exact I.ok.has _ (.inl k)
    · exact I.ok.has _ (.inr k)
  have hsz : h'.objs.size = s.heap.objs.size + 1 := by rw [hs.1, Heap.size_push]
  have kp : ∀ b o, s.heap.get? b = some o → (h'.push (genO fs)).get? b = some o := fun b o e => Heap.get?_push_of_some _ (hs.extBut b o (Nat.ne_of_lt (Heap.lt_size e)) (Heap.get?_push_of_some _ e))
  have cm : ∀ {y c}, (cloFrom X.env.cells scope.names []).lookup y = some c → X.env.cells.lookup y = some c := fun {y c} e => by
    rcases cloFrom_mem (PySem.mem_of_lookup e) with hm | ⟨h1, h2⟩
    · cases hm
    · obtain ⟨c1, hc⟩ := hfree _ h1 rfl
      have hc : X.env.cells.lookup y = some c1 := hc
      have e2 : c = c1 := by
        rw [h2, hc] <;> rfl
      rw [e2]
      exact hc
  have look : ∀ {y}, scope.names.lookup y = some .free → ∃ c, (cloFrom X.env.cells scope.names []).lookup y = some c := fun {y} hl => by
    have hy : (y, NameKind.free) ∈ scope.names := PySem.mem_of_lookup hl
    exact mem_lookup (cloFrom_has (cells := X.env.cells) (acc := []) hy)
  have clt : ∀ {y c}, X.env.cells.lookup y = some c → c < s.heap.objs.size := fun {y c} e => by
    obtain ⟨w', z⟩ := I.cell _ _ e
    exact z.lt
  refine ⟨⟨I.ok.mod, S.kind, I.ok.glob, rfl, Nat.le_refl _, fun y z c e1 e2 => I.ok.inj y z c (cm e1) (cm e2), fun y hy => ?_, fun y c z _ => ?_, fun _ => hr.hd, Around.frames_deeper I.ok.frames, .inr ⟨rfl, rfl⟩, fun b hb => ⟨Nat.ne_of_lt (hfp b hb).2, fun y c e z => (hfp b hb).1.2.2.2.2.1 y c (cm e) z⟩,
      I.bs, Nat.le_trans I.ok.bsz I.sz, fun b o e hb => ?_, fun b hb z => ?_, I.stack, I.stkFree⟩,
    rfl, hg, Un.kept kp, ⟨_, hn.push (genO fs), fun i y v e1 e2 e3 => ?_⟩, fun y c e => ?_, I.hok.fresh (Nat.le_refl _), fun y c e => I.freeC y c (cm e), fun p hp => ?_, I.hok.kept kp, ?_⟩
  · have hy : scope.names.lookup y = some .cell ∨ scope.names.lookup y = some .free := hy
    rcases hy with hy | hy
    · exact absurd rfl (S.cell _ (PySem.mem_of_lookup hy))
    · exact look hy
  · have z : false = true := z
    cases z
  · rcases (hfp b hb).1.2.2.2.1 with z | z
    · exact I.ok.noex b o e z
    · exact absurd (Nat.lt_of_lt_of_le (Heap.lt_size e) (Nat.le_trans I.ok.bsz z)) (Nat.lt_irrefl _)
  · rcases List.mem_cons.mp (I.stkSub b z) with z | z
    · exact (hfp b hb).1.2.1 z
    · exact (hfp b hb).1.2.2.1 z
  · have hlen := I.len
    have hi : i < σ.length := by
      refine Classical.byContradiction fun hc => ?_
      rw [List.getElem?_append_right (by omega), List.getElem?_replicate] at e2
      split at e2 <;> cases e2
    rw [List.getElem?_append_left hi] at e2
    have e1 : (X.N ++ own)[i]? = some y := e1
    rw [List.getElem?_append_left (by rw [← hlen]; exact hi)] at e1
    have e3 : Vis scope y := e3
    have hfr : scope.names.lookup y = some .free := by
      rcases e3 with k | k | k
      · exact absurd (List.mem_of_getElem? e1) (S.nloc _ (PySem.mem_of_lookup k) rfl)
      · exact absurd rfl (S.cell _ (PySem.mem_of_lookup k))
      · exact k
    obtain ⟨m, hm, hl⟩ := I.loc
    have hvis : Vis X.env.scope y := (S.free _ (PySem.mem_of_lookup hfr) rfl).elim (fun k => .inr (.inl k)) (fun k => .inr (.inr k))
    obtain ⟨w', r, q⟩ := hl i y v e1 e2 hvis
    obtain ⟨c2, h2⟩ := look hfr
    refine ⟨w', r, .inr ⟨.inr hfr, c2, h2, ?_⟩⟩
    have c1 := cm h2
    rcases q with ⟨k', _⟩ | ⟨_, c3, e', z⟩
    · have k' : X.env.scope.names.lookup y = some .local := k'
      rcases S.free _ (PySem.mem_of_lookup hfr) rfl with k2 | k2 <;> rw [show X.env.scope.names.lookup y = _ from k2] at k' <;> cases k'
    · rw [c1] at e'
      cases e'
      exact z.keeps kp
  · obtain ⟨w', z⟩ := I.cell y c (cm e)
    exact ⟨w', z.keeps kp⟩
  · have hp : p = (h'.objs.size, genO fs) := by
      have hp : p ∈ ([] : List (Addr × Obj)) ++ [(h'.objs.size, genO fs)] := hp
      simpa using hp
    subst hp
    refine ⟨Heap.get?_push_size _ rfl, I.hok.fresh (by show s.heap.objs.size ≤ h'.objs.size; omega), ?_, fun z => ?_, fun v q => by cases q⟩
    · show h'.objs.size ≠ s.heap.objs.size
      omega
    · have hz : h'.objs.size ∈ frs X.stack := z
      rcases List.mem_cons.mp (I.stkSub _ hz) with e | e
      · have h9 : (h'.objs.size : Nat) < s.heap.objs.size := by
          have e : h'.objs.size = X.env.locals := e
          rw [e]
          exact I.lt
        omega
      · exact I.nofs (by omega) e
  · rw [List.length_append, List.length_replicate, I.len]
    exact (List.length_append).symm

/-! ### the generator's run -/
/-- the loop by the turn and a measure (as a comprehension's): d: what is handed back where no element is other than d -/
abbrev Turns (J : It) (g : TG) (te : TE) (d : Bool) (W : Nat → Nat → Hp → Prop) (Qd : VK) (σ0 : L2.St) : Prop :=
  ∀ i m H, W i m H → (J.stop i H ∧ Qd (.bl d) H) ∨ (J.go i H ∧ ∃ N : Hp → Prop, (∀ H', N H' → ∃ m', m' < m ∧ W (i + 1) m' H') ∧ ∀ x H', J.yld i H x H' → g x σ0 H' fun σ2 H2 =>
    (σ2.length = σ0.length ∧ ∀ (j : Nat) v, σ0[j]? = some (some v) → σ2[j]? = some (some v)) ∧ te σ2 H2 fun y H3 => ∃ b, y = .bl b ∧ if b = d then N H3 else Qd (.bl (!d)) H3)
/-- at turn i, m turns at most to go -/
def AtTurn (X : Cx) (pins : List (Addr × Obj)) (σ0 : L2.St) (fp : List Addr) (tn : Nat → Heap → Prop) (W : Nat → Nat → Hp → Prop) (i m : Nat) (s : Shared) : Prop :=
  ∃ H', Inv X pins σ0 H' s ∧ (∀ b ∈ fp, H' b = none) ∧ tn i s.heap ∧ W i m H'
def Over (X : Cx) (pins : List (Addr × Obj)) (σ0 : L2.St) (Qd : VK) (b : Bool) (s : Shared) : Prop := ∃ H', Inv X pins σ0 H' s ∧ Qd (.bl b) H'
def genY (X : Cx) (pins : List (Addr × Obj)) (σ0 : L2.St) (fp : List Addr) (tn : Nat → Heap → Prop) (W : Nat → Nat → Hp → Prop) (Qd : VK) (d : Bool) : Protocol := fun n s₀ v s kap =>
  s₀.gens.size ≤ s.gens.size ∧ AllBare s.gens ∧ ∃ b, v = .bool b ∧ if b = d then ∃ i m, m < n ∧ AtTurn X pins σ0 fp tn W i m s ∧ ∀ s'', Slept s s'' → kap (.send .none) s'' else Over X pins σ0 Qd (!d) s
def genR (X : Cx) (pins : List (Addr × Obj)) (σ0 : L2.St) (Qd : VK) (d : Bool) : Nat → Shared → Shared → Prop := fun _ s₀ s => s₀.gens.size ≤ s.gens.size ∧ Over X pins σ0 Qd d s
theorem AtTurn.slept {X : Cx} {pins : List (Addr × Obj)} {σ0 : L2.St} {fp : List Addr} {tn : Nat → Heap → Prop} {W : Nat → Nat → Hp → Prop} {i m : Nat} {s s' : Shared} (h : AtTurn X pins σ0 fp tn W i m s) (z : Slept s s') : AtTurn X pins σ0 fp tn W i m s' := by
  obtain ⟨H', I, f, t, w⟩ := h
  exact ⟨H', Slept.inv I z, f, by rw [z.heap]; exact t, w⟩
end

section
variable {X : Cx} {s4 : Shared} {H4 : Hp} {cenv : Env} {fp : List Addr} {own : List Str} {a : Addr} {ob : Obj} {σ0 : L2.St} {Qd : VK} {d : Bool} {J : It} {g : TG} {te : TE} {W : Nat → Nat → Hp → Prop} {it : Addr} {tn : Nat → Heap → Prop}
  {elt tg iter : Expr} {scope : Scope} {pos : Pos}
theorem seg_loop (hsc : cenv.scope = scope) (hco : scope.isCoroutine = false) (T : Turn X.prog X.w X.K tg J fp it tn) (ha : ∀ b ∈ fp, b ≠ a)
    (hg : PG (gcx X s4 H4 cenv fp own) tg g) (he : PE (gcx X s4 H4 cenv fp own) elt te) (turn : Turns J g te d W Qd σ0) :
    ∀ (m i n : Nat) (s₀ s : Shared), m < n → s₀.gens.size ≤ s.gens.size → AtTurn (gcx X s4 H4 cenv fp own) [(a, ob)] σ0 fp tn W i m s →
      Seg (model X.prog X.w) X.A.in1.in1 (fun n s₀ r s₁ => r = .ok .next ∧ genR (gcx X s4 H4 cenv fp own) [(a, ob)] σ0 Qd d n s₀ s₁) (genY (gcx X s4 H4 cenv fp own) [(a, ob)] σ0 fp tn W Qd d) n s₀
        (.compLoop (.GeneratorExp elt [⟨tg, iter, [], 0⟩] scope pos) 0 (.ref it) .none cenv)
        ((model X.prog X.w).den (.compLoop (.GeneratorExp elt [⟨tg, iter, [], 0⟩] scope pos) 0 (.ref it) .none cenv)) [] s := by
  have stat : ∀ {H' : Hp} {σ' : L2.St} {s' : Shared}, Inv (gcx X s4 H4 cenv fp own) [(a, ob)] σ' H' s' → (∀ b ∈ fp, H' b = none) → ∀ b ∈ fp, FpOk (gcx X s4 H4 cenv fp own) [(a, ob)] H' b := fun {H' σ' s'} I' hn b hb =>
    ⟨hn b hb, (I'.ok.exf b hb).1, I'.ok.exfs b hb, .inl hb, fun x c e => (I'.ok.exf b hb).2 x c e, fun p hp => by
      have hp : p ∈ ([] : List (Addr × Obj)) ++ [(a, ob)] := hp
      have e : p = (a, ob) := by simpa using hp
      rw [e]
      exact (ha b hb).symm⟩
  intro m
  induction m using Nat.strongRecOn with
  | _ m ih =>
    intro i n s₀ s hmn hsz hat
    obtain ⟨H5, I5, n5, st5, w5⟩ := hat
    show Seg _ X.A.in1.in1 _ _ n s₀ _ ((compTurn (.GeneratorExp elt [⟨tg, iter, [], 0⟩] scope pos) 0 (.ref it) .none cenv).onRaise (leaving cenv)) [] s
    rw [compTurn_gen, Sem.onRaise_eq_wrap]
    refine seg_bind_wrap (wpAny_standAt ?_)
    rcases turn i m H5 w5 with ⟨stop, qq⟩ | ⟨go, N, hN, step⟩
    · refine seg_bind_wrap ?_
      rw [over_loop0]
      refine wpAny_gsz hsz (thnF (T.done (gcx X s4 H4 cenv fp own) rfl rfl rfl rfl i [(a, ob)] s σ0 H5 (fun _ _ => False) I5 (stat I5 n5) st5 stop) fun r s6 ⟨hr, I6⟩ hz => ?_)
      subst hr
      exact seg_end (.ok .next) ⟨rfl, hz, H5, I6, qq⟩
    · refine seg_bind_wrap ?_
      rw [over_loop0]
      refine wpAny_gsz hsz (thnF (T.item (gcx X s4 H4 cenv fp own) rfl rfl rfl rfl i [(a, ob)] s σ0 H5 (fun _ _ => False) I5 (stat I5 n5) st5 go) fun r s6 ⟨u, hr, h6⟩ z6 => ?_)
      subst hr
      refine seg_bind_wrap ?_
      rw [over_loop0]
      refine wpAny_gsz z6 (thnF h6 fun _ s7 ⟨x, H7, I7, r7, y7, st7, n7⟩ z7 => ?_)
      have I7' := I7.pinned (stat I7 n7) (T.obj _ _ st7)
      refine seg_bind_wrap ?_
      rw [over_loop0]
      refine wpAny_gsz z7 (thnF (hg.run _ s7 σ0 H7 x u _ I7' r7 (step x H7 y7)) fun _ s8 ⟨σ8, H8, I8, hw8, q8⟩ z8 => ?_)
      refine seg_bind_wrap ?_
      refine wpAny_tests_nil ?_
      simp only [if_true]
      have hco' : cenv.scope.isCoroutine = false := by rw [hsc]; exact hco
      have hy : ∀ v, yieldOut cenv v = yieldValue v := fun v => by simp only [yieldOut, hco', Bool.false_eq_true, if_false]
      simp only [hy]
      rw [Sem.bind_eq_wrap', Sem.bind_eq_wrap', Sem.wrap_wrap, Sem.wrap_wrap]
      refine seg_wrap ?_
      rw [over_loop0]
      obtain ⟨hl8, hk8⟩ := hw8
      refine wpAny_gsz z8 (thnF (he.run _ s8 σ8 H8 _ I8 q8) fun y s9 ⟨yv, H9, I9, r9, b, eb, q9⟩ z9 => ?_)
      subst eb
      have r9 : y = Value.bool b := r9
      subst r9
      obtain ⟨k, rfl⟩ : ∃ k, n = k + 1 := ⟨n - 1, by omega⟩
      have pin' : ∀ b ∈ fp, ∀ o, s7.heap.get? b = some o → s9.heap.get? b = some o ∧ H9 b = none := fun b hb o e =>
        let z := I9.pin (b, o) (List.mem_append_right _ (List.mem_append_right _ (mem_pinsAt hb e)))
        ⟨z.1, z.2.1⟩
      have I10 : Inv (gcx X s4 H4 cenv fp own) [(a, ob)] σ0 H9 s9 := (I9.unpinned (pins := [(a, ob)])).weak hl8.symm hk8
      refine seg_at (seg_yield rfl rfl rfl ⟨z9, I10.bare, b, rfl, ?_⟩)
      by_cases e : b = d
      · rw [if_pos e] at q9 ⊢
        obtain ⟨m', hm, w'⟩ := hN H9 q9
        refine ⟨i + 1, m', by omega, ⟨H9, I10, fun b hb => ?_, T.keep _ _ _ st7 fun b hb o e => (pin' b hb o e).1, w'⟩, fun s'' hsl => ?_⟩
        · obtain ⟨o, e, _⟩ := T.obj _ _ st7 b hb
          exact (pin' b hb o e).2
        · refine seg_again rfl (ih m' hm (i + 1) k s'' s'' (by omega) (Nat.le_refl _) ?_)
          refine AtTurn.slept ⟨H9, I10, fun b hb => ?_, T.keep _ _ _ st7 fun b hb o e => (pin' b hb o e).1, w'⟩ hsl
          obtain ⟨o, e, _⟩ := T.obj _ _ st7 b hb
          exact (pin' b hb o e).2
      · rw [if_neg e] at q9 ⊢
        exact ⟨H9, I10, q9⟩
theorem seg_start (hsc : cenv.scope = scope) (hco : scope.isCoroutine = false) (T : Turn X.prog X.w X.K tg J fp it tn) (ha : ∀ b ∈ fp, b ≠ a)
    (hg : PG (gcx X s4 H4 cenv fp own) tg g) (he : PE (gcx X s4 H4 cenv fp own) elt te) (turn : Turns J g te d W Qd σ0) {m i n : Nat} {s₀ s : Shared} (hmn : m < n) (hsz : s₀.gens.size ≤ s.gens.size)
    (hat : AtTurn (gcx X s4 H4 cenv fp own) [(a, ob)] σ0 fp tn W i m s) :
      Seg (model X.prog X.w) X.A.in1.in1 (fun n s₀ r s₁ => r = .ok .next ∧ genR (gcx X s4 H4 cenv fp own) [(a, ob)] σ0 Qd d n s₀ s₁) (genY (gcx X s4 H4 cenv fp own) [(a, ob)] σ0 fp tn W Qd d) n s₀
        (.compStart (.GeneratorExp elt [⟨tg, iter, [], 0⟩] scope pos) 0 (.ref it) .none cenv)
        ((model X.prog X.w).den (.compStart (.GeneratorExp elt [⟨tg, iter, [], 0⟩] scope pos) 0 (.ref it) .none cenv)) [] s := by
  have loop := seg_loop (pos := pos) (iter := iter) hsc hco T ha hg he turn m i n s₀ s hmn hsz hat
  obtain ⟨H5, I5, n5, st5, w5⟩ := hat
  show Seg _ X.A.in1.in1 _ _ n s₀ _ ((compStart (.GeneratorExp elt [⟨tg, iter, [], 0⟩] scope pos) 0 (.ref it) .none cenv).onRaise (leaving cenv)) [] s
  unfold compStart
  rw [Sem.onRaise_eq_wrap]
  show Seg _ X.A.in1.in1 _ _ n s₀ _ ((ask >>= _).wrap _ _ _ _) [] s
  refine seg_bind_wrap (wpAny_askSetting ?_)
  split
  · exact seg_again rfl loop
  · first
      | exact seg_bind_wrap (wpAny_rule (seg_bind_wrap (wpAny_standAt (seg_bind_wrap (T.self _ i s _ _ st5 (seg_again rfl loop))))))
      | (refine seg_bind_wrap (wpAny_rule ?_); show Seg _ X.A.in1.in1 _ _ n s₀ _ ((standAt iter.pos >>= _).wrap _ _ _ _) [] s; exact seg_bind_wrap (wpAny_standAt (seg_bind_wrap (T.self _ i s _ _ st5 (seg_again rfl loop)))))

/-- a sleeping generator that may be woken -/
def Sleeps (X : Cx) (XG : Cx) (pins : List (Addr × Obj)) (σ0 : L2.St) (fp : List Addr) (tn : Nat → Heap → Prop) (W : Nat → Nat → Hp → Prop) (Qd : VK) (d : Bool) (gn n : Nat) (s : Shared) : Prop :=
  ∃ gs, s.gens[gn]? = some gs ∧ ∀ s'', Slept s s'' → gs.Goes (model X.prog X.w) X.A.in1.in1 (fun n s₀ r s₁ => r = .ok .next ∧ genR XG pins σ0 Qd d n s₀ s₁) (genY XG pins σ0 fp tn W Qd d) n (.send .none) s''
theorem isGen_of {XG : Cx} {pins : List (Addr × Obj)} {H : Hp} {s : Shared} {gn : Nat} {nm qn : Value} (I : Inv XG ((a, genO #[.int gn 0, nm, qn]) :: pins) σ0 H s) : s.heap.IsGen a gn :=
  ⟨_, nm, qn, (I.pin (a, genO #[.int gn 0, nm, qn]) (List.mem_append_right _ List.mem_cons_self)).1, rfl, rfl, rfl⟩
/-- one waking -/
theorem wake {XG : Cx} {gn n : Nat} {nm qn : Value} {s : Shared} {Q : Option Value → Shared → Prop} {E : Value → Shared → Prop} (hh : X.A.handled = none) (hroom : X.A.depth < recursionLimit)
    (hI : ∃ H', Inv XG [(a, genO #[.int gn 0, nm, qn])] σ0 H' s) (hz : Sleeps X XG [(a, genO #[.int gn 0, nm, qn])] σ0 fp tn W Qd d gn n s)
    (hY : ∀ b s', (∃ H', Inv XG [(a, genO #[.int gn 0, nm, qn])] σ0 H' s') → ((b = d ∧ ∃ k, n = k + 1 ∧ Sleeps X XG [(a, genO #[.int gn 0, nm, qn])] σ0 fp tn W Qd d gn k s') ∨ (b ≠ d ∧ Over XG [(a, genO #[.int gn 0, nm, qn])] σ0 Qd (!d) s')) → Q (some (.bool b)) s')
    (hD : ∀ s', Over XG [(a, genO #[.int gn 0, nm, qn])] σ0 Qd d s' → Q none s') : wpAny (model X.prog X.w) X.A.in1 (pyNext (.ref a)) Q E s := by
  obtain ⟨H', I⟩ := hI
  obtain ⟨gs, hgs, hgo⟩ := hz
  have hsl : Slept s (s.setGen gn .running) := ⟨rfl, rfl, bare_set I.bare rfl⟩
  have hlt : gn < s.gens.size := by
    obtain ⟨h, _⟩ := Array.getElem?_eq_some_iff.mp hgs
    exact h
  have hsz0 : (s.setGen gn .running).gens.size = s.gens.size := by simp [Shared.setGen]
  refine wpAny_pyNext_genexpQ (A := X.A.in1) (P := fun n s₀ s₁ => genR XG [(a, genO #[.int gn 0, nm, qn])] σ0 Qd d n s₀ s₁) hh I.nolimit hroom (isGen_of I) hgs (hgo _ hsl) (fun v s₁ gs' hb hv => ?_) (fun s₁ hp h' hk => ?_)
  · obtain ⟨hz1, hbare, b, rfl, hv⟩ := hv
    have hlt1 : gn < s₁.gens.size := Nat.lt_of_lt_of_le hlt (by rw [hsz0] at hz1; exact hz1)
    have sl1 : Slept s₁ (s₁.setGen gn gs') := ⟨rfl, rfl, bare_set hbare hb⟩
    have get1 : (s₁.setGen gn gs').gens[gn]? = some gs' := by
      show (s₁.gens.setIfInBounds gn gs')[gn]? = some gs'
      rw [Array.getElem?_setIfInBounds_self_of_lt hlt1]
    by_cases e : b = d
    · rw [if_pos e] at hv
      obtain ⟨i, m, hm, ⟨H1, I1, r1⟩, hkap⟩ := hv
      refine hY b _ ⟨H1, Slept.inv I1 sl1⟩ (.inl ⟨e, ?_⟩)
      cases n with
      | zero => exact absurd hm (Nat.not_lt_zero _)
      | succ k => exact ⟨k, rfl, gs', get1, fun s'' hs => hkap s'' ⟨hs.heap, hs.os, hs.bare⟩⟩
    · rw [if_neg e] at hv
      obtain ⟨H1, I1, q1⟩ := hv
      exact hY b _ ⟨H1, Slept.inv I1 sl1⟩ (.inr ⟨e, H1, Slept.inv I1 sl1, q1⟩)
  · obtain ⟨hz1, H1, I1, q1⟩ := hp
    have sl1 : Slept s₁ (s₁.setGen gn .finished) := ⟨rfl, rfl, bare_set I1.bare rfl⟩
    refine hD _ ⟨H1, ?_, q1⟩
    have I2 := Slept.inv I1 sl1
    exact I2.kept (t' := s₁.toks) hk
/-- all's loop -/
theorem all_loop {XG : Cx} {gn : Nat} {nm qn : Value} (hh : X.A.handled = none) (hroom : X.A.depth < recursionLimit) : ∀ (n : Nat) (s : Shared) (R : Result → Shared → Prop),
    (∃ H', Inv XG [(a, genO #[.int gn 0, nm, qn])] σ0 H' s) → Sleeps X XG [(a, genO #[.int gn 0, nm, qn])] σ0 fp tn W Qd true gn n s → (∀ b s', Over XG [(a, genO #[.int gn 0, nm, qn])] σ0 Qd b s' → R (.ok (.ret (.bool b))) s') →
    codeAny (model X.prog X.w) X.A (.builtin "all.loop" ⟨[.ref a], []⟩) R s := by
  intro n
  induction n with
  | zero =>
    intro s R hI hz hR
    refine codeAny_builtin F.entry_all_loop ?_
    rw [Around.under_plainId F.plain_all_loop _]
    show wpAny _ X.A.in1 (pyNext (.ref a) >>= _) _ _ s
    refine wpAny_bind (wake hh hroom hI hz (fun b s' hI' hc => ?_) fun s' hO => ?_)
    · rcases hc with ⟨_, k, hk, _⟩ | ⟨hb, hO⟩
      · cases hk
      · have hb : b = false := by simpa using hb
        subst hb
        refine wpAny_bind (wpAny_holding (wpAny_truthy_bool ?_))
        refine wpAny_bind (wpAny_letGo ?_)
        simp only [Bool.false_eq_true, if_false]
        exact wpAny_bind (wpAny_rule (wpAny_pure (hR _ _ hO)))
    · exact wpAny_bind (wpAny_rule (wpAny_pure (hR _ _ hO)))
  | succ n ih =>
    intro s R hI hz hR
    refine codeAny_builtin F.entry_all_loop ?_
    rw [Around.under_plainId F.plain_all_loop _]
    show wpAny _ X.A.in1 (pyNext (.ref a) >>= _) _ _ s
    refine wpAny_bind (wake hh hroom hI hz (fun b s' hI' hc => ?_) fun s' hO => ?_)
    · refine wpAny_bind (wpAny_holding (wpAny_truthy_bool ?_))
      refine wpAny_bind (wpAny_letGo ?_)
      rcases hc with ⟨hb, k, hk, hz'⟩ | ⟨hb, hO⟩
      · subst hb
        cases hk
        simp only [if_true]
        exact wpAny_pure ⟨plainId_quiet F.plain_all_loop _, ih s' R hI' hz' hR⟩
      · have hb : b = false := by simpa using hb
        subst hb
        simp only [Bool.false_eq_true, if_false]
        exact wpAny_bind (wpAny_rule (wpAny_pure (hR _ _ hO)))
    · exact wpAny_bind (wpAny_rule (wpAny_pure (hR _ _ hO)))
/-- any's loop -/
theorem any_loop {XG : Cx} {gn : Nat} {nm qn : Value} (hh : X.A.handled = none) (hroom : X.A.depth < recursionLimit) : ∀ (n : Nat) (s : Shared) (R : Result → Shared → Prop),
    (∃ H', Inv XG [(a, genO #[.int gn 0, nm, qn])] σ0 H' s) → Sleeps X XG [(a, genO #[.int gn 0, nm, qn])] σ0 fp tn W Qd false gn n s → (∀ b s', Over XG [(a, genO #[.int gn 0, nm, qn])] σ0 Qd b s' → R (.ok (.ret (.bool b))) s') →
    codeAny (model X.prog X.w) X.A (.builtin "any.loop" ⟨[.ref a], []⟩) R s := by
  intro n
  induction n with
  | zero =>
    intro s R hI hz hR
    refine codeAny_builtin F.entry_any_loop ?_
    rw [Around.under_plainId F.plain_any_loop _]
    show wpAny _ X.A.in1 (pyNext (.ref a) >>= _) _ _ s
    refine wpAny_bind (wake hh hroom hI hz (fun b s' hI' hc => ?_) fun s' hO => ?_)
    · rcases hc with ⟨_, k, hk, _⟩ | ⟨hb, hO⟩
      · cases hk
      · have hb : b = true := by simpa using hb
        subst hb
        refine wpAny_bind (wpAny_holding (wpAny_truthy_bool ?_))
        refine wpAny_bind (wpAny_letGo ?_)
        simp only [if_true]
        exact wpAny_bind (wpAny_rule (wpAny_pure (hR _ _ hO)))
    · exact wpAny_bind (wpAny_rule (wpAny_pure (hR _ _ hO)))
  | succ n ih =>
    intro s R hI hz hR
    refine codeAny_builtin F.entry_any_loop ?_
    rw [Around.under_plainId F.plain_any_loop _]
    show wpAny _ X.A.in1 (pyNext (.ref a) >>= _) _ _ s
    refine wpAny_bind (wake hh hroom hI hz (fun b s' hI' hc => ?_) fun s' hO => ?_)
    · refine wpAny_bind (wpAny_holding (wpAny_truthy_bool ?_))
      refine wpAny_bind (wpAny_letGo ?_)
      rcases hc with ⟨hb, k, hk, hz'⟩ | ⟨hb, hO⟩
      · subst hb
        cases hk
        simp only [Bool.false_eq_true, if_false]
        exact wpAny_pure ⟨plainId_quiet F.plain_any_loop _, ih s' R hI' hz' hR⟩
      · have hb : b = true := by simpa using hb
        subst hb
        simp only [if_true]
        exact wpAny_bind (wpAny_rule (wpAny_pure (hR _ _ hO)))
    · exact wpAny_bind (wpAny_rule (wpAny_pure (hR _ _ hO)))
end

/-! ### the rule -/
/-- all(elt for tg in iter) (d = true), any(..) (d = false); P: the running def's table, which may grow -/
def tGen (d : Bool) (P : Addr) (wi : TI) (g : TG) (te : TE) (no : Nat) : TE := fun σ H Q => wi σ H fun J H1 => TabG H1 P ∧ ∀ H2, Tabbed P H1 H2 →
  ∃ W : Nat → Nat → Hp → Prop, (∃ m, W 0 m H2) ∧ Turns J g te d W Q (σ ++ List.replicate no none)
section
variable {X : Cx} {tg elt iter : Expr} {scope : Scope} {own : List Str} {gpos pos p : Pos} {wi : TI} {g : TG} {te : TE} {c P : Addr} {k : Nat} {d : Bool}
/-- the generator is made, asleep ahead of its first turn -/
theorem gen_make {pins : List (Addr × Obj)} {σ : L2.St} {H : Hp} {s : Shared} {Q : VK} {Q' : Value → Shared → Prop} (hr : Room (k + 1) X.A) (TB : TabB X.base X.mg c P) (hcode : X.env.code = .ref c) (S : GenO X.N X.env.scope scope own) (hi : PI X tg iter wi)
    (hg : ∀ (s : Shared) (H : Hp) (C : Addr) (code : Value) (fp : List Addr), PG (gcx X s H (genEnv scope (cloFrom X.env.cells scope.names []) C code builtinsNs X.env) fp own) tg g)
    (he : ∀ (s : Shared) (H : Hp) (C : Addr) (code : Value) (fp : List Addr), PE (gcx X s H (genEnv scope (cloFrom X.env.cells scope.names []) C code builtinsNs X.env) fp own) elt te)
    (hs : ∀ v, genFold iter X.env v = pure v) (I : Inv X pins σ H s) (h : tGen d P wi g te own.length σ H Q)
    (hQ : ∀ (XG : Cx) (fp : List Addr) (tn : Nat → Heap → Prop) (W : Nat → Nat → Hp → Prop) (a : Addr) (gn n : Nat) (nm qn : Value) (s5 : Shared), (∃ H', Inv XG [(a, genO #[.int gn 0, nm, qn])] (σ ++ List.replicate own.length none) H' s5) →
      Sleeps X XG [(a, genO #[.int gn 0, nm, qn])] (σ ++ List.replicate own.length none) fp tn W Q d gn n s5 → (∀ b s', Over XG [(a, genO #[.int gn 0, nm, qn])] (σ ++ List.replicate own.length none) Q b s' → EP X pins σ Q (.bool b) s') → Q' (.ref a) s5) :
    wpAny (model X.prog X.w) X.A (eval (.GeneratorExp elt [⟨tg, iter, [], 0⟩] scope gpos) X.env) Q' X.xe s := by
  have hfree : ∀ y ∈ scope.names, y.2 = .free → ∃ c, X.env.cells.lookup y.1 = some c := fun y hy e => by
    rcases S.free y hy e with k | k
    · exact I.ok.has _ (.inl k)
    · exact I.ok.has _ (.inr k)
  refine wpAny_GeneratorExp_make S.co (closure_ok hfree) S.cell S.dot S.kind (by have := hr.dp; omega) ?_ hs
  refine thn (hi.run pins s σ H _ I h) fun xv s1 hx => thn hx fun itv s2 h2 => ?_
  obtain ⟨it, fp, tn, J, H2, rfl, I2, T, st2, f2, ⟨ps, hP, ht⟩, h⟩ := h2
  refine ⟨I2.nolimit, ?_⟩
  have hPs : s2.heap.get? P = some { cls := .none, data := .fields ps } := I2.hok P _ hP
  have cd : PySem.W.CodeHd s2.heap c P := TB.code.keeps I2.bk
  -- from the state behind the code object
  have cont : ∀ (code : Value) (s3 : Shared) (H3 : Hp), Inv X pins σ H3 s3 → Tabbed P H2 H3 → tn 0 s3.heap → (∀ b ∈ fp, H3 b = none) →
      wpAny (model X.prog X.w) X.A (builtinsFor X.env.globals X.env.builtins) (fun bi s₄ =>
        ∀ h', h'.Ns s₄.heap.objs.size (fun y => if y = ".0" then some (Value.ref it) else none) → Heap.SameBut s₄.heap.objs.size (s₄.heap.push { cls := .type "frame", data := .dict #[] }) h' →
          Q' (.ref h'.objs.size) { s₄ with
            gens := s₄.gens.push (.fresh (.compStart (.GeneratorExp elt [⟨tg, iter, [], 0⟩] scope gpos) 0 (.ref it) .none (genEnv scope (cloFrom X.env.cells scope.names []) s₄.heap.objs.size code bi X.env))),
            toks := s₄.toks + 1 + 1 + 1,
            heap := h'.push { cls := .type "generator", data := .fields #[.int s₄.gens.size 0, .str "<genexpr>" (s₄.toks + 1), .str (X.env.qual ++ "<genexpr>") (s₄.toks + 1 + 1)] } }) X.xe s3 := by
    intro code s3 H3 I3 hT st3 n3
    obtain ⟨bm, ob, e1, e2, e3, e4, e5, e6, e7, e8⟩ := TB.bm
    refine wpAny_builtinsFor (m := X.mg) (by rw [I3.ok.glob]; exact I3.mod.glob.keeps I3.bk) e1 e2 (I3.bk _ _ e5) e6 e7 e8 ?_
    intro h' hn' hs'
    obtain ⟨W, ⟨m0, w0⟩, turn⟩ := h H3 hT
    have f3 : ∀ b ∈ fp, FpOk X pins H3 b ∧ b < s3.heap.objs.size := fun b hb => by
      obtain ⟨o, e, _⟩ := T.obj _ _ st3 b hb
      exact ⟨⟨n3 b hb, (f2 b hb).2⟩, Heap.lt_size e⟩
    have hsz : h'.objs.size = s3.heap.objs.size + 1 := by rw [hs'.1, Heap.size_push]
    have ha : ∀ b ∈ fp, b ≠ h'.objs.size := fun b hb e => by
      have h9 : (b : Nat) < s3.heap.objs.size := (f3 b hb).2
      have h8 : (b : Nat) = s3.heap.objs.size + 1 := e.trans hsz
      rw [h8] at h9
      exact Nat.lt_irrefl _ (Nat.lt_of_succ_lt h9)
    have I5 := gen_start (code := code) (fs := #[.int s3.gens.size 0, .str "<genexpr>" (s3.toks + 1), .str (X.env.qual ++ "<genexpr>") (s3.toks + 1 + 1)]) (tk := s3.toks + 1 + 1 + 1)
      (g' := s3.gens.push (.fresh (.compStart (.GeneratorExp elt [⟨tg, iter, [], 0⟩] scope gpos) 0 (.ref it) .none (genEnv scope (cloFrom X.env.cells scope.names []) s3.heap.objs.size code builtinsNs X.env)))) hr I3 S f3 hn' hs' (AllBare.push I3.bare rfl)
    have st5 : tn 0 (h'.push { cls := .type "generator", data := .fields #[.int s3.gens.size 0, .str "<genexpr>" (s3.toks + 1), .str (X.env.qual ++ "<genexpr>") (s3.toks + 1 + 1)] }) := T.keep _ _ _ st3 fun b hb o e =>
      Heap.get?_push_of_some _ (hs'.extBut b o (Nat.ne_of_lt (Heap.lt_size e)) (Heap.get?_push_of_some _ e))
    refine hQ _ fp tn W _ s3.gens.size (m0 + 1) _ _ _ ⟨H3, I5⟩ ⟨_, Array.getElem?_push_size .., fun s'' hsl => ⟨rfl, ?_⟩⟩ fun b s' hO => ?_
    · refine seg_start (pos := gpos) (iter := iter) rfl S.co T ha (hg _ _ _ _ _) (he _ _ _ _ _) turn (m := m0) (i := 0) (Nat.lt_succ_self _) (Nat.le_refl _) ?_
      exact AtTurn.slept ⟨H3, I5, n3, st5, w0⟩ hsl
    · obtain ⟨H', I', q'⟩ := hO
      refine ⟨.bl b, H', I3.call' (ch := fp) I'.os I'.base I'.hok I'.bare fun b hb => ⟨(f3 b hb).1.2.2.2.1, (f3 b hb).1.2.1, (f3 b hb).1.2.2.2.2.1, (f3 b hb).1.2.2.2.2.2⟩, rfl, q'⟩
  have nP : ∀ b ∈ fp, b ≠ P := fun b hb e => by
    have z := (f2 b hb).1
    rw [e, hP] at z
    cases z
  cases hf : codeAmong gpos ps.toList with
  | none =>
    refine wpAny_genexprCodeX hcode (cd.code hPs ht) (cd.tab hPs) hf fun c' h3 tk hx hge hlt hco' _ htab' _ => ?_
    obtain ⟨o1, vs, f1, tf, fl, tgg, inF, tx, tt, op, _, _, _, _, _, _, _, _, _, htr, _⟩ := hco'
    have J3 := inv_tab (more := #[rawInt gpos.line, rawInt gpos.col, .ref c']) (h' := h3) (g' := s2.gens) (d' := s2.drawn) (t' := tk) I2 hP (fun b u hb e => hx b u hb e) htab'.2 I2.bare
    refine cont _ { s2 with heap := h3, toks := tk } _ J3 ⟨⟨_, upd_same, htr⟩, fun b hb => upd_ne hb⟩ (T.keep _ _ _ st2 fun b hb o e => hx b o (nP b hb) e) fun b hb => ?_
    rw [upd_ne (nP b hb)]
    exact (f2 b hb).1
  | some cv =>
    refine wpAny_genexprCode_hit hcode (cd.code hPs ht) hf ?_
    exact cont cv s2 H2 I2 ⟨⟨ps, hP, ht⟩, fun _ _ => rfl⟩ st2 fun b hb => (f2 b hb).1
theorem pe_all (hr : Room (k + 1) X.A) (hgl : Gl X "all") (hm : X.mg "all" = none) (TB : TabB X.base X.mg c P) (hcode : X.env.code = .ref c) (S : GenO X.N X.env.scope scope own) (hi : PI X tg iter wi)
    (hg : ∀ (s : Shared) (H : Hp) (C : Addr) (code : Value) (fp : List Addr), PG (gcx X s H (genEnv scope (cloFrom X.env.cells scope.names []) C code builtinsNs X.env) fp own) tg g)
    (he : ∀ (s : Shared) (H : Hp) (C : Addr) (code : Value) (fp : List Addr), PE (gcx X s H (genEnv scope (cloFrom X.env.cells scope.names []) C code builtinsNs X.env) fp own) elt te)
    (hs : ∀ v, genFold iter X.env v = pure v := by intro _; rfl)
    (hst : starEach [.GeneratorExp elt [⟨tg, iter, [], 0⟩] scope gpos] X.env = (false, eval (.GeneratorExp elt [⟨tg, iter, [], 0⟩] scope gpos) X.env) :: starEach [] X.env := by rfl) :
    PE X (.Call (.Name "all" p) [.GeneratorExp elt [⟨tg, iter, [], 0⟩] scope gpos] [] pos) (tGen true P wi g te own.length) := by
  refine ⟨fun pins s σ H Q I h => ?_⟩
  refine wpAny_Call_Name_kw (ld_blt I hgl hm (show bootBuiltins ("all" : Str) = some (.builtin "all") by decide +kernel) ?_)
  refine PyProof.Rows.callWith_builtin1 ?_ hst (by rfl)
  rw [hst]
  show wpAny _ _ (spliced ((false, eval (.GeneratorExp elt [⟨tg, iter, [], 0⟩] scope gpos) X.env) :: backTo pos (starEach [] X.env))) _ _ s
  refine Calls.spliced_cons (gen_make (k := k) hr TB hcode S hi hg he hs I h fun XG fp tn W a gn n nm qn s5 hI hz hO => ?_)
  refine Calls.spliced_nil ?_
  refine call_function_tree F.kind_all F.plain_all F.entry_all (F.args_all1 _) ?_
  unfold Builtin.«all»
  refine wpAny_bind (m := oneArg "all" _) (wpAny_pure ?_)
  obtain ⟨H', I'⟩ := id hI
  refine wpAny_bind (wpAny_pyIter_gen (isGen_of I') ?_)
  exact wpAny_pure ⟨plainId_quiet F.plain_all_loop _, all_loop hr.hd (by have := hr.dp; omega) n s5 _ hI hz fun b s' hv => hO b s' hv⟩
theorem pe_any (hr : Room (k + 1) X.A) (hgl : Gl X "any") (hm : X.mg "any" = none) (TB : TabB X.base X.mg c P) (hcode : X.env.code = .ref c) (S : GenO X.N X.env.scope scope own) (hi : PI X tg iter wi)
    (hg : ∀ (s : Shared) (H : Hp) (C : Addr) (code : Value) (fp : List Addr), PG (gcx X s H (genEnv scope (cloFrom X.env.cells scope.names []) C code builtinsNs X.env) fp own) tg g)
    (he : ∀ (s : Shared) (H : Hp) (C : Addr) (code : Value) (fp : List Addr), PE (gcx X s H (genEnv scope (cloFrom X.env.cells scope.names []) C code builtinsNs X.env) fp own) elt te)
    (hs : ∀ v, genFold iter X.env v = pure v := by intro _; rfl)
    (hst : starEach [.GeneratorExp elt [⟨tg, iter, [], 0⟩] scope gpos] X.env = (false, eval (.GeneratorExp elt [⟨tg, iter, [], 0⟩] scope gpos) X.env) :: starEach [] X.env := by rfl) :
    PE X (.Call (.Name "any" p) [.GeneratorExp elt [⟨tg, iter, [], 0⟩] scope gpos] [] pos) (tGen false P wi g te own.length) := by
  refine ⟨fun pins s σ H Q I h => ?_⟩
  refine wpAny_Call_Name_kw (ld_blt I hgl hm boot_any ?_)
  refine PyProof.Rows.callWith_builtin1 ?_ hst (by rfl)
  rw [hst]
  show wpAny _ _ (spliced ((false, eval (.GeneratorExp elt [⟨tg, iter, [], 0⟩] scope gpos) X.env) :: backTo pos (starEach [] X.env))) _ _ s
  refine Calls.spliced_cons (gen_make (k := k) hr TB hcode S hi hg he hs I h fun XG fp tn W a gn n nm qn s5 hI hz hO => ?_)
  refine Calls.spliced_nil ?_
  refine call_function_tree F.kind_any F.plain_any F.entry_any (F.args_any1 _) ?_
  unfold Builtin.«any»
  refine wpAny_bind (m := oneArg "any" _) (wpAny_pure ?_)
  obtain ⟨H', I'⟩ := id hI
  refine wpAny_bind (wpAny_pyIter_gen (isGen_of I') ?_)
  exact wpAny_pure ⟨plainId_quiet F.plain_any_loop _, any_loop hr.hd (by have := hr.dp; omega) n s5 _ hI hz fun b s' hv => hO b s' hv⟩
end

/-! ### the forms one uses -/
theorem keep_set {σ : L2.St} {i : Nat} {x : Option V} (h : σ[i]? = some none) : (σ.set i x).length = σ.length ∧ ∀ (j : Nat) v, σ[j]? = some (some v) → (σ.set i x)[j]? = some (some v) := by
  refine ⟨List.length_set, fun j v e => ?_⟩
  by_cases hj : i = j
  · subst hj
    rw [h] at e
    cases e
  · rw [List.getElem?_set_ne hj]
    exact e
theorem keep_set2 {σ : L2.St} {i k : Nat} {x y : Option V} (h : σ[i]? = some none) (h2 : σ[k]? = some none) : ((σ.set i x).set k y).length = σ.length ∧ ∀ (j : Nat) v, σ[j]? = some (some v) → ((σ.set i x).set k y)[j]? = some (some v) := by
  refine ⟨by rw [List.length_set, List.length_set], fun j v e => ?_⟩
  by_cases hk : k = j
  · subst hk
    rw [h2] at e
    cases e
  · rw [List.getElem?_set_ne hk]
    exact (keep_set h).2 j v e
abbrev Kept (σ0 σ2 : L2.St) : Prop := σ2.length = σ0.length ∧ ∀ (j : Nat) v, σ0[j]? = some (some v) → σ2[j]? = some (some v)
/-- a walk of n turns, whatever the walk is: Pv holds ahead of each turn -/
theorem turns_by {S : Type} {Z G : Nat → S → Prop} {B : Nat → (S → Prop) → S → Prop} (n : Nat) (Pv : Nat → S → Prop) {s0 : S} (first : Pv 0 s0) (turn : ∀ i s, i < n → Pv i s → G i s ∧ B i (Pv (i + 1)) s) (last : ∀ s, Pv n s → Z n s) :
    ∃ W : Nat → Nat → S → Prop, (∃ m, W 0 m s0) ∧ ∀ i m s, W i m s → Z i s ∨ (G i s ∧ ∃ N : S → Prop, (∀ s', N s' → ∃ m', m' < m ∧ W (i + 1) m' s') ∧ B i N s) := by
  refine ⟨fun i m s => i + m = n ∧ Pv i s, ⟨n, Nat.zero_add n, first⟩, fun i m s ⟨e, h⟩ => ?_⟩
  cases m with
  | zero =>
    have : i = n := e
    subst this
    exact .inl (last s h)
  | succ m =>
    obtain ⟨h1, h2⟩ := turn i s (by omega) h
    exact .inr ⟨h1, Pv (i + 1), fun s' h' => ⟨m, Nat.lt_succ_self m, by omega, h'⟩, h2⟩
theorem gen_tup {K : PySem.W.Frag} {a : Addr} {xs : List V} {g : TG} {te : TE} {d : Bool} {Q : VK} {σ0 : L2.St} {H : Hp} (Pv : Nat → Hp → Prop) (h0 : Pv 0 H) (hl : ∀ i H, i ≤ xs.length → Pv i H → SqT K H a xs)
    (hs : ∀ i x H, xs[i]? = some x → Pv i H → g x σ0 H fun σ2 H2 => Kept σ0 σ2 ∧ te σ2 H2 fun y H3 => ∃ b, y = .bl b ∧ if b = d then Pv (i + 1) H3 else Q (.bl (!d)) H3) (hd : ∀ H, Pv xs.length H → Q (.bl d) H) :
    ∃ W : Nat → Nat → Hp → Prop, (∃ m, W 0 m H) ∧ Turns (Itt K a) g te d W Q σ0 :=
  turns_by xs.length Pv h0 (fun i H1 hi p => ⟨⟨xs, xs[i], hl i H1 (Nat.le_of_lt hi) p, List.getElem?_eq_getElem hi⟩, fun x H2 y => by
    obtain ⟨rfl, y⟩ := y
    exact hs i x _ (y xs (hl i _ (Nat.le_of_lt hi) p)) p⟩) fun H1 p => ⟨⟨xs, hl _ _ (Nat.le_refl _) p, Nat.le_refl _⟩, hd H1 p⟩
theorem gen_lst {K : PySem.W.Frag} {a : Addr} {xs : List V} {g : TG} {te : TE} {d : Bool} {Q : VK} {σ0 : L2.St} {H : Hp} (Pv : Nat → Hp → Prop) (h0 : Pv 0 H) (hl : ∀ i H, i ≤ xs.length → Pv i H → SqL K H a xs)
    (hs : ∀ i x H, xs[i]? = some x → Pv i H → g x σ0 H fun σ2 H2 => Kept σ0 σ2 ∧ te σ2 H2 fun y H3 => ∃ b, y = .bl b ∧ if b = d then Pv (i + 1) H3 else Q (.bl (!d)) H3) (hd : ∀ H, Pv xs.length H → Q (.bl d) H) :
    ∃ W : Nat → Nat → Hp → Prop, (∃ m, W 0 m H) ∧ Turns (Itl K a) g te d W Q σ0 :=
  turns_by xs.length Pv h0 (fun i H1 hi p => ⟨⟨xs, xs[i], hl i H1 (Nat.le_of_lt hi) p, List.getElem?_eq_getElem hi⟩, fun x H2 y => by
    obtain ⟨rfl, y⟩ := y
    exact hs i x _ (y xs (hl i _ (Nat.le_of_lt hi) p)) p⟩) fun H1 p => ⟨⟨xs, hl _ _ (Nat.le_refl _) p, Nat.le_refl _⟩, hd H1 p⟩
theorem gen_range {lo : Int} {n : Nat} {g : TG} {te : TE} {d : Bool} {Q : VK} {σ0 : L2.St} {H : Hp} (Pv : Nat → Hp → Prop) (h0 : Pv 0 H)
    (hs : ∀ i H, i < n → Pv i H → g (.int (lo + i)) σ0 H fun σ2 H2 => Kept σ0 σ2 ∧ te σ2 H2 fun y H3 => ∃ b, y = .bl b ∧ if b = d then Pv (i + 1) H3 else Q (.bl (!d)) H3) (hd : ∀ H, Pv n H → Q (.bl d) H) :
    ∃ W : Nat → Nat → Hp → Prop, (∃ m, W 0 m H) ∧ Turns (Itr lo n) g te d W Q σ0 :=
  turns_by n Pv h0 (fun i H1 hi p => ⟨hi, fun x H2 y => by
    obtain ⟨rfl, rfl⟩ := y
    exact hs i _ hi p⟩) fun H1 p => ⟨Nat.le_refl _, hd H1 p⟩
end GxA
set_option Elab.async false
set_option linter.all false
set_option maxRecDepth 100000
set_option maxHeartbeats 4000000
/-! The text by places; what is kept from heap to heap; webs in the heap. -/
namespace Bel
open PySem PySem.Spec L2 GxR GxA
def top (i : Nat) : Stmt := PySem.Challenge.pw_bellcopies_k19_whole_parted_webs.main.body.getD i (.Pass ⟨0, 0, 0, 0⟩)
abbrev sIsIn : Stmt := top 4
abbrev sIsArc : Stmt := top 8
abbrev sNeed : Stmt := top 9
abbrev sPeople : Stmt := top 10
abbrev sHearers : Stmt := top 12
abbrev sWinOf : Stmt := top 13
abbrev sWinners : Stmt := top 14
abbrev sSources : Stmt := top 15
abbrev sSprings : Stmt := top 16
abbrev sLeast : Stmt := top 17
abbrev sClosed : Stmt := top 18
abbrev sParted : Stmt := top 19
abbrev sGroup : Stmt := top 20
abbrev sShows : Stmt := top 21
abbrev sTaken : Stmt := top 23
abbrev sAlike : Stmt := top 25
abbrev sWeb : Stmt := top 26
abbrev sOver : Stmt := top 28
abbrev sLPeople : Stmt := top 30
abbrev sHeard : Stmt := top 31
abbrev sLGroup : Stmt := top 32
abbrev sLParted : Stmt := top 33
abbrev sLaw : Stmt := top 34

/-! ### all that is tracked stays, but for tables that grow -/
def Ext (H H' : Hp) : Prop := ∀ b o, H b = some o → H' b = some o ∨ ∃ ps qs, o = .tbl ps ∧ H' b = some (.tbl qs) ∧ (TriplesOk ps.toList → TriplesOk qs.toList)
theorem Ext.refl (H : Hp) : Ext H H := fun _ _ h => .inl h
theorem Ext.trans {H H1 H2 : Hp} (a : Ext H H1) (b : Ext H1 H2) : Ext H H2 := fun c o h => by
  rcases a c o h with h1 | ⟨ps, qs, rfl, h1, t1⟩
  · exact b c o h1
  · rcases b c _ h1 with h2 | ⟨ps', rs, e, h2, t2⟩
    · exact .inr ⟨ps, qs, rfl, h2, t1⟩
    · cases e
      exact .inr ⟨ps, rs, rfl, h2, fun z => t2 (t1 z)⟩
theorem Ext.of {H H' : Hp} (h : ∀ b o, H b = some o → H' b = some o) : Ext H H' := fun b o e => .inl (h b o e)
theorem Ext.free {H H' : Hp} (e : Ext H H') {p : Addr} (h : H' p = none) : H p = none := by
  cases q : H p with
  | none => rfl
  | some o =>
    rcases e p o q with z | ⟨_, _, _, z, _⟩ <;> rw [h] at z <;> cases z
theorem Ext.new {H : Hp} {p : Addr} {o : HO} (h : H p = none) : Ext H (upd H p o) := .of fun b u e => by
  rw [upd_ne (ne_of_none e h)]
  exact e
/-- an object that is new since H is written -/
theorem Ext.mut {H H' : Hp} {p : Addr} {o : HO} (e : Ext H H') (h : H p = none) : Ext H (upd H' p o) := fun b u hb => by
  rw [upd_ne (ne_of_none hb h)]
  exact e b u hb
theorem Ext.tup {H H' : Hp} (e : Ext H H') {a : Addr} {xs : List V} (h : H a = some (.tup xs)) : H' a = some (.tup xs) := by
  rcases e a _ h with z | ⟨_, _, z, _⟩
  · exact z
  · cases z
theorem Ext.lst {H H' : Hp} (e : Ext H H') {a : Addr} {xs : List V} (h : H a = some (.lst xs)) : H' a = some (.lst xs) := by
  rcases e a _ h with z | ⟨_, _, z, _⟩
  · exact z
  · cases z
theorem Ext.dK {H H' : Hp} (e : Ext H H') {a : Addr} {xs : List (Key × V)} (h : H a = some (.dK xs)) : H' a = some (.dK xs) := by
  rcases e a _ h with z | ⟨_, _, z, _⟩
  · exact z
  · cases z
theorem Ext.dT {H H' : Hp} (e : Ext H H') {a : Addr} {xs : List (List Key × V)} (h : H a = some (.dT xs)) : H' a = some (.dT xs) := by
  rcases e a _ h with z | ⟨_, _, z, _⟩
  · exact z
  · cases z
theorem Ext.seq {K : PySem.W.Frag} {H H' : Hp} {a : Addr} {xs : List V} (e : Ext H H') (h : SqL K H a xs) : SqL K H' a xs := by
  rcases h with (h | ⟨o, h⟩) | h
  · exact .inl (.inl (e.lst h))
  · rcases e a _ h with z | ⟨_, _, z, _⟩
    · exact .inl (.inr ⟨o, z⟩)
    · cases z
  · exact .inr h
theorem Ext.tab {H H' : Hp} (e : Ext H H') {P : Addr} (h : TabG H P) : TabG H' P := by
  obtain ⟨ps, h1, h2⟩ := h
  rcases e P _ h1 with z | ⟨ps', qs, e1, z, t⟩
  · exact ⟨ps, z, h2⟩
  · cases e1
    exact ⟨qs, z, t h2⟩
theorem ext_tabbed {P : Addr} {H H' : Hp} (hP : TabG H P) (h : Tabbed P H H') : Ext H H' := fun b o e => by
  by_cases hb : b = P
  · subst hb
    obtain ⟨ps, h1, h2⟩ := hP
    obtain ⟨⟨qs, h3, h4⟩, _⟩ := h
    rw [h1] at e
    cases e
    exact .inr ⟨ps, qs, rfl, h3, fun _ => h4⟩
  · exact .inl ((h.2 b hb).trans e)
/-- all tables stand -/
def Tabs (T : List Addr) (H : Hp) : Prop := ∀ P ∈ T, TabG H P
theorem Ext.tabs {T : List Addr} {H H' : Hp} (e : Ext H H') (h : Tabs T H) : Tabs T H' := fun P hP => e.tab (h P hP)

/-! ### data in the heap -/
abbrev ivs (ns : List Int) : List V := ns.map V.int
def ArcAt (H : Hp) (r : Addr) (x : Arc) : Prop := H r = some (.tup [.int x.1, .int x.2])
structure WebAt (H : Hp) (a : Addr) (n : Int) (arcs : List Arc) : Prop where
  ex : ∃ (b : Addr) (rs : List Addr), H a = some (.tup [.int n, .ref b]) ∧ H b = some (.tup (rs.map V.ref)) ∧ Paired (ArcAt H) rs arcs
theorem WebAt.ext {H H' : Hp} {a : Addr} {n : Int} {arcs : List Arc} (W : WebAt H a n arcs) (e : Ext H H') : WebAt H' a n arcs := by
  obtain ⟨b, rs, h1, h2, h3⟩ := W.ex
  exact ⟨b, rs, e.tup h1, e.tup h2, Paired.mapP h3 fun r x z => e.tup z⟩
theorem paired_at {α β : Type} {F : α → β → Prop} : ∀ {l₁ : List α} {l₂ : List β} {j : Nat} {x : α}, Paired F l₁ l₂ → l₁[j]? = some x → ∃ y, l₂[j]? = some y ∧ F x y
  | _, _, _, _, .nil, h => by simp at h
  | _, _, 0, _, .cons r _, h => by simp at h; subst h; exact ⟨_, rfl, r⟩
  | _, _, j + 1, x, .cons _ t, h => by
    obtain ⟨y, h1, h2⟩ := paired_at (j := j) (x := x) t (by simpa using h)
    exact ⟨y, by simpa using h1, h2⟩
theorem paired_at2 {α β : Type} {F : α → β → Prop} : ∀ {l₁ : List α} {l₂ : List β} {j : Nat} {y : β}, Paired F l₁ l₂ → l₂[j]? = some y → ∃ x, l₁[j]? = some x ∧ F x y
  | _, _, _, _, .nil, h => by simp at h
  | _, _, 0, _, .cons r _, h => by simp at h; subst h; exact ⟨_, rfl, r⟩
  | _, _, j + 1, y, .cons _ t, h => by
    obtain ⟨x, h1, h2⟩ := paired_at2 (j := j) (y := y) t (by simpa using h)
    exact ⟨x, by simpa using h1, h2⟩

/-- what the module's names hold: none of the built-in ones is stored -/
structure Txt (K : PySem.W.Frag) (mg : Str → Option Value) : Prop where
  isi : mg "isinstance" = none
  int : mg "int" = none
  bool : mg "bool" = none
  tuple : mg "tuple" = none
  list : mg "list" = none
  str : mg "str" = none
  len : mg "len" = none
  all : mg "all" = none
  any : mg "any" = none
  enum : mg "enumerate" = none
  range : mg "range" = none
  sorted : mg "sorted" = none
  min : mg "min" = none
  set : mg "set" = none
  mp : ∃ t, mg "MOST_PEOPLE" = some (.int 6 t)
  ma : ∃ t, mg "MOST_ARCS" = some (.int 12 t)

/-! ### is_in -/
def spIsIn : Sp := fun vs H Q _ => ∃ (x a b : Int), vs = [.int x, .int a, .int b] ∧ Q (.bl (decide (a ≤ x) && decide (x ≤ b))) H
section
variable {P : Program} {w : World} {K : PySem.W.Frag} {mg : Str → Option Value} {base : Heap}
theorem scIsIn : FnScope ["value", "least", "most"] ["value", "least", "most"] (defScope sIsIn) := ⟨rfl, rfl, rfl, by decide +kernel, rfl, by decide +kernel, by decide +kernel⟩
theorem ok_isIn {f : Addr} {fd : FuncData} (F : Fun K "is_in" "is_in" sIsIn f fd) (T : Txt K mg) : FnOk P w K mg base CX0 1 f fd ["value", "least", "most"] spIsIn := by
  refine F.ok scIsIn (fun vs H Q E h => ?_) (fun cdv A outer s H vs Q E hr h => ?_)
  · obtain ⟨x, a, b, rfl, _⟩ := h
    rfl
  · obtain ⟨x, a, b, rfl, k⟩ := h
    refine ⟨_, pss_one (ps_ret (pe_and (pe_callB call_isi (by rfl) T.isi (by decide +kernel) (pa_cons (pv 0) (pa_cons (pe_bltn (v := .ty "int") (by rfl) T.int (by decide +kernel) rfl) pa_nil)))
      (pe_and (pe_not (pe_callB call_isi (by rfl) T.isi (by decide +kernel) (pa_cons (pv 0) (pa_cons (pe_bltn (v := .ty "bool") (by rfl) T.bool (by decide +kernel) rfl) pa_nil))))
      (pe_one (pe_chain op_le op_le (pv 1) (pv 0) (pv 2)))))), ?_⟩
    refine ⟨_, rfl, .int x, .ty "int", .type "int", .type "int", true, rfl, .ty "int", .base (.int x), kit_ty (by decide +kernel), _, rfl, ?_⟩
    refine iteT ?_
    refine ⟨_, rfl, .int x, .ty "bool", .type "int", .type "bool", false, rfl, .ty "bool", .base (.int x), kit_ty (by decide +kernel), _, rfl, ?_⟩
    refine ⟨_, rfl, ?_⟩
    refine iteT ?_
    refine ⟨_, rfl, _, rfl, _, _, rfl, rfl, _, rfl, ?_⟩
    refine ite2 (fun h1 => ?_) (fun h1 => ?_)
    · rw [h1, Bool.true_and] at k
      exact ⟨_, rfl, _, _, rfl, rfl, k⟩
    · rw [Bool.not_eq_true] at h1
      rw [h1, Bool.false_and] at k
      exact k
end
end Bel
namespace Bel
open PySem PySem.Spec L2 GxR GxA
/-- a def whose code object stands at c -/
theorem okc {P : Program} {w : World} {K : PySem.W.Frag} {mg : Str → Option Value} {base : Heap} {x qual : Str} {st : Stmt} {f c : Addr} {fd : FuncData} {N ps : List Str} {k : Nat} {sp : Sp} (F : Fun K x qual st f fd) (hc : fd.code = .ref c) (S : FnScope N ps (defScope st)) (len : ∀ vs H Q E, sp vs H Q E → vs.length = ps.length)
    (hbody : ∀ (A : Around) (outer : List Env) (s : Shared) (H : Hp) (vs : List V) (Q : VK) (E : XK), Room k (A.deeper (PyProof.Rows.envOfC qual (defScope st) s.heap.objs.size f (.ref c))) → sp vs H Q E →
      ∃ t, PSs (cxOf CX0 P w K mg base N qual (defScope st) f (.ref c) A outer s H E).nox (defBody st) t ∧ t { nx := fun _ H' => Q .non H', rt := Q } (start N vs) H) : FnOk P w K mg base CX0 (k + 1) f fd ps sp := by
  obtain ⟨oc, od, kV, doc, pm, an, cdv, ct, osl, rfl, lk, hcd⟩ := F.ex
  have hc : cdv = .ref c := hc
  subst hc
  refine fn_of lk hcd S len fun A outer s H vs Q E hr hsp => ?_
  obtain ⟨t, h, q⟩ := hbody A outer s H vs Q E hr hsp
  exact ⟨t, h.nox, q⟩

/-! ### is_arc -/
def spIsArc (T : List Addr) : Sp := fun vs H Q _ => ∃ (n : Int) (r : Addr) (x : Arc), vs = [.int n, .ref r] ∧ ArcAt H r x ∧ Tabs T H ∧ (1 ≤ x.1 ∧ x.1 ≤ n ∧ 1 ≤ x.2 ∧ x.2 ≤ n ∧ x.1 ≠ x.2) ∧ ∀ H', Ext H H' → Q (.bl true) H'
section
variable {P : Program} {w : World} {K : PySem.W.Frag} {mg : Str → Option Value} {base : Heap}
theorem scIsArc : FnScope ["size", "value"] ["size", "value"] (defScope sIsArc) := ⟨rfl, rfl, rfl, by decide +kernel, rfl, by decide +kernel, by decide +kernel⟩
theorem ndIsArc : ((["size", "value"] : List Str) ++ (["one"] : List Str)).Nodup := by decide +kernel
theorem ok_isArc {TT : List Addr} {f c PT : Addr} {fd : FuncData} (F : Fun K "is_arc" "is_arc" sIsArc f fd) (hc : fd.code = .ref c) (TB : TabB base mg c PT) (hPT : PT ∈ TT) (T : Txt K mg)
    {f1 : Addr} {fd1 : FuncData} (G : FnOk P w K mg base CX0 1 f1 fd1 ["value", "least", "most"] spIsIn) (m1 : mg "is_in" = some (.ref f1)) (k1 : PySem.W.keepIn K (.ref f1) = true) (b1 : Binds K fd1 ["value", "least", "most"] []) :
    FnOk P w K mg base CX0 3 f fd ["size", "value"] (spIsArc TT) := by
  refine okc F hc scIsArc (fun vs H Q E h => ?_) (fun A outer s H vs Q E hr h => ?_)
  · obtain ⟨n, r, x, rfl, _⟩ := h
    rfl
  · obtain ⟨n, r, x, rfl, hx, hT, ⟨h1, h2, h3, h4, h5⟩, k⟩ := h
    refine ⟨_, pss_cons (ps_if (PW.pt (pw_or (pt_not (pt_val (pe_callB call_isi (by rfl) T.isi (by decide +kernel) (pa_cons (pv 1) (pa_cons (pe_bltn (v := .ty "tuple") (by rfl) T.tuple (by decide +kernel) rfl) pa_nil)))))
        (pw_or (pt_cmpR op_ne (pe_callB call_len_seq (by rfl) T.len PySem.boot_len (pa_cons (pv 1) pa_nil)) pe_int (nomark _))
        (pw_or1 (pt_not (pt_val (pe_all (own := ["one"]) hr (by rfl) T.all TB rfl (genO_by (N := ["size", "value"]) (sc := defScope sIsArc) (by decide +kernel)) (pi_tup (pv 1)) (fun _ _ _ _ _ => pg_name (i := 2) ndIsArc rfl (Or.inl rfl))
          (fun _ _ _ _ _ => pe_call G (room_gA hr) rfl m1 k1 b1 .nil pass0 (pa_cons (pv 2) (pa_cons pe_int (pa_cons (pv 0) pa_nil)))))))))))
        (pss_one (ps_ret pe_bl)) pss_nil)
      (pss_one (ps_ret (pe_cmpR op_ne (pe_ix ix_tup (pv 1) pe_int (fun _ _ => rfl)) (pe_ix ix_tup (pv 1) pe_int (fun _ _ => rfl)) (nomark _)))), ?_⟩
    refine ⟨_, rfl, .ref r, .ty "tuple", .type "tuple", .type "tuple", true, rfl, .ty "tuple", .base (.tup hx), kit_ty (by decide +kernel), _, rfl, ?_⟩
    refine iteF ?_
    refine ⟨_, rfl, r, _, rfl, .inr (SqT.of hx), rfl, _, rfl, ?_⟩
    refine iteNS rfl ?_
    refine ⟨_, rfl, r, rfl, ⟨_, SqT.of hx⟩, hT PT hPT, fun H2 hb => ?_⟩
    have e2 : Ext H H2 := ext_tabbed (hT PT hPT) hb
    refine gen_tup (K := K) (a := r) (xs := [.int x.1, .int x.2]) (fun i H' => Ext H H') e2 (fun i H' _ e => SqT.of (e.tup hx)) ?_ ?_
    · intro i y H' hy e
      obtain ⟨z, rfl, hz⟩ : ∃ z, y = V.int z ∧ (1 ≤ z ∧ z ≤ n) := by
        match i, hy with
        | 0, hy => exact ⟨x.1, (Option.some.inj hy).symm, h1, h2⟩
        | 1, hy => exact ⟨x.2, (Option.some.inj hy).symm, h3, h4⟩
      refine ⟨keep_set rfl, ?_⟩
      refine ⟨_, rfl, _, rfl, z, 1, n, rfl, _, rfl, ?_⟩
      rw [decide_eq_true hz.1, decide_eq_true hz.2]
      exact iteT e
    · intro H' e
      refine ⟨_, rfl, ?_⟩
      refine iteF ?_
      have hx' := e.tup hx
      refine ⟨_, rfl, r, _, _, _, rfl, rfl, SqT.of hx', rfl, _, rfl, r, _, _, _, rfl, rfl, SqT.of hx', rfl, rfl, ?_⟩
      have : (!decide (V.int x.1 = V.int x.2)) = true := by
        rw [dec_int]
        simpa using h5
      rw [this]
      exact k H' e
end
end Bel
set_option Elab.async false
set_option linter.all false
set_option maxRecDepth 100000
set_option maxHeartbeats 4000000
/-! Rules that the layer lacks: enumerate(tuple), in a tuple of tuples, t[::-1], len(set(t)), sorted(a dict with tuple keys), {t: v}. -/
namespace BM
open PySem PySem.Spec PyProof.Rows L2

/-! ### x in t, t a tuple of data -/
section
variable {X : Cx}
def rInDT (K : PySem.W.Frag) : R2 := fun x y H Q => ∃ d ds, Dp K H x d ∧ Dp K H y (.tuple ds) ∧ SeqAt.shaped d = true ∧ SeqAt.shaped (.list ds) = true ∧ Q (.bl (ds.any fun z => PyData.eqv z d)) H
theorem op_inDT (hu : X.A.units + 65 < cLine) : OpR X (compareOp .In) (rInDT X.K) := by
  intro pins s σ H x y v u Q I rx ry h
  obtain ⟨d, ds, hd, he, sd, se, q⟩ := h
  obtain ⟨as, r1⟩ := Dp.reads I d x v hd rx
  obtain ⟨bs, r2⟩ := Dp.reads I (.tuple ds) y u he ry
  exact SeqAt.in_tuple_reads r2 r1 (SeqAt.canLay_of_shaped se) (SeqAt.canLay_of_shaped sd) (room_in_shaped sd hu) ⟨.bl _, H, I, rfl, q⟩
end

/-! ### enumerate(t) -/
section
variable {prog : Program} {w : World} {A : Around} {E : Value → Shared → Prop} {s : Shared}
theorem meets_enumerate_newT (l : Addr) (items : Array Value) (n : Nat) (dct : Option Addr) (sl : Array (Option Value)) :
    Meets (Builtin.«enumerate.__new__» ⟨[.type "enumerate", .ref l], []⟩) (fun _ R s => s.heap.get? l = some { cls := .type "tuple", dict := dct, data := .seq items n, slots := sl } ∧
      R (.ok (.ret (.ref (s.heap.push { cls := .type "tuple_iterator", data := .fields #[.ref l, .int 0 0] }).objs.size)))
        { s with heap := (s.heap.push { cls := .type "tuple_iterator", data := .fields #[.ref l, .int 0 0] }).push { cls := .type "enumerate", data := .fields #[.none, .bool false, .ref s.heap.objs.size, rawInt 0, .none, .none] } }) :=
  .of_wp fun prog w A R s h => by
    obtain ⟨hp, g, d, tk, os⟩ := s; obtain ⟨hl, h⟩ := h
    have hsub := sub_enumerate
    have hL : Heap.IsTuple (Shared.heap ⟨hp, g, d, tk, os⟩) l items := ⟨_, hl, rfl, n, rfl⟩
    wp_walk using wpAny_loadPart' hl
    refine wpAny_stack_any fun st => wpAny_pure ?_
    split
    · rename_i c _ _ _ _ _
      cases (c == Value.type "enumerate")
      · wp_walk using wpAny_loadPart' hl, wpAny_pyIter_tuple hL
        exact ⟨_, rfl, h⟩
      · wp_walk using wpAny_loadPart' hl, wpAny_pyIter_tuple hL
        exact ⟨_, rfl, h⟩
    · wp_walk using wpAny_loadPart' hl, wpAny_pyIter_tuple hL
      exact ⟨_, rfl, h⟩
theorem call_enumerate_tuple {l : Addr} {items : Array Value} {Q : Value → Shared → Prop} (hL : s.heap.IsTuple l items)
    (h : ∀ h', IsEnum h' (s.heap.objs.size + 1) s.heap.objs.size 0 .none → h'.IsTupleIter s.heap.objs.size l 0 → h'.objs.size = s.heap.objs.size + 2 →
      (∀ b o, s.heap.get? b = some o → h'.get? b = some o) → Q (.ref (s.heap.objs.size + 1)) { s with heap := h' }) :
    wpAny (model prog w) A (call (.type "enumerate") [.ref l]) Q E s := by
  obtain ⟨⟨c, dct, dt, sl⟩, hl, hc, n, hd⟩ := hL
  replace hc : c = .type "tuple" := hc
  replace hd : dt = .seq items n := hd
  subst hc hd
  refine callType_new PySem.F.called_enumerate (by decide) (PySem.F.typeCall_enumerate_1 _) (PySem.F.newCall_enumerate_1 _) (fun obj => PySem.F.args_object_init_2 obj _) PySem.F.entry_enumerate_new
    (meets_enumerate_newT l items n dct sl) ⟨hl, ?_⟩
  have hz : (s.heap.push { cls := .type "tuple_iterator", data := .fields #[.ref l, .int 0 0] }).objs.size = s.heap.objs.size + 1 := Heap.size_push ..
  show _ ∧ _
  rw [hz]
  have he : IsEnum ((s.heap.push { cls := .type "tuple_iterator", data := .fields #[.ref l, .int 0 0] }).push
      { cls := .type "enumerate", data := .fields #[.none, .bool false, .ref s.heap.objs.size, rawInt 0, .none, .none] }) (s.heap.objs.size + 1) s.heap.objs.size 0 .none := by
    have := Heap.get?_push_size (s.heap.push { cls := .type "tuple_iterator", data := .fields #[.ref l, .int 0 0] })
      (o := { cls := .type "enumerate", data := .fields #[.none, .bool false, .ref s.heap.objs.size, rawInt 0, .none, .none] }) rfl
    rw [hz] at this; exact this
  refine ⟨⟨_, he, rfl⟩, h _ he ⟨_, Heap.get?_push_of_some _ (Heap.get?_push_size _ rfl), rfl, rfl⟩ (by rw [Heap.size_push, hz]) fun b o x => Heap.get?_push_of_some _ (Heap.get?_push_of_some _ x)⟩
end
/-- the tuple at a, its items in new pairs with their places -/
def IteT (K : PySem.W.Frag) (a : Addr) : It :=
  ⟨fun i H => ∃ xs x, SqT K H a xs ∧ xs[i]? = some x, fun i H v H' => ∃ T x, v = .ref T ∧ H T = none ∧ H' = upd H T (.tup [.int (i : Nat), x]) ∧ ∀ xs, SqT K H a xs → xs[i]? = some x, fun i H => ∃ xs, SqT K H a xs ∧ xs.length = i⟩
theorem turn_enumT {P : Program} {w : World} {K : PySem.W.Frag} {elts : List Expr} {kk : Nat} {tpos : Pos} (a e it : Addr) (hai : a ≠ it) (hae : a ≠ e) :
    Turn P w K (.Tuple elts kk tpos) (IteT K a) [e, it] e (fun i h => (∃ old, IsEnum h e it ((i : Nat) : Int) old) ∧ h.IsTupleIter it a i ∧ e ≠ it) where
  mem := by simp
  obj := fun i h st b hb => by
    obtain ⟨⟨old, he⟩, ⟨o, ho, hc, hd⟩, _⟩ := st
    have e' : b = e ∨ b = it := by simpa using hb
    rcases e' with z | z
    · rw [z]; exact ⟨_, he, fun v q => nomatch q⟩
    · rw [z]; exact ⟨o, ho, fun v q => by rw [hd] at q; cases q⟩
  keep := fun i h h' st k => let ⟨⟨old, he⟩, hi, hne⟩ := st; ⟨⟨old, k e (by simp) _ he⟩, hi.at fun o q => k it (by simp) o q, hne⟩
  item := by
    intro X hP hw hK hc i pins s σ H E I hf st hg
    subst hP hw hK
    obtain ⟨⟨old, he⟩, hit, hne⟩ := st
    obtain ⟨xs, x, hq, hx⟩ := hg
    obtain ⟨its, rv, p, hz⟩ := I.tuple hq
    obtain ⟨u, hu, ru⟩ := rv.get hx
    have hel : e < s.heap.objs.size := Heap.lt_size he
    have hil : it < s.heap.objs.size := by obtain ⟨_, q, _⟩ := hit; exact Heap.lt_size q
    have hlt : i < its.toArray.size := by
      obtain ⟨h1, _⟩ := List.getElem?_eq_some_iff.mp hu
      simpa using h1
    refine wpAny_pyNext_enum_itemD (Draws.tuple (A := X.A.in1) (I.ok.hd hc) it a hai its.toArray) he ⟨hit, p⟩ hlt hne (by simp [hne, hae.symm]) fun v h' tk hv ho hst' hT hsz hk => ?_
    obtain rfl : u = v := by
      have hv : its.toArray[i]? = some v := hv
      rw [List.getElem?_toArray, hu] at hv
      exact Option.some.inj hv
    refine ⟨_, rfl, wpAny_letOwnedTupleGo_enum (s := { s with heap := h', toks := tk + 1 }) ho fun h'' he' sb => ?_⟩
    have hT2 : h''.get? s.heap.objs.size = some { cls := .type "tuple", data := .seq #[.int i tk, u] } := (sb.2 _ (Nat.ne_of_gt hel)).trans hT
    have new : ObjOk X.prog X.w (upd H s.heap.objs.size (.tup [.int (i : Nat), x])) h'' s.heap.objs.size (.tup [.int (i : Nat), x]) :=
      ⟨by show 2 ≤ sizeLine; decide, [.int i tk, u], .cons ⟨_, rfl⟩ (.cons ru .nil), ⟨_, hT2, rfl, _, rfl⟩⟩
    have I1 : Inv X pins σ (upd H s.heap.objs.size (.tup [.int (i : Nat), x])) { s with heap := h'', toks := tk + 1 } :=
      I.turnedNew (ch := [e, it]) (fun b ob hb q => (sb.2 b (fun z => hb (by simp [z]))).trans (hk b ob (fun z => hb (by simp [z])) (fun z => hb (by simp [z])) q)) hf (Nat.le_refl _) new
    refine ⟨.ref s.heap.objs.size, _, I1, rfl, ⟨_, x, rfl, I.hok.fresh (Nat.le_refl _), rfl, fun ys hy => by rw [I.tuple_inj hy hq]; exact hx⟩, ⟨⟨u, ?_⟩, hst'.1.at fun o q => (sb.2 it (Ne.symm hne)).trans q, hne⟩, fun b hb => ?_⟩
    · have e1 : ((i + 1 : Nat) : Int) = (i : Int) + 1 := by omega
      rw [e1]; exact he'
    · have hb' : b < s.heap.objs.size := by
        have e' : b = e ∨ b = it := by simpa using hb
        rcases e' with z | z
        · rw [z]; exact hel
        · rw [z]; exact hil
      rw [upd_ne (Nat.ne_of_lt hb')]
      exact (hf b hb).1
  done := by
    intro X hP hw hK hc i pins s σ H E I hf st hg
    subst hP hw hK
    obtain ⟨⟨old, he⟩, hit, hne⟩ := st
    obtain ⟨xs, hq, hx⟩ := hg
    obtain ⟨its, rv, p, hz⟩ := I.tuple hq
    obtain ⟨f0, f1, f2, f3, f4, f5⟩ := hf it (by simp)
    have hl := rv.length
    have hi : its.toArray.size = i := by rw [List.size_toArray]; omega
    refine wpAny_pyNext_enum_endD (Draws.tuple (A := X.A.in1) (I.ok.hd hc) it a hai its.toArray) he (by rw [hi]; exact ⟨hit, p⟩) fun h' eb => ⟨rfl, I.turned (t' := s.toks) (fun b o hb q => eb b o hb q) f0 f1 f3 f4 f5⟩
  self := fun A i s Q E st h => let ⟨⟨_, he⟩, _⟩ := st; wpAny_pyIter_enum he h
def iEnumT (K : PySem.W.Frag) (ta : TA) : TI := fun σ H R => ta σ H fun vs H1 => ∃ a xs, vs = [.ref a] ∧ SqT K H1 a xs ∧ R (IteT K a) H1
theorem pi_enumT {X : Cx} {e : Expr} {ta : TA} {p pos tpos : Pos} {elts : List Expr} {kk : Nat} (hg : Gl X "enumerate") (hm : X.mg "enumerate" = none) (ha : PA X [e] ta) (hs : starEach [e] X.env = [(false, eval e X.env)] := by rfl) :
    PI X (.Tuple elts kk tpos) (.Call (.Name "enumerate" p) [e] [] pos) (iEnumT X.K ta) := by
  refine ⟨fun pins s σ H R I h => ?_⟩
  refine Call_ (ld_blt I hg hm boot_enumerate (PyProof.Rows.callWith_type1 (thn (ha.run pos pins s σ H _ I h) fun us s1 ⟨vs, H1, I1, r1, q1⟩ => ?_) hs rfl))
  obtain ⟨a, xs, ex, hq, q⟩ := q1
  subst ex
  cases r1 with
  | cons r rr =>
    cases rr
    cases r
    obtain ⟨its, rv, p', hz⟩ := I1.tuple hq
    have hal : a < s1.heap.objs.size := let ⟨_, z, _⟩ := p'; Heap.lt_size z
    refine call_enumerate_tuple (show s1.heap.IsTuple a its.toArray from p') fun h' he hit hsz hk => wpAny_pyIter_enum he ?_
    have I2 : Inv X pins σ H1 { s1 with heap := h' } := I1.kept (t' := s1.toks) hk
    refine ⟨s1.heap.objs.size + 1, [s1.heap.objs.size + 1, s1.heap.objs.size], _, _, H1, rfl, I2, turn_enumT a (s1.heap.objs.size + 1) s1.heap.objs.size (Nat.ne_of_lt hal) (Nat.ne_of_lt (Nat.lt_succ_of_lt hal)), ⟨⟨.none, he⟩, hit, Nat.succ_ne_self _⟩, fun b hb => ?_, q⟩
    have e' : b = s1.heap.objs.size + 1 ∨ b = s1.heap.objs.size := by simpa using hb
    have hle : s1.heap.objs.size ≤ b := by
      rcases e' with z | z
      · rw [z]; exact Nat.le_add_right _ _
      · rw [z]; exact Nat.le_refl _
    exact I1.fpOk hle (I1.hok.fresh hle)
/-- the same for a loop, whose state is the frame's names and the heap -/
theorem loop_by {Z G : Nat → L2.St → Hp → Prop} {B : Nat → (L2.St → Hp → Prop) → L2.St → Hp → Prop} (n : Nat) (Pv : Nat → L2.St → Hp → Prop) {σ0 : L2.St} {H0 : Hp} (first : Pv 0 σ0 H0) (turn : ∀ i σ H, i < n → Pv i σ H → G i σ H ∧ B i (Pv (i + 1)) σ H) (last : ∀ σ H, Pv n σ H → Z n σ H) :
    ∃ W : Nat → Nat → L2.St → Hp → Prop, (∃ m, W 0 m σ0 H0) ∧ ∀ i m σ H, W i m σ H → Z i σ H ∨ (G i σ H ∧ ∃ N : L2.St → Hp → Prop, (∀ σ' H', N σ' H' → ∃ m', m' < m ∧ W (i + 1) m' σ' H') ∧ B i N σ H) := by
  refine ⟨fun i m σ H => i + m = n ∧ Pv i σ H, ⟨n, Nat.zero_add n, first⟩, fun i m σ H ⟨e, h⟩ => ?_⟩
  cases m with
  | zero =>
    have : i = n := e
    subst this
    exact .inl (last σ H h)
  | succ m =>
    obtain ⟨h1, h2⟩ := turn i σ H (by omega) h
    exact .inr ⟨h1, Pv (i + 1), fun σ' H' h' => ⟨m, Nat.lt_succ_self m, by omega, h'⟩, h2⟩
end BM
set_option Elab.async false
set_option linter.all false
set_option maxRecDepth 100000
set_option maxHeartbeats 4000000
namespace BM
open PySem PySem.Spec PyProof.Rows L2 HT

/-! ### t[::-1] -/
section
variable {prog : Program} {w : World} {A : Around} {E : Value → Shared → Prop} {s : Shared}
theorem adjust_rev (n : Nat) : Builtin.Slice.sliceAdjust none none (-1) (n : Int) = ((n : Int) - 1, -1) := rfl
theorem places_rev (n : Nat) : Builtin.Slice.slicePlaces ((n : Int) - 1) (-1) (-1) = n := by
  unfold Builtin.Slice.slicePlaces
  have h1 : ¬ ((-1 : Int) > 0) := by decide
  rw [if_neg h1]
  by_cases h : (n : Int) - 1 > -1
  · rw [if_pos h, show (-(-1) : Int) = 1 by decide, Int.ediv_one]
    omega
  · rw [if_neg h]
    omega
theorem sliceApplied_rev {sl : Addr} {vs : Value} {n : Nat} {Q : Int × Int × Nat → Shared → Prop} (hs : s.heap.IsSliceOf sl .none .none vs) (ps : IsPart vs (some (-1)))
    (h : Q ((n : Int) - 1, -1, n) s) : wpAny (model prog w) A (Builtin.Slice.sliceApplied (.ref sl) (pure (n : Int))) Q E s := by
  obtain ⟨os, hos, hcs, hds⟩ := id hs
  unfold Builtin.Slice.sliceApplied Builtin.Slice.sliceFields
  refine wpAny_bind (wpAny_bind (wpAny_field hos hds (x := .none) rfl (wpAny_bind (wpAny_field hos hds (x := .none) rfl (wpAny_bind (wpAny_field hos hds (x := vs) rfl (wpAny_pure ?_)))))))
  refine wpAny_bind (slicePart_ ps ?_)
  show wpAny _ _ (if ((-1 : Int) == 0) = true then _ else _) _ _ s
  rw [if_neg (by decide)]
  refine wpAny_bind (slicePart_ .none (wpAny_bind (slicePart_ .none (wpAny_bind (wpAny_pure ?_)))))
  show wpAny _ _ (pure ((n : Int) - 1, (-1 : Int), Builtin.Slice.slicePlaces ((n : Int) - 1) (-1) (-1))) _ _ s
  rw [places_rev]
  exact wpAny_pure h
theorem pick_rev (items : Array Value) : ((List.range items.size).filterMap fun (k : Nat) => items[(((items.size : Int) - 1) + (k : Int) * (-1)).toNat]?).toArray = items.toList.reverse.toArray := by
  have e0 : ((List.range items.size).filterMap fun (k : Nat) => items[(((items.size : Int) - 1) + (k : Int) * (-1)).toNat]?) = (List.range items.size).filterMap fun (k : Nat) => items[items.size - 1 - k]? := by
    congr 1
    funext k
    have : (((items.size : Int) - 1) + (k : Int) * (-1)).toNat = items.size - 1 - k := by omega
    rw [this]
  rw [e0]
  congr 1
  refine List.ext_getElem? fun j => ?_
  have e1 : ((List.range items.size).filterMap fun (k : Nat) => items[items.size - 1 - k]?) = (List.range items.size).map fun k => (items[items.size - 1 - k]?).getD default := by
    rw [← List.filterMap_eq_map]
    have cong : ∀ (l : List Nat) (f g : Nat → Option Value), (∀ k ∈ l, f k = g k) → l.filterMap f = l.filterMap g := by
      intro l f g hfg
      induction l with
      | nil => rfl
      | cons a l ih =>
        rw [List.filterMap_cons, List.filterMap_cons, hfg a (by simp), ih fun k hk => hfg k (by simp [hk])]
    refine cong _ _ _ fun k hk => ?_
    have hk := List.mem_range.mp hk
    have : items.size - 1 - k < items.size := by omega
    simp [this]
  rw [e1, List.getElem?_map]
  by_cases hj : j < items.size
  · rw [List.getElem?_range hj]
    have h2 : items.size - 1 - j < items.size := by omega
    have h3 : j < items.toList.reverse.length := by rw [List.length_reverse, Array.length_toList]; exact hj
    rw [List.getElem?_eq_getElem h3, List.getElem_reverse]
    simp [h2]
  · rw [List.getElem?_eq_none (by rw [List.length_range]; omega), List.getElem?_eq_none (by rw [List.length_reverse, Array.length_toList]; omega)]
    rfl
theorem getItem_tuple_rev {t sl : Addr} {items : Array Value} {vs : Value} {Q : Value → Shared → Prop} (ht : IsTup s.heap t items) (hs : s.heap.IsSliceOf sl .none .none vs) (ps : IsPart vs (some (-1)))
    (h : Q (.ref s.heap.objs.size) { s with heap := s.heap.push { cls := .type "tuple", data := .seq items.toList.reverse.toArray } })
    (hsz : items.size ≤ sizeLine) : wpAny (model prog w) A (getItem (.ref t) (.ref sl)) Q E s := by
  have htake : sizeOk (.seq items.toList.reverse.toArray) := by
    show items.toList.reverse.toArray.size ≤ sizeLine
    rw [List.size_toArray, List.length_reverse, Array.length_toList]
    exact hsz
  obtain ⟨os, hos, hcs, hds⟩ := id hs
  have hTs : s.TypeIs (.ref sl) "slice" := ⟨os, hos, hcs⟩
  unfold getItem
  try with_reducible refine wpAny_holding ?_
  first | refine wpAny_bind (wpAny_pure ?_) | skip
  refine wpAny_bind (wpAny_sequenceKey ht.typeIs (by decide) ?_)
  refine wpAny_bind (wpAny_callSpecial?_slot (name := Str.ofString "__getitem__") ht.typeIs PyProof.Rows.slot_tuple_getitem
    (wpAny_call_entry PyProof.Rows.slot_tuple_getitem ht.typeIs entry_tuple_getitem ?_ (args_tuple_getitem _ _)))
  show wpAny _ _ (Builtin.Tuple.tupleItemsOf (.ref t) >>= _) _ _ s
  refine wpAny_bind (tupleItemsOf_ ht ?_)
  refine wpAny_bind (wpAny_typeOf hTs ?_)
  rw [if_pos (by decide)]
  refine wpAny_bind (sliceApplied_rev hs ps ?_)
  have hno : ¬ ((((items.size : Int) - 1) == 0 && (-1 : Int) == 1 && items.size == items.size) = true) := by
    intro q
    rw [Bool.and_eq_true, Bool.and_eq_true] at q
    exact absurd q.1.2 (by decide)
  show wpAny _ _ (if (((items.size : Int) - 1) == 0 && (-1 : Int) == 1 && items.size == items.size) = true then _ else _) _ _ s
  rw [if_neg hno, pick_rev]
  exact wpAny_bind (m := Builtin.Tuple.tupleExact _) (wpAny_newObj_type (wpAny_pure ⟨_, rfl, wpAny_pure h⟩) htake)
end
def tRevT (K : PySem.W.Frag) (te : TE) : TE := fun σ H Q => te σ H fun x H1 => ∃ a xs, x = .ref a ∧ SqT K H1 a xs ∧ ∀ p, H1 p = none → Q (.ref p) (upd H1 p (.tup xs.reverse))
theorem pe_revT {X : Cx} {e : Expr} {te : TE} {k : Nat} {p1 p2 p3 pos : Pos} (he : PE X e te) : PE X (.Subscript e (.Slice none none (some (.UnaryOp .USub (.Constant (.int 1) k p1) p2)) p3) pos) (tRevT X.K te) := by
  refine ⟨fun pins s σ H Q I h => ?_⟩
  refine Subscript_ (thn (he.run pins s σ H _ I h) fun v s1 ⟨x, H1, I1, r1, q1⟩ => ?_)
  obtain ⟨a, xs, ex, hx, q⟩ := q1
  subst ex
  cases r1
  have hst : PO X (some (.UnaryOp .USub (.Constant (.int 1) k p1) p2)) (tPart (tUn (rU fun i => .int (-i)) (tC (.int 1)))) := po_some (pe_un un_neg pe_int)
  refine wpAny_Slice ?_
  rw [evalPart_none]
  refine wpAny_pure (wpAny_pure ?_)
  refine thn (hst.run pins s1 σ H1 (fun o H4 => o = some (-1) ∧ H4 = H1) I1 ⟨1, rfl, -1, rfl, rfl, rfl⟩) fun vs s4 ⟨o, H4, I4, ps, eo, e4⟩ => ?_
  subst eo e4
  have I5 : Inv X pins σ H4 { s4 with heap := s4.heap.push { cls := .type "slice", data := .fields #[.none, .none, vs] } } := I4.kept (t' := s4.toks) fun b ob q => Heap.get?_push_of_some _ q
  obtain ⟨its, r, ht, hz⟩ := I5.tuple hx
  have hlen := r.length
  show wpAny (model X.prog X.w) X.A (subscriptTail e (.Slice none none (some (.UnaryOp .USub (.Constant (.int 1) k p1) p2)) p3) (.ref a) (.ref s4.heap.objs.size)) (EP X pins σ Q) X.xe { s4 with heap := s4.heap.push { cls := .type "slice", data := .fields #[.none, .none, vs] } }
  refine tail_any (ops := [.ref a, .ref s4.heap.objs.size]) ht.typeIs PyProof.Rows.slot_tuple_getitem.lookup ?_ (by with_unfolding_all rfl)
  refine getItem_tuple_rev ht (Heap.IsSliceOf.new _ .none .none vs) ps ?_ (by rw [List.size_toArray]; omega)
  refine ⟨.ref _, _, I5.laid (t' := s4.toks) (o := .tup xs.reverse) (fun b ob q => Heap.get?_push_of_some _ q) (Nat.le_refl _) ?_, rfl, q _ (I5.hok.fresh (Nat.le_refl _))⟩
  exact ⟨by rw [List.length_reverse]; omega, _, r.reverse, IsTup.new _ _⟩

/-! ### len(set(t)) -/
section
variable {X : Cx}
def tLenSetT (K : PySem.W.Frag) (ta : TE) : TE := fun σ H Q => ta σ H fun x H1 => ∃ (l : Addr) (ns : List Int), x = V.ref l ∧ SqT K H1 l (ns.map V.int) ∧ ns.length ≤ 1000 ∧ ∀ D : List Int, D.Nodup → (∀ k, k ∈ D ↔ k ∈ ns) → Q (.int (D.length : Nat)) H1
theorem pe_lenSetT {a : Expr} {ta : TE} {p p2 q pos : Pos} (hc : X.calm = true) (hg : Gl X "len") (hm : X.mg "len" = none) (hg2 : Gl X "set") (hm2 : X.mg "set" = none) (ha : PE X a ta)
    (na : starEach [a] X.env = (false, eval a X.env) :: starEach [] X.env := by rfl) : PE X (.Call (.Name "len" p) [.Call (.Name "set" p2) [a] [] q] [] pos) (tLenSetT X.K ta) := by
  refine ⟨fun pins s σ H Q I h => ?_⟩
  refine Call_ (ld_blt I hg hm PySem.boot_len ?_)
  refine PyProof.Rows.callWith_builtin1 (PyProof.Rows.args_cons ?_ rfl) rfl rfl
  refine Call_ (ld_blt I hg2 hm2 PyProof.Rows.boot_set ?_)
  refine PyProof.Rows.callWith_type1 (PyProof.Rows.args_cons (thn (ha.run pins s σ H _ I h) fun v s1 ⟨x, H1, I1, r1, q1⟩ => PyProof.Rows.args_nil ?_) na) na rfl
  obtain ⟨l, ns, rfl, hq, h1, q1⟩ := q1
  cases r1
  obtain ⟨its, r, pl, hz⟩ := I1.tuple hq
  have hi : IntsAre its.toArray.toList ns := ints_of_vals r
  refine L2.call_set_tupI ns (I1.ok.hd hc) (show s1.heap.IsTuple l its.toArray from pl) hi (by unfold scanBound; omega) fun h' tk c R1 hcn k => ?_
  refine PyProof.Rows.args_nil ?_
  obtain ⟨o, es, ep, t, ho, hex, hd, g, nd, hm2, hb, hf, hn, hr, hl2⟩ := R1
  have I2 : Inv X pins σ H1 { s1 with heap := h', toks := tk } := I1.kept fun b o e => k b o e
  refine call_len_set ho hex hd hf (by rw [hn] <;> omega) ⟨.int c, H1, I2.tok _, ⟨_, by rw [hn]⟩, ?_⟩
  have q2 := q1 (es.toList.map keyOf) nd fun j => by rw [← hm2 j, decide_eq_true_eq]
  rw [List.length_map, Array.length_toList, hn] at q2
  exact q2
end

/-! ### {t: v} with t a tuple of ints and texts -/
section
variable {X : Cx}
def tDispT (tk tv : TE) : TE := fun σ H Q => ∀ p, H p = none → tk σ (upd H p (.dT [])) fun x H1 => tv σ H1 fun y H2 => H2 p = some (.dT []) ∧ ∃ b k, x = .ref b ∧ H2 b = some (.tup (k.map kV)) ∧ Q (.ref p) (upd H2 p (.dT [(k, y)]))
theorem pe_dispT {pos : Pos} {k v : Expr} {tk tv : TE} (hu : X.A.units + 1 < cLine) (hk : PE X k tk) (hv : PE X v tv) : PE X (.Dict [some k] [v] pos) (tDispT tk tv) := by
  refine ⟨fun pins s σ H Q I q => ?_⟩
  have hn := I.hok.fresh (Nat.le_refl s.heap.objs.size)
  have I1 := I.laid (a := s.heap.objs.size) (o := .dT []) (h' := s.heap.push { cls := .type "dict", data := .dict #[] }) (t' := s.toks) (fun _ _ q => Heap.get?_push_of_some _ q) (Nat.le_refl _) (dt_empty s.heap I.big)
  have hlen := pairTrees_length [some k] [v] X.env pos rfl rfl
  have h0 : pairTrees [some k] [v] X.env pos ≠ [] := fun e => by rw [e] at hlen; cases hlen
  have h15 : (pairTrees [some k] [v] X.env pos).length ≤ 15 := by rw [hlen]; show 1 ≤ 15; decide
  rw [arm_eval_Dict, zip_pairTrees [some k] [v] X.env pos rfl rfl, dictDisplay_pairs _ h0 (by omega)]
  refine wpAny_bind (wpAny_standAt (wpAny_bind (wpAny_subDictH (knd := tupleKind (mixKind X.prog X.w)) (Q := fun d s' => wpAny (model X.prog X.w) X.A (pure (Value.ref d)) (EP X pins σ Q) X.xe s') (show X.A.units < cLine by omega) h15 ?_)))
  refine thn ((pps_cons hk hv pps_nil).run pins _ σ _ (fun ps H2 => ∃ x y, ps = [(x, y)] ∧ H2 s.heap.objs.size = some (.dT []) ∧ ∃ b k, x = .ref b ∧ H2 b = some (.tup (k.map kV)) ∧ Q (.ref s.heap.objs.size) (upd H2 s.heap.objs.size (.dT [(k, y)]))) I1 ?_) fun ws s2 h9 => ?_
  · show tk σ _ fun x H1 => tv σ H1 fun y H2 => _
    have e : (fun x H1 => tv σ H1 fun y H2 => H2 s.heap.objs.size = some (.dT []) ∧ ∃ b k, x = V.ref b ∧ H2 b = some (.tup (k.map kV)) ∧ Q (.ref s.heap.objs.size) (upd H2 s.heap.objs.size (.dT [(k, y)]))) =
        (fun x H1 => tv σ H1 fun y H2 => ∃ x1 y1, [(x, y)] = [(x1, y1)] ∧ H2 s.heap.objs.size = some (.dT []) ∧ ∃ b k, x1 = V.ref b ∧ H2 b = some (.tup (k.map kV)) ∧ Q (.ref s.heap.objs.size) (upd H2 s.heap.objs.size (.dT [(k, y1)]))) := by
      funext x H1
      congr 1
      funext y H2
      refine propext ⟨fun z => ⟨x, y, rfl, z⟩, fun ⟨x1, y1, e, z⟩ => ?_⟩
      injection e with e1 _
      injection e1 with e1 e2
      subst e1 e2
      exact z
    have := q _ hn
    rw [e] at this
    exact this
  obtain ⟨ps, H2, I2, rel, x, y, e, e2, b, ks, ex, eb, q2⟩ := h9
  subst e ex
  cases rel with
  | @cons pp pq as bs h t =>
    cases t
    obtain ⟨h1, h2⟩ := h
    obtain ⟨u, v'⟩ := pq
    have h1 : u = Value.ref b := h1
    subst h1
    obtain ⟨z, hd, xs, r0, dd⟩ := dt_of I2.hok e2
    cases r0
    refine ⟨[(ks, b, v')], ⟨rfl, rfl, key_of I2.hok eb, trivial⟩, dd, fun h' tk' dd' hs => wpAny_pure ⟨.ref s.heap.objs.size, _, ?_, rfl, q2⟩⟩
    have he : ∃ q, h'.get? s.heap.objs.size = some q := let ⟨q, _, _, hq, _⟩ := dd'; ⟨q, hq⟩
    have hne : b ≠ s.heap.objs.size := fun e => by rw [e, e2] at eb; cases eb
    refine d_write I2 (by rw [e2]; exact True.intro) hs he ⟨by show 1 ≤ sizeLine; decide, hd, [(ks, b, v')], .cons ⟨rfl, by rw [upd_ne hne]; exact eb, h2⟩ .nil, ?_⟩
    obtain ⟨o, es, ep, g1, g2, g3, g4, g5, g6⟩ := dd'
    exact ⟨o, es, ep, g1, g2, g3, g4, g6⟩
end

/-! ### sorted(d), d a dict with tuples of ints as keys -/
theorem readsAll_ints {h : Heap} : ∀ {ns : List Int} {its : List Value}, Vals (ns.map V.int) its → ReadsAll h its (ns.map PyData.int) []
  | [], _, r => by rw [List.map_nil] at r; cases r; exact .nil
  | n :: ns, _, r => by
    rw [List.map_cons] at r
    cases r with
    | cons h t =>
      obtain ⟨t', rfl⟩ := h
      exact .cons (as := []) (bs := []) (.int n t') (readsAll_ints t)
theorem keys_each {H : Hp} {kvs : List (List Key × V)} {ks : List (List Key × Addr × Value)} (r : KT H kvs ks) : ∀ {nss : List (List Int)}, kvs.map (·.1) = nss.map (List.map Sum.inl) →
    ∃ bs : List (Addr × List Int), bs.map (·.2) = nss ∧ PySem.W.EachIs (fun (v : Value) (b : Addr × List Int) => v = .ref b.1 ∧ H b.1 = some (.tup (b.2.map V.int))) ((ks.map fun x => x.2.1).map Value.ref) bs := by
  induction r with
  | nil =>
    intro nss e
    cases nss with
    | nil => exact ⟨[], rfl, .nil⟩
    | cons _ _ => cases e
  | @cons p q ps qs h t ih =>
    intro nss e
    cases nss with
    | nil => cases e
    | cons ns nss =>
      rw [List.map_cons, List.map_cons] at e
      injection e with e1 e2
      obtain ⟨bs, b1, b2⟩ := ih e2
      refine ⟨(q.2.1, ns) :: bs, by rw [List.map_cons, b1], .cons ⟨rfl, ?_⟩ b2⟩
      have := h.2.1
      rw [e1, List.map_map] at this
      exact this
theorem each_paired {H : Hp} : ∀ {vs : List Value} {bs : List (Addr × List Int)}, PySem.W.EachIs (fun (v : Value) (b : Addr × List Int) => v = .ref b.1 ∧ H b.1 = some (.tup (b.2.map V.int))) vs bs →
    Paired (fun b ns => H b = some (.tup (ns.map V.int))) (bs.map (·.1)) (bs.map (·.2)) ∧ vs = (bs.map (·.1)).map Value.ref
  | _, _, .nil => ⟨.nil, rfl⟩
  | _, _, .cons h t => by
    obtain ⟨a, b⟩ := each_paired t
    exact ⟨.cons h.2 a, by rw [List.map_cons, List.map_cons, ← b, h.1]⟩
/-- what a walk over such a dict's keys collects -/
theorem acc_refs {P : Program} {w : World} {es : Array DictEntry} {ks : List (List Key × Addr × Value)} {acc : Array Value} (he : es.toList = ks.map (entryOfKey (tupleKind (mixKind P w))))
    (it : ItemsOf (fun i v => ∃ en : DictEntry, es[i]? = some en ∧ v = en.key) acc es.size) : acc.toList = (ks.map fun x => x.2.1).map Value.ref := by
  have hs : acc.size = ks.length := it.1.trans (size_of_entries he)
  refine List.ext_getElem (by simp [hs]) fun j h1 h2 => ?_
  rw [Array.length_toList] at h1
  obtain ⟨en, g1, g2⟩ := it.2 j acc[j] (Array.getElem?_eq_getElem h1)
  rw [entry_at he j, List.getElem?_eq_getElem (by omega)] at g1
  injection g1 with g1
  rw [Array.getElem_toList, g2, ← g1, List.getElem_map, List.getElem_map]
  rfl
theorem call_sortedDT {X : Cx} (hcalm : X.calm = true) (hu : X.A.units + 65 < cLine) : CallR X (.builtin "sorted") (fun xs H Q => ∃ (d : Addr) (kvs : List (List Key × V)) (nss : List (List Int)), xs = [.ref d] ∧ Rd H d (.dT kvs) ∧ kvs.map (·.1) = nss.map (List.map Sum.inl) ∧ (∀ ns ∈ nss, ns ≠ []) ∧
    ∀ (bs : List Addr) (L : List (List Int)) (p : Addr), L.Perm nss → Paired (fun b ns => H b = some (.tup (ns.map V.int))) bs L → H p = none → Q (.ref p) (upd H p (.lst (bs.map V.ref)))) := by
  intro pins s σ H xs us Q I r q
  obtain ⟨d, kvs, nss, ex, hd, hks, hne, q⟩ := q
  subst ex
  obtain ⟨u, eu, rx⟩ := vals1 r
  subst eu
  cases rx
  obtain ⟨z, hs, ks, pr, o, es, ep, ho, hx, hdt, he, hn⟩ := (show ObjOk X.prog X.w H s.heap d (.dT kvs) from hd.ok I.hok)
  have l1 : es.size = ks.length := size_of_entries he
  have l2 : kvs.length = ks.length := Paired.length pr
  refine Calls.call_function_entry PyProof.Rows.kind_sorted PyProof.Rows.plain_sorted PyProof.Rows.entry_sorted (PyProof.Rows.args_sorted1 _) ?_
  unfold Builtin.«sorted»
  refine wpAny_bind (m := checkCount "sorted" 1 1 _) (wpAny_pure ?_)
  refine wpAny_bind (PySem.W.kdu_collect (A := X.A.in1) (kdl_raw hs hx hdt) (I.ok.hd hcalm) ho (by omega) fun h' tk acc' kp it => ?_)
  have eb := acc_refs he it
  obtain ⟨bs0, b1, b2⟩ := keys_each pr hks
  have hal0 : acc'.toList.length = ks.length := by rw [eb, List.length_map, List.length_map]
  have I1 : Inv X pins σ H { s with heap := h', toks := tk } := I.kept kp
  refine wpAny_bind (wpAny_newList ?_ (by rw [hal0]; omega))
  have hoL : (h'.push (seqObj "list" acc'.toList.toArray 0)).get? h'.objs.size = some (seqObj "list" acc'.toList.toArray 0) := Heap.get?_push_size _ rfl
  show wpAny _ _ _ _ _ { s with heap := h'.push (seqObj "list" acc'.toList.toArray 0), toks := tk }
  have b3 : PySem.W.EachIs (fun (v : Value) (b : Addr × List Int) => v = .ref b.1 ∧ H b.1 = some (.tup (b.2.map V.int))) acc'.toList bs0 := by rw [eb]; exact b2
  have lb : bs0.length = ks.length := by
    have := b3.length
    omega
  have er : PySem.W.EachIs (fun v b => ∃ as, Reads (h'.push (seqObj "list" acc'.toList.toArray 0)) v ((fun b : Addr × List Int => PyData.tuple (b.2.map .int)) b) as ∧ h'.objs.size ∉ as) acc'.toList bs0 := b3.mono fun v b ⟨e1, e2⟩ => by
    subst e1
    obtain ⟨zz, its, r, o2, g1, g2, n, g3⟩ := (show ObjOk X.prog X.w H h' b.1 (.tup (b.2.map V.int)) from I1.hok _ _ e2)
    exact ⟨[], .tuple (Heap.get?_push_of_some _ g1) g2 g3 (by simpa using readsAll_ints r), by simp⟩
  have hal : PySem.W.AllAlike (bs0.map fun b : Addr × List Int => PyData.tuple (b.2.map .int)) := PySem.W.AllAlike.of fun b b' => by
    show PySem.W.alike (PyData.tuple _) (PyData.tuple _) = true
    simpa [PySem.W.alike] using PySem.W.alike_ints b.2 b'.2
  have hk : PySem.W.Sortable (bs0.map fun b : Addr × List Int => PyData.tuple (b.2.map .int)) := .inl fun d hd => by
    obtain ⟨b, hb, rfl⟩ := List.mem_map.mp hd
    have hn2 : b.2 ≠ [] := hne _ (by rw [← b1]; exact List.mem_map_of_mem hb)
    cases e : b.2 with
    | nil => exact absurd e hn2
    | cons x r => exact ⟨.int x, r.map .int, rfl⟩
  have hdep : ∀ b : Addr × List Int, (PyData.tuple (b.2.map .int)).depth ≤ 1 := fun b => by
    rw [PyData.depth, PySem.W.depth_ints]
    omega
  refine wpAny_bind (wpAny_holding (PySem.W.list_sort_data (s := { s with heap := h'.push (seqObj "list" acc'.toList.toArray 0), toks := tk }) hoL b3 er hal hk (by omega) (fun b _ => by have := hdep b; show X.A.units + 1 + 1 + _ < cLine; omega) fun out hlen each => ?_))
  obtain ⟨e', he'⟩ := PyProof.Rows.sortedHeap_at (vs := acc'.toList) (out := out.toArray) hoL
  obtain ⟨pp, ev⟩ := each_paired each
  have hz2 : ((((bs0.mergeSort (PySem.W.dataLe false fun b : Addr × List Int => PyData.tuple (b.2.map .int))).map (·.1)).map V.ref)).length ≤ sizeLine := by
    rw [List.length_map, List.length_map, List.length_mergeSort]
    omega
  refine wpAny_pure ⟨_, rfl, .ref h'.objs.size, upd H h'.objs.size (.lst (((bs0.mergeSort (PySem.W.dataLe false fun b : Addr × List Int => PyData.tuple (b.2.map .int))).map (·.1)).map V.ref)), I1.laid (t' := tk) (fun b u e => ?_) (Nat.le_refl _)
    ⟨hz2, out, e', by rw [ev]; exact vals_refs _, he'⟩, rfl, q _ _ _ ?_ pp (I1.hok.fresh (Nat.le_refl _))⟩
  · have hb : b < h'.objs.size := Heap.lt_size e
    rw [PyProof.Rows.sortedHeap_old (Nat.ne_of_lt hb) (by rw [size_push']; exact Nat.lt_succ_of_lt hb)]
    exact Heap.get?_push_of_some _ e
  · rw [← b1]
    exact (List.mergeSort_perm _ _).map _
end BM
set_option Elab.async false
set_option linter.all false
set_option maxRecDepth 100000
set_option maxHeartbeats 4000000
namespace Bel
open PySem PySem.Spec L2 GxR GxA BM

/-! ### what one needs of a def to call it -/
structure Cal (K : PySem.W.Frag) (mg : Str → Option Value) (x : Str) (ps : List Str) (f : Addr) (fd : FuncData) : Prop where
  m : mg x = some (.ref f)
  k : PySem.W.keepIn K (.ref f) = true
  b : Binds K fd ps []
theorem hu65 {k : Nat} {A : Around} (hr : Room k A) : A.units + 65 < cLine := by have := hr.un; omega

/-! ### arcs as data -/
abbrev dArc (x : Arc) : PyData := .tuple [.int x.1, .int x.2]
theorem eqv_arc (x y : Arc) : PyData.eqv (dArc x) (dArc y) = decide (x = y) := by
  obtain ⟨a, b⟩ := x
  obtain ⟨c, d⟩ := y
  rw [Bool.eq_iff_iff]
  simp [PyData.eqv, PyData.eqvAll]
theorem shaped_arc (x : Arc) : SeqAt.shaped (dArc x) = true := by
  simp [SeqAt.shaped, PyData.canLay0, PyData.canLayAll0, PyData.depth, PyData.depthAll]
theorem lay_arcs : ∀ l : List Arc, PyData.canLayAll0 (l.map dArc) = true
  | [] => by simp [PyData.canLayAll0]
  | x :: l => by
    rw [List.map_cons, PyData.canLayAll0, lay_arcs l]
    simp [PyData.canLay0, PyData.canLayAll0]
theorem depth_arcs : ∀ l : List Arc, PyData.depthAll (l.map dArc) ≤ 9
  | [] => by simp [PyData.depthAll]
  | x :: l => by
    rw [List.map_cons, PyData.depthAll]
    have := depth_arcs l
    simp [PyData.depth, PyData.depthAll]
    omega
theorem shaped_arcs (l : List Arc) : SeqAt.shaped (.list (l.map dArc)) = true := by
  have h1 := lay_arcs l
  have h2 := depth_arcs l
  have h3 : PyData.canLay0 (.list (l.map dArc)) = true := by rw [PyData.canLay0]; exact h1
  have h4 : PyData.depth (.list (l.map dArc)) ≤ 64 := by rw [PyData.depth]; omega
  unfold SeqAt.shaped
  rw [h3, decide_eq_true h4]
  rfl
theorem dp_arc {K : PySem.W.Frag} {H : Hp} {r : Addr} {x : Arc} (h : ArcAt H r x) : Dp K H (.ref r) (dArc x) := .tup (SqT.of h) (.cons (.int _) (.cons (.int _) .nil))
theorem dp_arcs {K : PySem.W.Frag} {H : Hp} : ∀ {rs : List Addr} {arcs : List Arc}, Paired (ArcAt H) rs arcs → DpAll K H (rs.map V.ref) (arcs.map dArc)
  | _, _, .nil => .nil
  | _, _, .cons h t => .cons (dp_arc h) (dp_arcs t)
theorem any_arc (l : List Arc) (x : Arc) : ((l.map dArc).any fun z => PyData.eqv z (dArc x)) = decide (x ∈ l) := by
  rw [Bool.eq_iff_iff]
  simp only [List.any_map, List.any_eq_true, Function.comp, eqv_arc, decide_eq_true_eq]
  exact ⟨fun ⟨y, h, e⟩ => e ▸ h, fun h => ⟨x, h, rfl⟩⟩
theorem paired_take {α β : Type} {F : α → β → Prop} : ∀ {l₁ : List α} {l₂ : List β} (k : Nat), Paired F l₁ l₂ → Paired F (l₁.take k) (l₂.take k)
  | _, _, _, .nil => by simp; exact .nil
  | _, _, 0, .cons _ _ => by simp; exact .nil
  | _, _, k + 1, .cons r t => by
    rw [List.take_succ_cons, List.take_succ_cons]
    exact .cons r (paired_take k t)

/-! ### need_web -/
def spNeed (TT : List Addr) : Sp := fun vs H Q _ => ∃ (a : Addr) (n : Int) (arcs : List Arc), vs = [.ref a] ∧ WebAt H a n arcs ∧ Web n arcs ∧ Tabs TT H ∧ ∀ H', Ext H H' → Q .non H'
section
variable {P : Program} {w : World} {K : PySem.W.Frag} {mg : Str → Option Value} {base : Heap}
theorem scNeed : FnScope ["web", "index", "arc"] ["web"] (defScope sNeed) := ⟨rfl, rfl, rfl, by decide +kernel, rfl, by decide +kernel, by decide +kernel⟩
theorem ok_need {TT : List Addr} {f : Addr} {fd : FuncData} (F : Fun K "need_web" "need_web" sNeed f fd) (T : Txt K mg)
    {f1 : Addr} {fd1 : FuncData} (G1 : FnOk P w K mg base CX0 1 f1 fd1 ["value", "least", "most"] spIsIn) (c1 : Cal K mg "is_in" ["value", "least", "most"] f1 fd1)
    {f2 : Addr} {fd2 : FuncData} (G2 : FnOk P w K mg base CX0 3 f2 fd2 ["size", "value"] (spIsArc TT)) (c2 : Cal K mg "is_arc" ["size", "value"] f2 fd2) :
    FnOk P w K mg base CX0 4 f fd ["web"] (spNeed TT) := by
  obtain ⟨tp, mp⟩ := T.mp
  obtain ⟨ta, ma⟩ := T.ma
  refine F.ok scNeed (fun vs H Q E h => ?_) (fun cdv A outer s H vs Q E hr h => ?_)
  · obtain ⟨a, n, arcs, rfl, _⟩ := h
    rfl
  · obtain ⟨a, n, arcs, rfl, hw, W, hT, k⟩ := h
    refine ⟨_, pss_cons (ps_if (PW.pt (pw_or (pt_not (pt_val (pe_callB call_isi (by rfl) T.isi (by decide +kernel) (pa_cons (pv 0) (pa_cons (pe_bltn (v := .ty "tuple") (by rfl) T.tuple (by decide +kernel) rfl) pa_nil)))))
        (pw_or (pt_cmpR op_ne (pe_callB call_len_seq (by rfl) T.len PySem.boot_len (pa_cons (pv 0) pa_nil)) pe_int (nomark _))
        (pw_or1 (pt_not (pt_val (pe_call G1 (hr.mono (by decide)) rfl c1.m c1.k c1.b .nil pass0 (pa_cons (pe_ix ix_tup (pv 0) pe_int (fun _ _ => rfl)) (pa_cons pe_int (pa_cons (pe_glob (v := .int 6) rfl mp ⟨_, rfl⟩) pa_nil))))))))))
        pss_never pss_nil)
      (pss_cons (ps_if (PW.pt (pw_or (pt_not (pt_val (pe_callB call_isi (by rfl) T.isi (by decide +kernel) (pa_cons (pe_ix ix_tup (pv 0) pe_int (fun _ _ => rfl)) (pa_cons (pe_bltn (v := .ty "tuple") (by rfl) T.tuple (by decide +kernel) rfl) pa_nil)))))
        (pw_or1 (pt_cmpR op_gt (pe_callB call_len_seq (by rfl) T.len PySem.boot_len (pa_cons (pe_ix ix_tup (pv 0) pe_int (fun _ _ => rfl)) pa_nil)) (pe_glob (v := .int 12) rfl ma ⟨_, rfl⟩) (nomark _)))))
        pss_never pss_nil)
      (pss_one (ps_for PassesOwn.never rfl (pi_enumT (by rfl) T.enum (pa_cons (pe_ix ix_tup (pv 0) pe_int (fun _ _ => rfl)) pa_nil))
        (pg_tup rfl (pgs_cons (pg_name (i := 1) scNeed.nd rfl (Or.inl rfl)) (pgs_cons (pg_name (i := 2) scNeed.nd rfl (Or.inl rfl)) pgs_nil)))
        (pss_one (ps_if (PW.pt (pw_or (pt_not (pt_val (pe_call G2 hr rfl c2.m c2.k c2.b .nil pass0 (pa_cons (pe_ix ix_tup (pv 0) pe_int (fun _ _ => rfl)) (pa_cons (pv 2) pa_nil)))))
          (pw_or1 (pt_cmpR (op_inDT (hu65 hr)) (pv 2) (pe_slice sl_tupA (pe_ix ix_tup (pv 0) pe_int (fun _ _ => rfl)) po_none (po_some (pv 1))) (by rfl)))))
          pss_never pss_nil))))), ?_⟩
    obtain ⟨b, rs, hb, hrs, hp⟩ := hw.ex
    refine ⟨_, rfl, .ref a, .ty "tuple", .type "tuple", .type "tuple", true, rfl, .ty "tuple", .base (.tup hb), kit_ty (by decide +kernel), _, rfl, ?_⟩
    refine iteF ?_
    refine ⟨_, rfl, a, _, rfl, .inr (SqT.of hb), rfl, _, rfl, ?_⟩
    refine iteNS rfl ?_
    refine ⟨_, rfl, a, _, _, _, rfl, rfl, SqT.of hb, rfl, n, 1, 6, rfl, _, rfl, ?_⟩
    rw [decide_eq_true W.lo, decide_eq_true (show n ≤ 6 by have := W.hi; omega)]
    refine iteF ?_
    refine ⟨_, rfl, a, _, _, _, rfl, rfl, SqT.of hb, rfl, .ref b, .ty "tuple", .type "tuple", .type "tuple", true, rfl, .ty "tuple", .base (.tup hrs), kit_ty (by decide +kernel), _, rfl, ?_⟩
    refine iteF ?_
    have hlen : rs.length = arcs.length := Paired.length hp
    refine ⟨_, rfl, a, _, _, _, rfl, rfl, SqT.of hb, rfl, b, _, rfl, .inr (SqT.of hrs), _, _, rfl, rfl, _, rfl, ?_⟩
    rw [decide_eq_false (show ¬ ((12 : Int) < ((rs.map V.ref).length : Nat)) by rw [List.length_map, hlen]; have := W.len; omega)]
    refine iteF ?_
    refine ⟨_, rfl, a, _, _, _, rfl, rfl, SqT.of hb, rfl, b, _, rfl, SqT.of hrs, ?_⟩
    refine loop_by (rs.map V.ref).length (fun i σ H' => Ext H H' ∧ ∃ x y, σ = [some (.ref a), x, y]) ⟨Ext.refl H, _, _, rfl⟩ (fun i σ H' hi0 p => ⟨⟨_, _, SqT.of (p.1.tup hrs), List.getElem?_eq_getElem hi0⟩, fun v H9 y => ?_⟩) (fun σ H' p => ⟨⟨_, SqT.of (p.1.tup hrs), rfl⟩, k H' p.1⟩)
    · obtain ⟨t, x, rfl, ht, rfl, hx⟩ := y
      have hx := hx _ (SqT.of (p.1.tup hrs))
      obtain ⟨e, s1, s2, rfl⟩ := p
      have e2 : Ext H (upd H' t (.tup [.int (i : Nat), x])) := e.mut (e.free ht)
      obtain ⟨r, hr1, rfl⟩ : ∃ r, rs[i]? = some r ∧ x = V.ref r := by
        rw [List.getElem?_map] at hx
        cases q : rs[i]? with
        | none => rw [q] at hx; cases hx
        | some r => rw [q] at hx; exact ⟨r, rfl, (Option.some.inj hx).symm⟩
      obtain ⟨y, hy, hry⟩ := paired_at hp hr1
      have hi : i < arcs.length := (List.getElem?_eq_some_iff.mp hy).1
      have hmem : y ∈ arcs := List.mem_of_getElem? hy
      have hok := W.ok y hmem
      refine ⟨t, _, rfl, SqT.of upd_same, rfl, _, _, rfl, _, _, rfl, rfl, ?_⟩
      refine ⟨_, rfl, a, _, _, _, rfl, rfl, SqT.of (e2.tup hb), rfl, _, rfl, n, r, y, rfl, e2.tup hry, e2.tabs hT, hok, fun H2 e3 => ?_⟩
      have e4 := e2.trans e3
      refine ⟨_, rfl, ?_⟩
      refine iteF ?_
      have hnot : y ∉ arcs.take i := fun hm => by
        obtain ⟨j, hj, hj2⟩ := List.getElem_of_mem hm
        have hj3 : j < i := by rw [List.length_take] at hj; omega
        have e5 : arcs[j]'(by omega) = y := by rw [← hj2, List.getElem_take]
        have e6 : arcs[i] = y := (List.getElem?_eq_some_iff.mp hy).2
        have := (List.nodup_iff_pairwise_ne.mp W.nd)
        exact (List.pairwise_iff_getElem.mp this j i (by omega) hi hj3) (e5.trans e6.symm)
      have fin : ∀ (q : Addr) (H3 : Hp) (Z : Prop) (L : List V), Ext H H3 → L = (rs.take i).map V.ref → SqT K H3 q L → (Ext H H3 → Z) → rInDT K (.ref r) (.ref q) H3 fun x H9 => ∃ k, x = .bl k ∧ if k = true then False else Z := fun q H3 Z L e5 eL hq hz => by
        subst eL
        refine ⟨dArc y, (arcs.take i).map dArc, dp_arc (e5.tup hry), .tup hq (dp_arcs (paired_take i (Paired.mapP hp fun r x z => e5.tup z))), shaped_arc y, shaped_arcs _, _, rfl, ?_⟩
        rw [any_arc, decide_eq_false hnot]
        exact iteF (hz e5)
      have hcut : cutV (rs.map V.ref) none (some (i : Int)) = (rs.take i).map V.ref := by
        unfold cutV
        rw [HT.sIx_none, HT.sIx_nat, List.drop_zero, List.length_map, hlen, Nat.min_eq_left (by omega), Nat.sub_zero, List.map_take]
      refine ⟨_, rfl, _, rfl, a, _, _, _, rfl, rfl, SqT.of (e4.tup hb), rfl, _, rfl, _, rfl, b, _, rfl, SqT.of (e4.tup hrs), fun hwh => ?_, fun hwh p hp2 => ?_⟩
      · have h7 := hwh.2
        rw [HT.sIx_nat, List.length_map, hlen, Nat.min_eq_left (by omega)] at h7
        omega
      · exact fin p _ _ _ (e4.mut (e4.free hp2)) hcut (SqT.of upd_same) fun e6 => ⟨e6, _, _, rfl⟩
end
end Bel
set_option Elab.async false
set_option linter.all false
set_option maxRecDepth 100000
set_option maxHeartbeats 4000000
namespace Bel
open PySem PySem.Spec L2 GxR GxA BM

theorem rg_people (n : Int) : rgV 1 (n + 1) = ivs (people n) := by
  unfold rgV people ivs
  have e : (n + 1 - 1 : Int) = n := by omega
  rw [e, List.map_map]
  refine List.map_congr_left fun i _ => ?_
  show V.int (1 + (i : Int)) = V.int ((i : Int) + 1)
  rw [Int.add_comm]

/-! ### people -/
def spPeople : Sp := fun vs H Q _ => ∃ (a : Addr) (n : Int) (arcs : List Arc), vs = [.ref a] ∧ WebAt H a n arcs ∧ Web n arcs ∧ ∀ q H', Ext H H' → H' q = some (.tup (ivs (people n))) → Q (.ref q) H'
section
variable {P : Program} {w : World} {K : PySem.W.Frag} {mg : Str → Option Value} {base : Heap}
theorem scPeople : FnScope ["web"] ["web"] (defScope sPeople) := ⟨rfl, rfl, rfl, by decide +kernel, rfl, by decide +kernel, by decide +kernel⟩
theorem ok_people {f : Addr} {fd : FuncData} (F : Fun K "people" "people" sPeople f fd) (T : Txt K mg) : FnOk P w K mg base CX0 1 f fd ["web"] spPeople := by
  refine F.ok scPeople (fun vs H Q E h => ?_) (fun cdv A outer s H vs Q E hr h => ?_)
  · obtain ⟨a, n, arcs, rfl, _⟩ := h
    rfl
  · obtain ⟨a, n, arcs, rfl, hw, W, k⟩ := h
    refine ⟨_, pss_one (ps_ret (pe_tupRg rfl (by rfl) T.tuple (prg_2 (by rfl) T.range pe_int (pe_op op_add (pe_ix ix_tup (pv 0) pe_int (fun _ _ => rfl)) pe_int)))), ?_⟩
    obtain ⟨b, rs, hb, hrs, hp⟩ := hw.ex
    refine ⟨_, rfl, a, _, _, _, rfl, rfl, SqT.of hb, rfl, n, 1, rfl, rfl, 1, n + 1, rfl, rfl, ?_, fun q hq => ?_⟩
    · have h1 := W.lo
      have h2 := W.hi
      exact RgOk.of_le (by decide) (by omega) (by decide) (by omega)
    · rw [rg_people]
      exact k q _ (Ext.new hq) upd_same

/-! ### hearers -/
abbrev kd (ks : List Int) : List (Key × V) := ks.map fun k => (Sum.inl k, V.bl true)
theorem kd_val (ks : List Int) (g : Int) : (valV (kd ks) (Sum.inl g)).isSome = decide (g ∈ ks) := by
  rw [← valV_any, Bool.eq_iff_iff]
  simp only [List.any_map, List.any_eq_true, Function.comp, decide_eq_true_eq]
  exact ⟨fun ⟨y, h, e⟩ => by injection e with e; exact e ▸ h, fun h => ⟨g, h, rfl⟩⟩
theorem kd_put {ks : List Int} {g : Int} (h : g ∉ ks) : putK (kd ks) (Sum.inl g) (.bl true) = kd (ks ++ [g]) := by
  have : valV (kd ks) (Sum.inl g) = none := by
    have := kd_val ks g
    rw [decide_eq_false h] at this
    cases e : valV (kd ks) (Sum.inl g) with
    | none => rfl
    | some x => rw [e] at this; cases this
  rw [putK_new _ this]
  show _ = List.map _ (ks ++ [g])
  rw [List.map_append]
  rfl
theorem inV_ints (ns : List Int) (x : Int) : inV (.int x) (ivs ns) = decide (x ∈ ns) := by
  rw [Bool.eq_iff_iff]
  unfold inV
  simp only [List.any_map, List.any_eq_true, Function.comp, decide_eq_true_eq]
  constructor
  · rintro ⟨y, h, e⟩
    have : y = x := by simpa [eqV] using e
    exact this ▸ h
  · exact fun h => ⟨x, h, by simp [eqV]⟩
theorem flat_ints (ns : List Int) : (ivs ns).all flatV = true := by
  rw [List.all_map]
  exact List.all_eq_true.mpr fun x _ => rfl
theorem len_ok {n : Int} {arcs : List Arc} (W : Web n arcs) {ks : List Int} (nd : ks.Nodup) (h : ∀ k ∈ ks, 1 ≤ k ∧ k ≤ n) : ks.length ≤ n.toNat := by
  have := len_le_of_sub nd (fun x hx => (mem_people (n := n)).mpr (h x hx))
  rwa [len_people] at this

/-- the dict at d holds exactly who hears p -/
def HearAt (H : Hp) (n : Int) (arcs : List Arc) (p : Int) (d : Addr) : Prop := ∃ ks : List Int, H d = some (.dK (kd ks)) ∧ ks.Nodup ∧ (∀ k, k ∈ ks ↔ k ∈ hear n arcs p)
def spHearers : Sp := fun vs H Q _ => ∃ (a b : Addr) (n : Int) (arcs : List Arc) (p : Int), vs = [.ref a, .ref b] ∧ WebAt H a n arcs ∧ Web n arcs ∧ H b = some (.lst [.int p]) ∧ (1 ≤ p ∧ p ≤ n) ∧ ∀ d H', Ext H H' → HearAt H' n arcs p d → Q (.ref d) H'
theorem scHearers : FnScope ["web", "begin", "seen", "rows", "more", "source", "goal", "one"] ["web", "begin"] (defScope sHearers) := ⟨rfl, rfl, rfl, by decide +kernel, rfl, by decide +kernel, by decide +kernel⟩

/-- what holds ahead of a turn of while -/
structure HI (H H' : Hp) (n : Int) (arcs : List Arc) (p : Int) (d r : Addr) (ks rs : List Int) : Prop where
  e : Ext H H'
  hd0 : H d = none
  hr0 : H r = none
  hd : H' d = some (.dK (kd ks))
  hr : H' r = some (.lst (ivs rs))
  nd : ks.Nodup
  pm : p ∈ ks
  sub : ∀ k ∈ rs, k ∈ ks
  rch : ∀ k ∈ ks, Reach arcs p k
  out : ∀ x ∈ arcs, x.1 ∈ ks → x.1 ∉ rs → x.2 ∈ ks
/-- ahead of a turn of for -/
structure HJ (H H' : Hp) (n : Int) (arcs : List Arc) (p : Int) (d r m : Addr) (ks rs ms : List Int) (i : Nat) : Prop where
  e : Ext H H'
  hd0 : H d = none
  hr0 : H r = none
  hm0 : H m = none
  hd : H' d = some (.dK (kd (ks ++ ms)))
  hr : H' r = some (.lst (ivs rs))
  hm : H' m = some (.lst (ivs ms))
  ne : r ≠ m
  nd : (ks ++ ms).Nodup
  pm : p ∈ ks
  sub : ∀ k ∈ rs, k ∈ ks
  rch : ∀ k ∈ ks ++ ms, Reach arcs p k
  out : ∀ x ∈ arcs, x.1 ∈ ks → x.1 ∉ rs → x.2 ∈ ks
  done : ∀ x ∈ arcs.take i, x.1 ∈ rs → x.2 ∈ ks ++ ms

theorem ok_hearers {f : Addr} {fd : FuncData} (F : Fun K "hearers" "hearers" sHearers f fd) (T : Txt K mg) : FnOk P w K mg base CX0 1 f fd ["web", "begin"] spHearers := by
  refine F.ok scHearers (fun vs H Q E h => ?_) (fun cdv A outer s H vs Q E hr h => ?_)
  · obtain ⟨a, b, n, arcs, p, rfl, _⟩ := h
    rfl
  · obtain ⟨a, b, n, arcs, p, rfl, hw, W, hb, hpr, k⟩ := h
    refine ⟨_, pss_cons (ps_par (i := 2) (j := 3) rfl scHearers.nd rfl rfl (by decide) rfl rfl
        (pa_cons (pe_dc (own := [("one", 7)]) (g := gName 7) (tt := tYes) rfl scHearers.nd (pi_list (pv 1)) (blkOk_by (own := [("one", 7)]) (N := ["web", "begin", "seen", "rows", "more", "source", "goal", "one"]) (sc := defScope sHearers) (by decide +kernel))
            (fun _ _ _ _ _ => pg_name (i := 7) scHearers.nd rfl (Or.inl rfl)) (fun _ _ _ _ _ => pts_nil) (fun _ _ _ _ _ => pv 7) (fun _ _ _ _ _ => pe_bl))
          (pa_cons (pe_callTy call_list_of (by rfl) T.list (by decide +kernel) (pa_cons (pv 1) pa_nil)) pa_nil)) rfl)
      (pss_cons (ps_while PassesOwn.never (pt_truth (pv 3) (fun _ => rfl))
        (pss_cons (ps_set (i := 4) scHearers.nd rfl (Or.inl rfl) (pe_lst pa_nil))
        (pss_cons (ps_for PassesOwn.never rfl (pi_tup (pe_ix ix_tup (pv 0) pe_int (fun _ _ => rfl)))
            (pg_tup rfl (pgs_cons (pg_name (i := 5) scHearers.nd rfl (Or.inl rfl)) (pgs_cons (pg_name (i := 6) scHearers.nd rfl (Or.inl rfl)) pgs_nil)))
            (pss_one (ps_if (PW.pt (pw_and (pt_cmpR op_in_seq (pv 5) (pv 3) (by rfl)) (pw_and1 (pt_cmp (pc_dnotin (hu_of hr) (pv 6) (pv 2))))))
              (pss_cons (ps_dput (hu_of hr) (pv 2) (pv 6) pe_bl rfl)
                (pss_one (ps_expr (pe_bm PySem.F.plainAttrs_list PySem.F.slot_list_append PySem.F.type_list_append mt_append (pv 4) (pa_cons (pv 6) pa_nil))))) pss_nil)))
        (pss_one (ps_set (i := 3) scHearers.nd rfl (Or.inl rfl) (pv 4))))))
      (pss_one (ps_ret (pv 2)))), ?_⟩
    obtain ⟨wb, rs0, hwa, hrs0, hp0⟩ := hw.ex
    have lenA : rs0.length = arcs.length := Paired.length hp0
    refine ⟨_, rfl, b, rfl, ⟨_, SqL.of hb⟩, fun d hd => ?_⟩
    refine turns_by 1 (fun i H' => Ext H H' ∧ H' d = some (.dK (kd ([p].take i)))) ⟨Ext.new hd, upd_same⟩ (fun i H' hi z => ?_) (fun H1 z => ?_)
    · obtain ⟨e, q⟩ := z
      obtain rfl : i = 0 := by omega
      refine ⟨⟨[V.int p], V.int p, SqL.of (e.lst hb), rfl⟩, fun x H2 y => ?_⟩
      · obtain ⟨rfl, y⟩ := y
        obtain rfl : V.int p = x := Option.some.inj (y _ (SqL.of (e.lst hb)))
        refine ⟨rfl, ?_⟩
        simp only [tYes, if_true]
        refine ⟨_, rfl, _, Sum.inl p, rfl, q, by show 0 < sizeLine; decide, e.mut hd, ?_⟩
        exact upd_same
    · obtain ⟨e1, q1⟩ := z
      refine ⟨⟨_, SqL.of (e1.lst hb), Nat.le_refl _⟩, ?_⟩
      refine ⟨_, rfl, b, _, rfl, .inl (SqL.of (e1.lst hb)), fun r hr1 => ?_⟩
      refine ⟨_, _, rfl, ?_⟩
      have hdr : d ≠ r := ne_of_none q1 hr1
      refine ⟨fun m σ H' => ∃ (r : Addr) (ks rs : List Int) (x4 x5 x6 x7 : Option V), σ = [some (.ref a), some (.ref b), some (.ref d), some (.ref r), x4, x5, x6, x7] ∧ HI H H' n arcs p d r ks rs ∧ m = (n.toNat - ks.length) * 2 + (if rs = [] then 0 else 1), ⟨_, r, [p], [p], _, _, _, _, rfl, ?_, rfl⟩, ?_⟩
      · refine ⟨e1.mut (e1.free hr1), hd, e1.free hr1, ?_, upd_same, by simp, by simp, by simp, ?_, ?_⟩
        · rw [upd_ne hdr]
          exact q1
        · intro k hk
          rw [List.mem_singleton.mp hk]
          exact .refl
        · intro x _ h1 h2
          exact absurd h1 h2
      · rintro m σ H2 ⟨r, ks, rs, x4, x5, x6, x7, rfl, I, rfl⟩
        refine ⟨_, rfl, !(ivs rs).isEmpty, .inl ⟨_, SqL.of I.hr, rfl⟩, ?_⟩
        by_cases hrs : rs = []
        · subst hrs
          refine iteF ?_
          refine ⟨_, rfl, k d H2 I.e ⟨ks, I.hd, I.nd, fun q => ?_⟩⟩
          rw [mem_hear W hpr]
          exact ⟨I.rch q, fun z => z.mem I.pm fun x hx h1 => I.out x hx h1 (by simp)⟩
        · have hne : (!(ivs rs).isEmpty) = true := by
            cases rs with
            | nil => exact absurd rfl hrs
            | cons _ _ => rfl
          rw [hne]
          refine iteT ?_
          refine ⟨fun σ' H' => ∃ m', m' < (n.toNat - ks.length) * 2 + (if rs = [] then 0 else 1) ∧ ∃ (r : Addr) (ks rs : List Int) (x4 x5 x6 x7 : Option V), σ' = [some (.ref a), some (.ref b), some (.ref d), some (.ref r), x4, x5, x6, x7] ∧ HI H H' n arcs p d r ks rs ∧ m' = (n.toNat - ks.length) * 2 + (if rs = [] then 0 else 1), fun _ _ z => z, ?_⟩
          refine ⟨by show 0 ≤ sizeLine; decide, fun mm hmm => ?_⟩
          have em : Ext H (upd H2 mm (.lst [])) := I.e.mut (I.e.free hmm)
          refine ⟨_, rfl, a, _, _, _, rfl, rfl, SqT.of (em.tup hwa), rfl, wb, rfl, ⟨_, SqT.of (em.tup hrs0)⟩, ?_⟩
          have rm : r ≠ mm := ne_of_none I.hr hmm
          have dm : d ≠ mm := ne_of_none I.hd hmm
          refine for_tup (xs := rs0.map V.ref) (fun i σ H' => ∃ (ms : List Int) (x5 x6 : Option V), σ = [some (.ref a), some (.ref b), some (.ref d), some (.ref r), some (.ref mm), x5, x6, x7] ∧ HJ H H' n arcs p d r mm ks rs ms i) ?_ (fun i σ H' _ q => ?_) ?_ ?_
          · refine ⟨[], x5, x6, rfl, em, I.hd0, I.hr0, I.e.free hmm, ?_, ?_, upd_same, rm, by simpa using I.nd, I.pm, I.sub, by simpa using I.rch, I.out, by simp⟩
            · rw [upd_ne dm, List.append_nil]
              exact I.hd
            · rw [upd_ne rm]
              exact I.hr
          · obtain ⟨ms, x5, x6, rfl, J⟩ := q
            exact SqT.of (J.e.tup hrs0)
          · intro i x σ H' hx q
            obtain ⟨ms, x5, x6, rfl, J⟩ := q
            obtain ⟨c, hc1, rfl⟩ : ∃ r, rs0[i]? = some r ∧ x = V.ref r := by
              rw [List.getElem?_map] at hx
              cases q : rs0[i]? with
              | none => rw [q] at hx; cases hx
              | some r => rw [q] at hx; exact ⟨r, rfl, (Option.some.inj hx).symm⟩
            obtain ⟨y, hy, hcy⟩ := paired_at hp0 hc1
            have hmem : y ∈ arcs := List.mem_of_getElem? hy
            have hok := W.ok y hmem
            have tk1 : arcs.take (i + 1) = arcs.take i ++ [y] := by rw [List.take_add_one, hy]; rfl
            refine ⟨c, _, rfl, SqT.of (J.e.tup hcy), rfl, _, _, rfl, _, _, rfl, rfl, ?_⟩
            refine ⟨_, rfl, _, rfl, r, _, rfl, .inl (SqL.of J.hr), rfl, flat_ints _, _, rfl, ?_⟩
            rw [if_neg Bool.false_ne_true, inV_ints]
            by_cases h1 : y.1 ∈ rs
            · rw [decide_eq_true h1]
              refine iteT ?_
              refine ⟨_, rfl, _, rfl, d, _, rfl, DGet.k (k := Sum.inl y.2) J.hd, _, rfl, ?_⟩
              rw [kd_val]
              by_cases h2 : y.2 ∈ ks ++ ms
              · rw [decide_eq_true h2]
                refine iteF ?_
                refine ⟨ms, _, _, rfl, J.e, J.hd0, J.hr0, J.hm0, J.hd, J.hr, J.hm, J.ne, J.nd, J.pm, J.sub, J.rch, J.out, fun x hx => ?_⟩
                rw [tk1] at hx
                rcases List.mem_append.mp hx with hx | hx
                · exact J.done x hx
                · rw [List.mem_singleton.mp hx]
                  exact fun _ => h2
              · rw [decide_eq_false h2]
                refine iteT ?_
                have nd2 : (ks ++ (ms ++ [y.2])).Nodup := by
                  rw [← List.append_assoc]
                  exact List.nodup_append.mpr ⟨J.nd, by simp, fun x hx z hz e => h2 (by rw [← List.mem_singleton.mp hz, ← e]; exact hx)⟩
                have rch2 : ∀ k ∈ ks ++ (ms ++ [y.2]), Reach arcs p k := fun k hk => by
                  rw [← List.append_assoc] at hk
                  rcases List.mem_append.mp hk with hk | hk
                  · exact J.rch k hk
                  · rw [List.mem_singleton.mp hk]
                    exact .step (J.rch y.1 (List.mem_append_left _ (J.sub _ h1))) hmem
                have hl1 : (ks ++ ms).length ≤ n.toNat := len_ok W J.nd fun k hk => (J.rch k hk).range W hpr
                have hhi := W.hi
                have dl : (kd (ks ++ ms)).length < sizeLine := by rw [List.length_map, sizeLine_eq]; omega
                have ml : (ivs ms).length < sizeLine := by rw [List.length_map, sizeLine_eq]; rw [List.length_append] at hl1; omega
                refine ⟨_, rfl, _, rfl, d, _, rfl, DPut.k (k := Sum.inl y.2) J.hd dl, ?_⟩
                rw [kd_put h2]
                have md : mm ≠ d := dm.symm
                have rd : r ≠ d := ne_of J.hr J.hd (by intro z; cases z)
                refine ⟨_, rfl, .inl ⟨rfl, _, SqL.of (by rw [upd_ne md]; exact J.hm)⟩, _, rfl, mm, _, _, rfl, rfl, by rw [upd_ne md]; exact J.hm, ml, ?_⟩
                refine ⟨ms ++ [y.2], _, _, rfl, (J.e.mut J.hd0).mut J.hm0, J.hd0, J.hr0, J.hm0, ?_, ?_, ?_, J.ne, nd2, J.pm, J.sub, rch2, J.out, fun x hx h3 => ?_⟩
                · rw [upd_ne dm, upd_same, List.append_assoc]
                · rw [upd_ne J.ne, upd_ne rd]
                  exact J.hr
                · rw [upd_same]
                  show some (HO.lst (ivs ms ++ [V.int y.2])) = some (HO.lst (ivs (ms ++ [y.2])))
                  rw [show ivs (ms ++ [y.2]) = ivs ms ++ [V.int y.2] from List.map_append ..]
                · rw [← List.append_assoc]
                  rw [tk1] at hx
                  rcases List.mem_append.mp hx with hx | hx
                  · exact List.mem_append_left _ (J.done x hx h3)
                  · rw [List.mem_singleton.mp hx]
                    simp
            · rw [decide_eq_false h1]
              refine iteF ?_
              refine ⟨ms, _, _, rfl, J.e, J.hd0, J.hr0, J.hm0, J.hd, J.hr, J.hm, J.ne, J.nd, J.pm, J.sub, J.rch, J.out, fun x hx => ?_⟩
              rw [tk1] at hx
              rcases List.mem_append.mp hx with hx | hx
              · exact J.done x hx
              · rw [List.mem_singleton.mp hx]
                exact fun h3 => absurd h3 h1
          · intro σ H' q
            obtain ⟨ms, x5, x6, rfl, J⟩ := q
            have hlr : (rs0.map V.ref).length = arcs.length := by rw [List.length_map, lenA]
            have hdone : ∀ x ∈ arcs, x.1 ∈ rs → x.2 ∈ ks ++ ms := fun x hx => J.done x (by rw [hlr, List.take_length]; exact hx)
            have hl1 : (ks ++ ms).length ≤ n.toNat := len_ok W J.nd fun k hk => (J.rch k hk).range W hpr
            refine ⟨_, rfl, _, ?_, mm, ks ++ ms, ms, _, _, _, _, rfl, ⟨J.e, J.hd0, J.hm0, J.hd, J.hm, J.nd, List.mem_append_left _ J.pm, fun k hk => List.mem_append_right _ hk, J.rch, fun x hx h1 h2 => ?_⟩, rfl⟩
            · rw [List.length_append] at hl1 ⊢
              rw [if_neg hrs]
              cases ms with
              | nil => rw [if_pos rfl]; simp
              | cons z zs => rw [if_neg (by simp), List.length_cons] at *; omega
            · rcases List.mem_append.mp h1 with h1 | h1
              · by_cases h3 : x.1 ∈ rs
                · exact hdone x hx h3
                · exact List.mem_append_left _ (J.out x hx h1 h3)
              · exact absurd h1 h2
end
end Bel
set_option Elab.async false
set_option linter.all false
set_option maxRecDepth 100000
set_option maxHeartbeats 4000000
namespace Bel
open PySem PySem.Spec L2 GxR GxA BM

theorem take_filter {α : Type} {l : List α} {i : Nat} {x : α} (h : l[i]? = some x) (f : α → Bool) : (l.take (i + 1)).filter f = (l.take i).filter f ++ (if f x = true then [x] else []) := by
  rw [List.take_add_one, h, List.filter_append]
  cases e : f x with
  | true => simp [e]
  | false => simp [e]
theorem get_map {α β : Type} {f : α → β} {l : List α} {i : Nat} {y : β} (h : (l.map f)[i]? = some y) : ∃ x, l[i]? = some x ∧ y = f x := by
  rw [List.getElem?_map] at h
  cases q : l[i]? with
  | none => rw [q] at h; cases h
  | some r => rw [q] at h; exact ⟨r, rfl, (Option.some.inj h).symm⟩
theorem filt_len {n : Int} (f : Int → Bool) (i : Nat) (h : n ≤ 5) : (ivs (((people n).take i).filter f)).length < sizeLine := by
  rw [List.length_map, sizeLine_eq]
  have h1 := List.length_filter_le f ((people n).take i)
  have h2 := List.length_take_le i (people n)
  have h3 : ((people n).take i).length ≤ (people n).length := by rw [List.length_take]; omega
  rw [len_people] at h3
  omega
/-! ### the rules, K named (in a comprehension's block the reading may not name the block) -/
section
variable {X : Cx}
theorem kIxT (K : PySem.W.Frag) (h : X.K = K) : IxR X (rIxT K) := h ▸ ix_tup
theorem kIxL (K : PySem.W.Frag) (h : X.K = K) : IxR X (rIxL K) := h ▸ ix_list
theorem kIn (K : PySem.W.Frag) (h : X.K = K) : OpR X (compareOp .In) (rIn K false) := h ▸ op_in_seq
theorem kNotIn (K : PySem.W.Frag) (h : X.K = K) : OpR X (compareOp .NotIn) (rIn K true) := h ▸ op_notIn_seq
theorem kLen (K : PySem.W.Frag) (h : X.K = K) : CallR X (.builtin "len") (fun xs H Q => ∃ p ys, xs = [.ref p] ∧ (SqL K H p ys ∨ SqT K H p ys) ∧ Q (.int ys.length) H) := h ▸ call_len_seq
theorem kIsi (K : PySem.W.Frag) (h : X.K = K) : CallR X (.builtin "isinstance") (rIsi K) := h ▸ call_isi
theorem kTupOf (K : PySem.W.Frag) (h : X.K = K) : CallR X (.type "tuple") (fun xs H Q => ∃ p ys, xs = [.ref p] ∧ ((SqL K H p ys ∧ ∀ l, H l = none → Q (.ref l) (upd H l (.tup ys))) ∨ (SqT K H p ys ∧ Q (.ref p) H))) := h ▸ call_tuple_of
theorem kCat (K : PySem.W.Frag) (h : X.K = K) : OpR X (binaryOp .Add) (rCatA K) := h ▸ op_catA
end

abbrev TupAt (H : Hp) (r : Addr) (ns : List Int) : Prop := H r = some (.tup (ivs ns))

def spWinOf : Sp := fun vs H Q _ => ∃ (a : Addr) (n : Int) (arcs : List Arc), vs = [.ref a] ∧ WebAt H a n arcs ∧ Web n arcs ∧ ∀ q H', Ext H H' → H' q = some (.lst (ivs (winL n arcs))) → Q (.ref q) H'
def spWinners (TT : List Addr) : Sp := fun vs H Q _ => ∃ (a : Addr) (n : Int) (arcs : List Arc), vs = [.ref a] ∧ WebAt H a n arcs ∧ Web n arcs ∧ Tabs TT H ∧ ∀ q H', Ext H H' → TupAt H' q (winL n arcs) → Q (.ref q) H'
def spSources : Sp := fun vs H Q _ => ∃ (a : Addr) (n : Int) (arcs : List Arc) (p : Int), vs = [.ref a, .int p] ∧ WebAt H a n arcs ∧ Web n arcs ∧ ∀ q H', Ext H H' → H' q = some (.lst (ivs (src n arcs p))) → Q (.ref q) H'
def spSprings (TT : List Addr) : Sp := fun vs H Q _ => ∃ (a : Addr) (n : Int) (arcs : List Arc), vs = [.ref a] ∧ WebAt H a n arcs ∧ Web n arcs ∧ Tabs TT H ∧
  ∀ q H' rs L, Ext H H' → H' q = some (.lst (rs.map V.ref)) → Paired (TupAt H') rs L → L.Perm (sprL n arcs) → Q (.ref q) H'
def spLeast (TT : List Addr) : Sp := fun vs H Q _ => ∃ (a : Addr) (n : Int) (arcs : List Arc), vs = [.ref a] ∧ WebAt H a n arcs ∧ Web n arcs ∧ Tabs TT H ∧ ∀ H', Ext H H' → Q (.int ((sprL n arcs).length : Nat)) H'
def spParted (TT : List Addr) : Sp := fun vs H Q _ => ∃ (a : Addr) (n : Int) (arcs : List Arc), vs = [.ref a] ∧ WebAt H a n arcs ∧ Web n arcs ∧ Tabs TT H ∧
  (∀ H', Ext H H' → (sprL n arcs).length = 1 → Q .non H') ∧
  (∀ H' q r s A B, Ext H H' → (sprL n arcs).length ≠ 1 → H' q = some (.tup [.ref r, .ref s]) → TupAt H' r A → TupAt H' s B → A ∈ sprL n arcs → B ∈ sprL n arcs → A ≠ B → Q (.ref q) H')

section
variable {P : Program} {w : World} {K : PySem.W.Frag} {mg : Str → Option Value} {base : Heap}
theorem scWinOf : FnScope ["web", "one"] ["web"] (defScope sWinOf) := ⟨rfl, rfl, rfl, by decide +kernel, rfl, by decide +kernel, by decide +kernel⟩
theorem ok_winOf {f : Addr} {fd : FuncData} (F : Fun K "winners_of" "winners_of" sWinOf f fd) (T : Txt K mg)
    {f1 : Addr} {fd1 : FuncData} (G1 : FnOk P w K mg base CX0 1 f1 fd1 ["web"] spPeople) (c1 : Cal K mg "people" ["web"] f1 fd1)
    {f2 : Addr} {fd2 : FuncData} (G2 : FnOk P w K mg base CX0 1 f2 fd2 ["web", "begin"] spHearers) (c2 : Cal K mg "hearers" ["web", "begin"] f2 fd2) :
    FnOk P w K mg base CX0 2 f fd ["web"] spWinOf := by
  refine F.ok scWinOf (fun vs H Q E h => ?_) (fun cdv A outer s H vs Q E hr h => ?_)
  · obtain ⟨a, n, arcs, rfl, _⟩ := h
    rfl
  · obtain ⟨a, n, arcs, rfl, hw, W, k⟩ := h
    refine ⟨_, pss_one (ps_ret (pe_lc (own := [("one", 1)]) (g := gName 1) rfl scWinOf.nd (pi_tup (pe_call G1 hr rfl c1.m c1.k c1.b .nil pass0 (pa_cons (pv 0) pa_nil))) (blkOk_by (own := [("one", 1)]) (N := ["web", "one"]) (sc := defScope sWinOf) (by decide +kernel))
      (fun _ _ _ _ _ => pg_name (i := 1) scWinOf.nd rfl (Or.inl rfl))
      (fun _ _ _ _ _ => pts_one (pt_cmpR op_eq (pe_callB call_lenD (by rfl) T.len PySem.boot_len (pa_cons (pe_call G2 hr rfl c2.m c2.k c2.b .nil pass0 (pa_cons (pv 0) (pa_cons (pe_lst (pa_cons (pv 1) pa_nil)) pa_nil))) pa_nil)) (pe_ix (kIxT K rfl) (pv 0) pe_int (fun _ _ => rfl)) (nomark _)))
      (fun _ _ _ _ _ => pv 1))), ?_⟩
    refine ⟨_, rfl, a, n, arcs, rfl, hw, W, fun q H1 e1 hq => ?_⟩
    refine ⟨q, rfl, ⟨_, SqT.of hq⟩, fun D hD => ?_⟩
    refine lc_tup (xs := ivs (people n)) (fun i H' => Ext H1 H' ∧ H' D = some (.lst (ivs (((people n).take i).filter (winB n arcs))))) ⟨Ext.new hD, upd_same⟩ (fun i H' _ z => SqT.of (z.1.tup hq)) ?_ ?_
    · intro i x H' hx z
      obtain ⟨y, hy, rfl⟩ := get_map hx
      have hyr := mem_people.mp (List.mem_of_getElem? hy)
      obtain ⟨e, z⟩ := z
      refine ⟨rfl, ?_⟩
      refine ⟨_, rfl, _, rfl, by show 1 ≤ sizeLine; decide, fun l hl => ?_⟩
      refine ⟨a, l, n, arcs, y, rfl, (hw.ext ((e1.trans e).trans (Ext.new hl))), W, upd_same, hyr, fun d H2 e2 hh => ?_⟩
      obtain ⟨ks, hk, nd, mem⟩ := hh
      have e3 : Ext H' H2 := (Ext.new hl).trans e2
      obtain ⟨wb, rs, hwa, _, _⟩ := (hw.ext ((e1.trans e).trans e3)).ex
      have hlen : (kd ks).length = (hear n arcs y).length := by rw [List.length_map]; exact len_eq_of_mem nd hear_nodup mem
      refine ⟨d, _, rfl, hk, _, rfl, a, _, _, _, rfl, rfl, SqT.of hwa, rfl, rfl, _, rfl, ?_⟩
      rw [dec_int, hlen]
      have hb : (((hear n arcs y).length : Int) == n) = winB n arcs y := by
        unfold winB
        rw [Bool.eq_iff_iff]
        simp
      rw [hb, take_filter hy]
      cases hwb : winB n arcs y with
      | true =>
        refine iteT ?_
        refine ⟨_, rfl, _, e3.lst z, filt_len _ i W.hi, (e.trans e3).mut hD, ?_⟩
        rw [upd_same, if_pos rfl]
        show some (HO.lst _) = some (HO.lst (ivs _))
        rw [show ivs (((people n).take i).filter (winB n arcs) ++ [y]) = _ from List.map_append ..]
        rfl
      | false =>
        refine iteF ⟨e.trans e3, ?_⟩
        rw [if_neg Bool.false_ne_true, List.append_nil]
        exact e3.lst z
    · rintro H' ⟨e, z⟩
      refine k D H' (e1.trans e) ?_
      rw [List.length_map, List.take_length] at z
      exact z
end
end Bel
set_option Elab.async false
set_option linter.all false
set_option maxRecDepth 100000
set_option maxHeartbeats 4000000
namespace Bel
open PySem PySem.Spec L2 GxR GxA BM

section
variable {P : Program} {w : World} {K : PySem.W.Frag} {mg : Str → Option Value} {base : Heap}
/-! ### winners -/
theorem scWinners : FnScope ["web"] ["web"] (defScope sWinners) := ⟨rfl, rfl, rfl, by decide +kernel, rfl, by decide +kernel, by decide +kernel⟩
theorem ok_winners {TT : List Addr} {f : Addr} {fd : FuncData} (F : Fun K "winners" "winners" sWinners f fd) (T : Txt K mg)
    {f1 : Addr} {fd1 : FuncData} (G1 : FnOk P w K mg base CX0 4 f1 fd1 ["web"] (spNeed TT)) (c1 : Cal K mg "need_web" ["web"] f1 fd1)
    {f2 : Addr} {fd2 : FuncData} (G2 : FnOk P w K mg base CX0 2 f2 fd2 ["web"] spWinOf) (c2 : Cal K mg "winners_of" ["web"] f2 fd2) :
    FnOk P w K mg base CX0 5 f fd ["web"] (spWinners TT) := by
  refine F.ok scWinners (fun vs H Q E h => ?_) (fun cdv A outer s H vs Q E hr h => ?_)
  · obtain ⟨a, n, arcs, rfl, _⟩ := h
    rfl
  · obtain ⟨a, n, arcs, rfl, hw, W, hT, k⟩ := h
    refine ⟨_, pss_cons (ps_expr (pe_call G1 hr rfl c1.m c1.k c1.b .nil pass0 (pa_cons (pv 0) pa_nil)))
      (pss_one (ps_ret (pe_callTy call_tuple_of (by rfl) T.tuple (by decide +kernel) (pa_cons (pe_call G2 (hr.mono (by decide)) rfl c2.m c2.k c2.b .nil pass0 (pa_cons (pv 0) pa_nil)) pa_nil)))), ?_⟩
    refine ⟨_, rfl, a, n, arcs, rfl, hw, W, hT, fun H1 e1 => ?_⟩
    refine ⟨_, rfl, a, n, arcs, rfl, hw.ext e1, W, fun q H2 e2 hq => ?_⟩
    refine ⟨q, _, rfl, .inl ⟨SqL.of hq, fun l hl => ?_⟩⟩
    exact k l _ ((e1.trans e2).trans (Ext.new hl)) upd_same

/-! ### sources -/
theorem scSources : FnScope ["web", "person", "one"] ["web", "person"] (defScope sSources) := ⟨rfl, rfl, rfl, by decide +kernel, rfl, by decide +kernel, by decide +kernel⟩
theorem ok_sources {f : Addr} {fd : FuncData} (F : Fun K "sources" "sources" sSources f fd) (T : Txt K mg)
    {f1 : Addr} {fd1 : FuncData} (G1 : FnOk P w K mg base CX0 1 f1 fd1 ["web"] spPeople) (c1 : Cal K mg "people" ["web"] f1 fd1)
    {f2 : Addr} {fd2 : FuncData} (G2 : FnOk P w K mg base CX0 1 f2 fd2 ["web", "begin"] spHearers) (c2 : Cal K mg "hearers" ["web", "begin"] f2 fd2) :
    FnOk P w K mg base CX0 2 f fd ["web", "person"] spSources := by
  refine F.ok scSources (fun vs H Q E h => ?_) (fun cdv A outer s H vs Q E hr h => ?_)
  · obtain ⟨a, n, arcs, p, rfl, _⟩ := h
    rfl
  · obtain ⟨a, n, arcs, p, rfl, hw, W, k⟩ := h
    refine ⟨_, pss_one (ps_ret (pe_lc (own := [("one", 2)]) (g := gName 2) rfl scSources.nd (pi_tup (pe_call G1 hr rfl c1.m c1.k c1.b .nil pass0 (pa_cons (pv 0) pa_nil))) (blkOk_by (own := [("one", 2)]) (N := ["web", "person", "one"]) (sc := defScope sSources) (by decide +kernel))
      (fun _ _ _ _ _ => pg_name (i := 2) scSources.nd rfl (Or.inl rfl))
      (fun _ _ _ _ _ => pts_one (pt_cmp (pc_din (hu_of hr) (pv 1) (pe_call G2 hr rfl c2.m c2.k c2.b .nil pass0 (pa_cons (pv 0) (pa_cons (pe_lst (pa_cons (pv 2) pa_nil)) pa_nil))))))
      (fun _ _ _ _ _ => pv 2))), ?_⟩
    refine ⟨_, rfl, a, n, arcs, rfl, hw, W, fun q H1 e1 hq => ?_⟩
    refine ⟨q, rfl, ⟨_, SqT.of hq⟩, fun D hD => ?_⟩
    refine lc_tup (xs := ivs (people n)) (fun i H' => Ext H1 H' ∧ H' D = some (.lst (ivs (((people n).take i).filter fun q => decide (p ∈ hear n arcs q))))) ⟨Ext.new hD, upd_same⟩ (fun i H' _ z => SqT.of (z.1.tup hq)) ?_ ?_
    · intro i x H' hx z
      obtain ⟨y, hy, rfl⟩ := get_map hx
      have hyr := mem_people.mp (List.mem_of_getElem? hy)
      obtain ⟨e, z⟩ := z
      refine ⟨rfl, ?_⟩
      refine ⟨_, rfl, _, rfl, _, rfl, by show 1 ≤ sizeLine; decide, fun l hl => ?_⟩
      refine ⟨a, l, n, arcs, y, rfl, (hw.ext ((e1.trans e).trans (Ext.new hl))), W, upd_same, hyr, fun d H2 e2 hh => ?_⟩
      obtain ⟨ks, hk, nd, mem⟩ := hh
      have e3 : Ext H' H2 := (Ext.new hl).trans e2
      refine ⟨d, _, rfl, DGet.k (k := Sum.inl p) hk, _, rfl, ?_⟩
      rw [kd_val, take_filter hy]
      by_cases hm : p ∈ hear n arcs y
      · rw [decide_eq_true ((mem p).mpr hm), decide_eq_true hm]
        refine iteT ?_
        refine ⟨_, rfl, _, e3.lst z, filt_len _ i W.hi, (e.trans e3).mut hD, ?_⟩
        rw [upd_same, if_pos rfl]
        show some (HO.lst _) = some (HO.lst (ivs _))
        rw [show ivs (((people n).take i).filter (fun q => decide (p ∈ hear n arcs q)) ++ [y]) = _ from List.map_append ..]
        rfl
      · rw [decide_eq_false (fun h => hm ((mem p).mp h)), decide_eq_false hm]
        refine iteF ⟨e.trans e3, ?_⟩
        rw [if_neg Bool.false_ne_true, List.append_nil]
        exact e3.lst z
    · rintro H' ⟨e, z⟩
      refine k D H' (e1.trans e) ?_
      rw [List.length_map, List.take_length] at z
      exact z

/-! ### springs_of -/
abbrev kt (L : List (List Int)) : List (List Key × V) := L.map fun S => (S.map Sum.inl, V.bl true)
theorem map_inl_inj : ∀ {S T : List Int}, (S.map Sum.inl : List Key) = T.map Sum.inl → S = T
  | [], [], _ => rfl
  | [], _ :: _, e => by simp at e
  | _ :: _, [], e => by simp at e
  | x :: xs, y :: ys, e => by
    rw [List.map_cons, List.map_cons] at e
    injection e with e1 e2
    injection e1 with e1
    rw [e1, map_inl_inj e2]
theorem kt_val (L : List (List Int)) (S : List Int) : (valV (kt L) (S.map Sum.inl)).isSome = decide (S ∈ L) := by
  rw [← valV_any, Bool.eq_iff_iff]
  simp only [List.any_map, List.any_eq_true, Function.comp, decide_eq_true_eq]
  exact ⟨fun ⟨y, h, e⟩ => map_inl_inj e ▸ h, fun h => ⟨S, h, rfl⟩⟩
theorem kt_put (L : List (List Int)) (S : List Int) : putK (kt L) (S.map Sum.inl) (.bl true) = kt (addK L S) := by
  unfold putK addK
  rw [valV_any, kt_val]
  by_cases h : S ∈ L
  · rw [decide_eq_true h, if_pos rfl, if_pos h]
    show List.map _ (List.map _ L) = List.map _ L
    rw [List.map_map]
    refine List.map_congr_left fun T _ => ?_
    show (if _ = _ then _ else _) = _
    split <;> rfl
  · rw [decide_eq_false h, if_neg Bool.false_ne_true, if_neg h]
    show _ = List.map _ (L ++ [S])
    rw [List.map_append]
    rfl
theorem kV_ints (S : List Int) : (S.map (Sum.inl : Int → Key)).map kV = ivs S := by
  rw [List.map_map]
  rfl
theorem addK_len (L : List (List Int)) (S : List Int) : (addK L S).length ≤ L.length + 1 := by
  unfold addK
  split <;> simp
theorem spr_len (n : Int) (arcs : List Arc) : ∀ (l : List Int) (ks : List (List Int)), (l.foldl (sprStep n arcs) ks).length ≤ ks.length + l.length
  | [], ks => by simp
  | p :: l, ks => by
    have h1 := spr_len n arcs l (sprStep n arcs ks p)
    have h2 : (sprStep n arcs ks p).length ≤ ks.length + 1 := by
      unfold sprStep
      split
      · exact addK_len _ _
      · omega
    rw [List.foldl_cons, List.length_cons]
    omega
theorem scSprings : FnScope ["web", "found", "some", "person"] ["web"] (defScope sSprings) := ⟨rfl, rfl, rfl, by decide +kernel, rfl, by decide +kernel, by decide +kernel⟩
theorem ndSprings : ((["web", "found", "some", "person"] : List Str) ++ (["one"] : List Str)).Nodup := by decide +kernel
theorem ok_springs {TT : List Addr} {f c PT : Addr} {fd : FuncData} (F : Fun K "springs_of" "springs_of" sSprings f fd) (hc : fd.code = .ref c) (TB : TabB base mg c PT) (hPT : PT ∈ TT) (T : Txt K mg)
    {f1 : Addr} {fd1 : FuncData} (G1 : FnOk P w K mg base CX0 1 f1 fd1 ["web"] spPeople) (c1 : Cal K mg "people" ["web"] f1 fd1)
    {f2 : Addr} {fd2 : FuncData} (G2 : FnOk P w K mg base CX0 2 f2 fd2 ["web", "person"] spSources) (c2 : Cal K mg "sources" ["web", "person"] f2 fd2) :
    FnOk P w K mg base CX0 4 f fd ["web"] (spSprings TT) := by
  refine okc F hc scSprings (fun vs H Q E h => ?_) (fun A outer s H vs Q E hr h => ?_)
  · obtain ⟨a, n, arcs, rfl, _⟩ := h
    rfl
  · obtain ⟨a, n, arcs, rfl, hw, W, hT, k⟩ := h
    refine ⟨_, pss_cons (ps_set (i := 1) scSprings.nd rfl (Or.inl rfl) pe_dnewT)
      (pss_cons (ps_for PassesOwn.never rfl (pi_tup (pe_call G1 (hr.mono (by decide)) rfl c1.m c1.k c1.b .nil pass0 (pa_cons (pv 0) pa_nil))) (pg_name (i := 3) scSprings.nd rfl (Or.inr rfl))
        (pss_cons (ps_set (i := 2) scSprings.nd rfl (Or.inl rfl) (pe_call G2 (hr.mono (by decide)) rfl c2.m c2.k c2.b .nil pass0 (pa_cons (pv 0) (pa_cons (pv 3) pa_nil))))
        (pss_one (ps_if (pt_val (pe_all (own := ["one"]) hr (by rfl) T.all TB rfl (genO_by (N := ["web", "found", "some", "person"]) (sc := defScope sSprings) (by decide +kernel)) (pi_list (pv 2)) (fun _ _ _ _ _ => pg_name (i := 4) ndSprings rfl (Or.inl rfl))
            (fun _ _ _ _ _ => pe_cmpR (kIn K rfl) (pv 3) (pe_call G2 (room_gA hr) rfl c2.m c2.k c2.b .nil pass0 (pa_cons (pv 0) (pa_cons (pv 4) pa_nil))) (by rfl))))
          (pss_one (ps_dput (hu_of hr) (pv 1) (pe_callTy call_tuple_of (by rfl) T.tuple (by decide +kernel) (pa_cons (pv 2) pa_nil)) pe_bl rfl)) pss_nil))))
      (pss_one (ps_ret (pe_callB (call_sortedDT rfl (hu65 hr)) (by rfl) T.sorted (by decide +kernel) (pa_cons (pv 1) pa_nil))))), ?_⟩
    refine fun d hd => ?_
    have e0 : Ext H (upd H d (.dT [])) := Ext.new hd
    refine ⟨_, rfl, a, n, arcs, rfl, hw.ext e0, W, fun q H1 e1 hq => ?_⟩
    refine ⟨q, rfl, ⟨_, SqT.of hq⟩, ?_⟩
    refine for_tup (xs := ivs (people n)) (fun i σ H' => ∃ x2 x3, σ = [some (.ref a), some (.ref d), x2, x3] ∧ Ext H H' ∧ TupAt H' q (people n) ∧ H' d = some (.dT (kt (((people n).take i).foldl (sprStep n arcs) [])))) ⟨_, _, rfl, e0.trans e1, hq, e1.dT upd_same⟩ ?_ ?_ ?_
    · rintro i σ H' _ ⟨x2, x3, rfl, e, z, _⟩
      exact SqT.of z
    · rintro i x σ H' hx ⟨x2, x3, rfl, e, z, zd⟩
      obtain ⟨y, hy, rfl⟩ := get_map hx
      have hyr := mem_people.mp (List.mem_of_getElem? hy)
      refine ⟨_, rfl, _, rfl, a, n, arcs, y, rfl, hw.ext e, W, fun r H2 e2 hr2 => ?_⟩
      have e3 := e.trans e2
      refine ⟨_, rfl, r, rfl, ⟨_, SqL.of hr2⟩, (e3.tabs hT) PT hPT, fun H3 hb => ?_⟩
      have e4 : Ext H2 H3 := ext_tabbed ((e3.tabs hT) PT hPT) hb
      have hall : isSpr n arcs y = true ↔ ∀ x ∈ src n arcs y, y ∈ src n arcs x := by
        unfold isSpr
        simp only [List.all_eq_true, decide_eq_true_eq]
      have tk1 : ((people n).take (i + 1)).foldl (sprStep n arcs) [] = sprStep n arcs (((people n).take i).foldl (sprStep n arcs) []) y := by
        rw [List.take_add_one, hy, List.foldl_append]
        rfl
      have ll : (((people n).take i).foldl (sprStep n arcs) []).length ≤ 5 := by
        have h1 := spr_len n arcs ((people n).take i) []
        have h2 : ((people n).take i).length ≤ (people n).length := by rw [List.length_take]; omega
        rw [len_people] at h2
        have := W.hi
        simp only [List.length_nil] at h1
        omega
      refine gen_lst (xs := ivs (src n arcs y)) (fun j H' => Ext H3 H' ∧ ∀ x ∈ (src n arcs y).take j, y ∈ src n arcs x) ⟨Ext.refl _, by simp⟩ (fun j H' _ z => SqL.of ((e4.trans z.1).lst hr2)) ?_ ?_
      · rintro j x H4 hx ⟨e5, zt⟩
        obtain ⟨x, hx9, rfl⟩ := get_map hx
        have e6 := e3.trans (e4.trans e5)
        refine ⟨keep_set rfl, ?_⟩
        refine ⟨_, rfl, _, rfl, _, rfl, a, n, arcs, x, rfl, hw.ext e6, W, fun r2 H5 e7 hr5 => ?_⟩
        refine ⟨r2, _, rfl, .inl (SqL.of hr5), rfl, flat_ints _, _, rfl, ?_⟩
        rw [if_neg Bool.false_ne_true, inV_ints]
        have e8 := e6.trans e7
        by_cases hm : y ∈ src n arcs x
        · rw [decide_eq_true hm]
          refine iteT ⟨e5.trans e7, fun v hv => ?_⟩
          rw [List.take_add_one, hx9] at hv
          rcases List.mem_append.mp hv with hv | hv
          · exact zt v hv
          · rw [List.mem_singleton.mp hv]
            exact hm
        · rw [decide_eq_false hm]
          refine iteF ?_
          refine ⟨_, rfl, ?_⟩
          refine iteF ?_
          refine ⟨_, _, rfl, e8, (e2.trans (e4.trans (e5.trans e7))).tup z, ?_⟩
          rw [tk1]
          have : isSpr n arcs y = false := by
            rw [Bool.eq_false_iff]
            exact fun h => hm (hall.mp h x (List.mem_of_getElem? hx9))
          unfold sprStep
          rw [this, if_neg Bool.false_ne_true]
          exact (e2.trans (e4.trans (e5.trans e7))).dT zd
      · rintro H4 ⟨e5, zt⟩
        have e6 := e2.trans (e4.trans e5)
        rw [List.length_map, List.take_length] at zt
        refine ⟨_, rfl, ?_⟩
        refine iteT ?_
        refine ⟨_, rfl, _, rfl, r, _, rfl, .inl ⟨SqL.of ((e4.trans e5).lst hr2), fun l hl => ?_⟩⟩
        have hd4 := e6.dT zd
        have hld : l ≠ d := (ne_of_none hd4 hl).symm
        refine ⟨d, _, rfl, DPut.t (k := (src n arcs y).map Sum.inl) (kvs := kt (((people n).take i).foldl (sprStep n arcs) [])) ?_ ?_ ?_, ?_⟩
        · rw [upd_ne hld.symm]
          exact hd4
        · rw [kV_ints]
          exact upd_same
        · rw [List.length_map, sizeLine_eq]
          omega
        · refine ⟨_, _, rfl, ((e.trans e6).trans (Ext.new hl)).mut hd, ?_, ?_⟩
          · have hq4 := e6.tup z
            have hqd : q ≠ d := ne_of hq4 hd4 (by intro z; cases z)
            have hql : q ≠ l := ne_of_none hq4 hl
            show upd _ d _ q = _
            rw [upd_ne hqd, upd_ne hql]
            exact hq4
          · rw [upd_same, kt_put, tk1]
            unfold sprStep
            rw [hall.mpr zt, if_pos rfl]
    · rintro σ H' ⟨x2, x3, rfl, e, z, zd⟩
      rw [List.length_map, List.take_length] at zd
      refine ⟨_, rfl, d, _, sprL n arcs, rfl, .inl zd, ?_, ?_, ?_⟩
      · show List.map _ (List.map _ _) = _
        rw [List.map_map]
        rfl
      · intro ns hns e9
        obtain ⟨x, hx⟩ := spr_ne W hns
        rw [e9] at hx
        cases hx
      · intro bs L p perm pp hp
        exact k p _ bs L (e.trans (Ext.new hp)) upd_same (Paired.mapP pp fun b ns hb => (Ext.new hp).tup hb) perm

/-! ### least_left, parted -/
theorem scLeast : FnScope ["web"] ["web"] (defScope sLeast) := ⟨rfl, rfl, rfl, by decide +kernel, rfl, by decide +kernel, by decide +kernel⟩
theorem paired_len {α β : Type} {F : α → β → Prop} {l : List α} {m : List β} (h : Paired F l m) : l.length = m.length := Paired.length h
theorem ok_least {TT : List Addr} {f : Addr} {fd : FuncData} (F : Fun K "least_left" "least_left" sLeast f fd) (T : Txt K mg)
    {f1 : Addr} {fd1 : FuncData} (G1 : FnOk P w K mg base CX0 4 f1 fd1 ["web"] (spNeed TT)) (c1 : Cal K mg "need_web" ["web"] f1 fd1)
    {f2 : Addr} {fd2 : FuncData} (G2 : FnOk P w K mg base CX0 4 f2 fd2 ["web"] (spSprings TT)) (c2 : Cal K mg "springs_of" ["web"] f2 fd2) :
    FnOk P w K mg base CX0 5 f fd ["web"] (spLeast TT) := by
  refine F.ok scLeast (fun vs H Q E h => ?_) (fun cdv A outer s H vs Q E hr h => ?_)
  · obtain ⟨a, n, arcs, rfl, _⟩ := h
    rfl
  · obtain ⟨a, n, arcs, rfl, hw, W, hT, k⟩ := h
    refine ⟨_, pss_cons (ps_expr (pe_call G1 hr rfl c1.m c1.k c1.b .nil pass0 (pa_cons (pv 0) pa_nil)))
      (pss_one (ps_ret (pe_callB call_len_seq (by rfl) T.len PySem.boot_len (pa_cons (pe_call G2 hr rfl c2.m c2.k c2.b .nil pass0 (pa_cons (pv 0) pa_nil)) pa_nil)))), ?_⟩
    refine ⟨_, rfl, a, n, arcs, rfl, hw, W, hT, fun H1 e1 => ?_⟩
    refine ⟨_, rfl, a, n, arcs, rfl, hw.ext e1, W, e1.tabs hT, fun q H2 rs L e2 hq pp perm => ?_⟩
    refine ⟨q, _, rfl, .inl (SqL.of hq), ?_⟩
    have : (rs.map V.ref).length = (sprL n arcs).length := by rw [List.length_map, paired_len pp, perm.length_eq]
    rw [this]
    exact k H2 (e1.trans e2)
theorem scParted : FnScope ["web", "found"] ["web"] (defScope sParted) := ⟨rfl, rfl, rfl, by decide +kernel, rfl, by decide +kernel, by decide +kernel⟩
theorem ok_parted {TT : List Addr} {f : Addr} {fd : FuncData} (F : Fun K "parted" "parted" sParted f fd) (T : Txt K mg)
    {f1 : Addr} {fd1 : FuncData} (G1 : FnOk P w K mg base CX0 4 f1 fd1 ["web"] (spNeed TT)) (c1 : Cal K mg "need_web" ["web"] f1 fd1)
    {f2 : Addr} {fd2 : FuncData} (G2 : FnOk P w K mg base CX0 4 f2 fd2 ["web"] (spSprings TT)) (c2 : Cal K mg "springs_of" ["web"] f2 fd2) :
    FnOk P w K mg base CX0 5 f fd ["web"] (spParted TT) := by
  refine F.ok scParted (fun vs H Q E h => ?_) (fun cdv A outer s H vs Q E hr h => ?_)
  · obtain ⟨a, n, arcs, rfl, _⟩ := h
    rfl
  · obtain ⟨a, n, arcs, rfl, hw, W, hT, k1, k2⟩ := h
    refine ⟨_, pss_cons (ps_expr (pe_call G1 hr rfl c1.m c1.k c1.b .nil pass0 (pa_cons (pv 0) pa_nil)))
      (pss_cons (ps_set (i := 1) scParted.nd rfl (Or.inl rfl) (pe_call G2 hr rfl c2.m c2.k c2.b .nil pass0 (pa_cons (pv 0) pa_nil)))
      (pss_one (ps_ret (pe_ifExp (pt_cmpR op_gt (pe_callB call_len_seq (by rfl) T.len PySem.boot_len (pa_cons (pv 1) pa_nil)) pe_int (nomark _))
        (pe_tup (pa_cons (pe_ix ix_list (pv 1) pe_int (fun _ _ => rfl)) (pa_cons (pe_ix ix_list (pv 1) pe_int (fun _ _ => rfl)) pa_nil))) pe_non)))), ?_⟩
    refine ⟨_, rfl, a, n, arcs, rfl, hw, W, hT, fun H1 e1 => ?_⟩
    refine ⟨_, rfl, a, n, arcs, rfl, hw.ext e1, W, e1.tabs hT, fun q H2 rs L e2 hq pp perm => ?_⟩
    have hl : rs.length = L.length := paired_len pp
    have hl2 : L.length = (sprL n arcs).length := perm.length_eq
    have hpos := spr_pos W
    refine ⟨_, rfl, q, _, rfl, .inl (SqL.of hq), _, _, rfl, rfl, _, rfl, ?_⟩
    refine ite2 (fun h1 => ?_) (fun h1 => ?_)
    · have h2 : 1 < L.length := by
        have := of_decide_eq_true h1
        rw [List.length_map] at this
        omega
      match rs, L, pp, hl, h2, hq, perm with
      | r :: s :: rs, A :: B :: L, .cons hA (.cons hB _), _, _, hq, perm =>
        have nd : (A :: B :: L).Nodup := perm.nodup_iff.mpr nodup_spr
        refine ⟨_, rfl, q, _, _, _, rfl, rfl, SqL.of hq, atI_nat (j := 0) (v := V.ref r) rfl, _, rfl, q, _, _, _, rfl, rfl, SqL.of hq, atI_nat (j := 1) (v := V.ref s) rfl, by show 2 ≤ sizeLine; decide, fun p hp => ?_⟩
        exact k2 _ p r s A B ((e1.trans e2).trans (Ext.new hp)) (by rw [← hl2]; simp) upd_same ((Ext.new hp).tup hA) ((Ext.new hp).tup hB) (perm.mem_iff.mp (by simp)) (perm.mem_iff.mp (by simp))
          (fun e => by rw [e] at nd; simp at nd)
    · refine k1 H2 (e1.trans e2) ?_
      rw [decide_eq_true_eq, List.length_map] at h1
      omega
end
end Bel
set_option Elab.async false
set_option linter.all false
set_option maxRecDepth 100000
set_option maxHeartbeats 4000000
namespace Bel
open PySem PySem.Spec L2 GxR GxA BM

/-! ### shapes of values -/
/-- a part of a pair: a tuple of ints, or a list -/
inductive PartAt (H : Hp) : V → Option (List Int) → Prop where
  | tup {r : Addr} {S : List Int} (h : TupAt H r S) : PartAt H (.ref r) (some S)
  | lst {r : Addr} {ys : List V} (h : H r = some (.lst ys)) : PartAt H (.ref r) none
inductive Shape where
  | non
  | oth
  | tup (gs : List (Option (List Int)))
inductive ValAt (H : Hp) : V → Shape → Prop where
  | non : ValAt H .non .non
  | int (i : Int) : ValAt H (.int i) .oth
  | lst {r : Addr} {ys : List V} (h : H r = some (.lst ys)) : ValAt H (.ref r) .oth
  | dct {r : Addr} {ys : List (Key × V)} (h : H r = some (.dK ys)) : ValAt H (.ref r) .oth
  | tup {r : Addr} {xs : List V} {gs : List (Option (List Int))} (h : H r = some (.tup xs)) (p : Paired (PartAt H) xs gs) : ValAt H (.ref r) (.tup gs)
theorem PartAt.ext {H H' : Hp} {v : V} {g : Option (List Int)} (h : PartAt H v g) (e : Ext H H') : PartAt H' v g := by
  cases h with
  | tup h => exact .tup (e.tup h)
  | lst h => exact .lst (e.lst h)
theorem ValAt.ext {H H' : Hp} {v : V} {g : Shape} (h : ValAt H v g) (e : Ext H H') : ValAt H' v g := by
  cases h with
  | non => exact .non
  | int i => exact .int i
  | lst h => exact .lst (e.lst h)
  | dct h => exact .dct (e.dK h)
  | tup h p => exact .tup (e.tup h) (Paired.mapP p fun x y z => z.ext e)
def isTup : Shape → Bool
  | .tup _ => true
  | _ => false
section
variable {K : PySem.W.Frag}
theorem part_ty {H : Hp} {v : V} {g : Option (List Int)} (h : PartAt H v g) : ∃ t, TyX K H v t ∧ PySem.W.kitOne K t (.type "tuple") = some g.isSome := by
  cases h with
  | tup h => exact ⟨_, .base (.tup h), kit_ty (r := true) (by decide +kernel)⟩
  | lst h => exact ⟨_, .base (.lst h), kit_ty (r := false) (by decide +kernel)⟩
theorem val_ty {H : Hp} {v : V} {g : Shape} (h : ValAt H v g) : ∃ t, TyX K H v t ∧ PySem.W.kitOne K t (.type "tuple") = some (isTup g) := by
  cases h with
  | non => exact ⟨_, .base .non, kit_ty (r := false) (by decide +kernel)⟩
  | int i => exact ⟨_, .base (.int i), kit_ty (r := false) (by decide +kernel)⟩
  | lst h => exact ⟨_, .base (.lst h), kit_ty (r := false) (by decide +kernel)⟩
  | dct h => exact ⟨_, .base (.dK h), kit_ty (r := false) (by decide +kernel)⟩
  | tup h p => exact ⟨_, .base (.tup h), kit_ty (r := true) (by decide +kernel)⟩
end
def gB (n : Int) (arcs : List Arc) : Option (List Int) → Bool
  | some S => groupB n arcs S
  | none => false
def pB (n : Int) (arcs : List Arc) : Shape → Bool
  | .tup [some A, some B] => partedB n arcs A B
  | _ => false
def shB (n : Int) (arcs : List Arc) : Shape → Bool
  | .non => decide ((sprL n arcs).length = 1)
  | g => pB n arcs g

def spClosed (TT : List Addr) : Sp := fun vs H Q _ => ∃ (a b : Addr) (n : Int) (arcs : List Arc) (S : List Int), vs = [.ref a, .ref b] ∧ WebAt H a n arcs ∧ Web n arcs ∧ TupAt H b S ∧ Tabs TT H ∧ ∀ H', Ext H H' → Q (.bl (closedB arcs S)) H'
def spGroup (TT : List Addr) : Sp := fun vs H Q _ => ∃ (a : Addr) (v : V) (n : Int) (arcs : List Arc) (g : Option (List Int)), vs = [.ref a, v] ∧ WebAt H a n arcs ∧ Web n arcs ∧ PartAt H v g ∧ (∀ S, g = some S → S.length ≤ 100) ∧ Tabs TT H ∧ ∀ H', Ext H H' → Q (.bl (gB n arcs g)) H'
def spShows (TT : List Addr) : Sp := fun vs H Q _ => ∃ (a : Addr) (v : V) (n : Int) (arcs : List Arc) (g : Shape), vs = [.ref a, v] ∧ WebAt H a n arcs ∧ Web n arcs ∧ ValAt H v g ∧ (∀ gs, g = .tup gs → ∀ S, some S ∈ gs → S.length ≤ 100) ∧ Tabs TT H ∧ ∀ H', Ext H H' → Q (.bl (shB n arcs g)) H'
section
variable {P : Program} {w : World} {K : PySem.W.Frag} {mg : Str → Option Value} {base : Heap}
/-! ### is_closed -/
theorem scClosed : FnScope ["web", "some"] ["web", "some"] (defScope sClosed) := ⟨rfl, rfl, rfl, by decide +kernel, rfl, by decide +kernel, by decide +kernel⟩
theorem ndClosed : ((["web", "some"] : List Str) ++ (["source", "goal"] : List Str)).Nodup := by decide +kernel
theorem ok_closed {TT : List Addr} {f c PT : Addr} {fd : FuncData} (F : Fun K "is_closed" "is_closed" sClosed f fd) (hc : fd.code = .ref c) (TB : TabB base mg c PT) (hPT : PT ∈ TT) (T : Txt K mg) :
    FnOk P w K mg base CX0 2 f fd ["web", "some"] (spClosed TT) := by
  refine okc F hc scClosed (fun vs H Q E h => ?_) (fun A outer s H vs Q E hr h => ?_)
  · obtain ⟨a, b, n, arcs, S, rfl, _⟩ := h
    rfl
  · obtain ⟨a, b, n, arcs, S, rfl, hw, W, hS, hT, k⟩ := h
    refine ⟨_, pss_one (ps_ret (pe_not (pe_any (own := ["source", "goal"]) hr (by rfl) T.any TB rfl (genO_by (N := ["web", "some"]) (sc := defScope sClosed) (by decide +kernel)) (pi_tup (pe_ix ix_tup (pv 0) pe_int (fun _ _ => rfl)))
        (g := gTup K 2 (gCons (gName 2) (gCons (gName 3) gNil)))
        (fun _ _ _ _ _ => pg_tup rfl (pgs_cons (pg_name (i := 2) ndClosed rfl (Or.inl rfl)) (pgs_cons (pg_name (i := 3) ndClosed rfl (Or.inl rfl)) pgs_nil)))
        (fun _ _ _ _ _ => pe_and (pe_cmpR (kIn K rfl) (pv 3) (pv 1) (by rfl)) (pe_one (pe_cmpR (kNotIn K rfl) (pv 2) (pv 1) (by rfl))))))), ?_⟩
    obtain ⟨wb, rs, hwa, hrs, hp⟩ := hw.ex
    refine ⟨_, rfl, a, _, _, _, rfl, rfl, SqT.of hwa, rfl, wb, rfl, ⟨_, SqT.of hrs⟩, hT PT hPT, fun H2 hb => ?_⟩
    have e2 : Ext H H2 := ext_tabbed (hT PT hPT) hb
    have hl : rs.length = arcs.length := paired_len hp
    refine gen_tup (xs := rs.map V.ref) (fun i H' => Ext H H' ∧ ((arcs.take i).any fun a => decide (a.2 ∈ S) && !decide (a.1 ∈ S)) = false) ⟨e2, by simp⟩ (fun i H' _ z => SqT.of (z.1.tup hrs)) ?_ ?_
    · rintro i x H' hx ⟨e, z⟩
      obtain ⟨r, hr1, rfl⟩ := get_map hx
      obtain ⟨y, hy, hry⟩ := paired_at hp hr1
      refine ⟨r, _, rfl, SqT.of (e.tup hry), rfl, _, _, rfl, _, _, rfl, rfl, ?_⟩
      refine ⟨keep_set2 rfl rfl, ?_⟩
      refine ⟨_, rfl, _, rfl, b, _, rfl, .inr (SqT.of (e.tup hS)), rfl, flat_ints _, _, rfl, ?_⟩
      rw [if_neg Bool.false_ne_true, inV_ints]
      have tk : ((arcs.take (i + 1)).any fun a => decide (a.2 ∈ S) && !decide (a.1 ∈ S)) = (decide (y.2 ∈ S) && !decide (y.1 ∈ S)) := by
        rw [List.take_add_one, hy, List.any_append, z]
        simp
      have fin : ∀ b : Bool, b = (decide (y.2 ∈ S) && !decide (y.1 ∈ S)) → ∃ b_1, V.bl b = V.bl b_1 ∧ if b_1 = false then Ext H H' ∧ ((arcs.take (i + 1)).any fun a => decide (a.2 ∈ S) && !decide (a.1 ∈ S)) = false else
          ∃ c, V.bl (!false) = V.bl c ∧ Q (.bl (!c)) H' := fun b hb => by
        refine ⟨b, rfl, ?_⟩
        cases b with
        | false =>
          rw [if_pos rfl, tk]
          exact ⟨e, hb.symm⟩
        | true =>
          rw [if_neg (by decide)]
          refine ⟨_, rfl, ?_⟩
          have : closedB arcs S = false := by
            unfold closedB
            have : (arcs.any fun a => decide (a.2 ∈ S) && !decide (a.1 ∈ S)) = true := List.any_eq_true.mpr ⟨y, List.mem_of_getElem? hy, hb.symm⟩
            rw [this]
            rfl
          have q := k H' e
          rw [this] at q
          exact q
      by_cases h1 : y.2 ∈ S
      · rw [decide_eq_true h1]
        refine iteT ?_
        refine ⟨_, rfl, _, rfl, b, _, rfl, .inr (SqT.of (e.tup hS)), rfl, flat_ints _, ?_⟩
        rw [if_pos rfl, inV_ints]
        exact fin _ (by rw [decide_eq_true h1]; rfl)
      · rw [decide_eq_false h1]
        refine iteF ?_
        exact fin _ (by rw [decide_eq_false h1]; rfl)
    · rintro H' ⟨e, z⟩
      rw [List.length_map, hl, List.take_length] at z
      refine ⟨_, rfl, ?_⟩
      have q := k H' e
      unfold closedB at q
      rw [z] at q
      exact q

/-! ### is_group -/
theorem asc_iff : ∀ {S : List Int}, ascB S = true ↔ ∀ (j : Nat) (x y : Int), S[j]? = some x → S[j + 1]? = some y → x < y
  | [] => by simp [ascB]
  | [x] => by simp [ascB]
  | x :: y :: l => by
    rw [ascB, Bool.and_eq_true, decide_eq_true_eq, asc_iff]
    constructor
    · rintro ⟨h1, h2⟩ j a b ha hb
      cases j with
      | zero =>
        simp at ha hb
        omega
      | succ j =>
        exact h2 j a b (by simpa using ha) (by simpa using hb)
    · intro h
      exact ⟨h 0 x y rfl rfl, fun j a b ha hb => h (j + 1) a b (by simpa using ha) (by simpa using hb)⟩
theorem scGroup : FnScope ["web", "value"] ["web", "value"] (defScope sGroup) := ⟨rfl, rfl, rfl, by decide +kernel, rfl, by decide +kernel, by decide +kernel⟩
theorem ndGroup1 : ((["web", "value"] : List Str) ++ (["one"] : List Str)).Nodup := by decide +kernel
theorem ndGroup2 : ((["web", "value"] : List Str) ++ (["k"] : List Str)).Nodup := by decide +kernel
theorem ok_group {TT : List Addr} {f c PT : Addr} {fd : FuncData} (F : Fun K "is_group" "is_group" sGroup f fd) (hc : fd.code = .ref c) (TB : TabB base mg c PT) (hPT : PT ∈ TT) (T : Txt K mg)
    {f1 : Addr} {fd1 : FuncData} (G1 : FnOk P w K mg base CX0 1 f1 fd1 ["value", "least", "most"] spIsIn) (c1 : Cal K mg "is_in" ["value", "least", "most"] f1 fd1)
    {f2 : Addr} {fd2 : FuncData} (G2 : FnOk P w K mg base CX0 2 f2 fd2 ["web", "some"] (spClosed TT)) (c2 : Cal K mg "is_closed" ["web", "some"] f2 fd2) :
    FnOk P w K mg base CX0 3 f fd ["web", "value"] (spGroup TT) := by
  refine okc F hc scGroup (fun vs H Q E h => ?_) (fun A outer s H vs Q E hr h => ?_)
  · obtain ⟨a, v, n, arcs, g, rfl, _⟩ := h
    rfl
  · obtain ⟨a, v, n, arcs, g, rfl, hw, W, hg, h100, hT, k⟩ := h
    refine ⟨_, pss_cons (ps_if (PW.pt (pw_or (pt_not (pt_val (pe_callB call_isi (by rfl) T.isi (by decide +kernel) (pa_cons (pv 1) (pa_cons (pe_bltn (v := .ty "tuple") (by rfl) T.tuple (by decide +kernel) rfl) pa_nil)))))
        (pw_or (pt_not (pt_truth (pv 1) (fun _ => rfl)))
        (pw_or1 (pt_not (pt_val (pe_all (own := ["one"]) hr (by rfl) T.all TB rfl (genO_by (N := ["web", "value"]) (sc := defScope sGroup) (by decide +kernel)) (pi_tup (pv 1)) (fun _ _ _ _ _ => pg_name (i := 2) ndGroup1 rfl (Or.inl rfl))
          (fun _ _ _ _ _ => pe_call G1 (room_gA hr) rfl c1.m c1.k c1.b .nil pass0 (pa_cons (pv 2) (pa_cons pe_int (pa_cons (pe_ix (kIxT K rfl) (pv 0) pe_int (fun _ _ => rfl)) pa_nil)))))))))))
        (pss_one (ps_ret pe_bl)) pss_nil)
      (pss_one (ps_ret (pe_and (pe_all (own := ["k"]) hr (by rfl) T.all TB rfl (genO_by (N := ["web", "value"]) (sc := defScope sGroup) (by decide +kernel))
          (pi_range1 (by rfl) T.range (pa_cons (pe_op op_sub (pe_callB call_len_seq (by rfl) T.len PySem.boot_len (pa_cons (pv 1) pa_nil)) pe_int) pa_nil)) (fun _ _ _ _ _ => pg_name (i := 2) ndGroup2 rfl (Or.inl rfl))
          (fun _ _ _ _ _ => pe_cmpR op_lt (pe_ix (kIxT K rfl) (pv 1) (pv 2) (fun _ _ => rfl)) (pe_ix (kIxT K rfl) (pv 1) (pe_op op_add (pv 2) pe_int) (fun _ _ => rfl)) (nomark _)))
        (pe_one (pe_call G2 hr rfl c2.m c2.k c2.b .nil pass0 (pa_cons (pv 0) (pa_cons (pv 1) pa_nil))))))), ?_⟩
    obtain ⟨wb, rs, hwa, hrs, hp⟩ := hw.ex
    obtain ⟨ty, hty, hkit⟩ := part_ty (K := K) hg
    refine ⟨_, rfl, v, .ty "tuple", ty, .type "tuple", _, rfl, .ty "tuple", hty, hkit, _, rfl, ?_⟩
    cases hg with
    | @lst r ys hl =>
      refine iteT ?_
      exact k H (Ext.refl H)
    | @tup r S hS =>
      refine iteF ?_
      refine ⟨_, rfl, !(ivs S).isEmpty, .inr (.inl ⟨_, SqT.of hS, rfl⟩), ?_⟩
      by_cases hne : S = []
      · subst hne
        refine iteT ?_
        exact k H (Ext.refl H)
      · have hne2 : (!(ivs S).isEmpty) = true := by
          cases S with
          | nil => exact absurd rfl hne
          | cons _ _ => rfl
        rw [hne2]
        refine iteF ?_
        have hS100 := h100 S rfl
        refine ⟨_, rfl, r, rfl, ⟨_, SqT.of hS⟩, hT PT hPT, fun H2 hb => ?_⟩
        have e2 : Ext H H2 := ext_tabbed (hT PT hPT) hb
        refine gen_tup (xs := ivs S) (fun i H' => Ext H H' ∧ (S.take i).all (inB n) = true) ⟨e2, by simp⟩ (fun i H' _ z => SqT.of (z.1.tup hS)) ?_ ?_
        · rintro i x H' hx ⟨e, z⟩
          obtain ⟨y, hy, rfl⟩ := get_map hx
          refine ⟨keep_set rfl, ?_⟩
          refine ⟨_, rfl, _, rfl, a, _, _, _, rfl, rfl, SqT.of (e.tup hwa), rfl, y, 1, n, rfl, _, rfl, ?_⟩
          show if inB n y = true then _ else _
          cases hin : inB n y with
          | true =>
            refine iteT ⟨e, ?_⟩
            rw [List.take_add_one, hy, List.all_append, z]
            simpa using hin
          | false =>
            refine iteF ?_
            refine ⟨_, rfl, ?_⟩
            refine iteT ?_
            have : gB n arcs (some S) = false := by
              show groupB n arcs S = false
              have : S.all (inB n) = false := by
                rw [Bool.eq_false_iff]
                intro h
                rw [List.all_eq_true.mp h y (List.mem_of_getElem? hy)] at hin
                cases hin
              unfold groupB
              rw [this]
              simp
            have q := k H' e
            rw [this] at q
            exact q
        · rintro H3 ⟨e, z⟩
          rw [List.length_map, List.take_length] at z
          refine ⟨_, rfl, ?_⟩
          refine iteF ?_
          have hSl : 1 ≤ S.length := by
            cases S with
            | nil => exact absurd rfl hne
            | cons _ _ => simp
          refine ⟨_, rfl, r, _, rfl, .inr (SqT.of (e.tup hS)), _, _, rfl, rfl, _, rfl, ?_, ?_, (e.tabs hT) PT hPT, fun H4 hb4 => ?_⟩
          · rw [List.length_map]; omega
          · rw [List.length_map]; omega
          have e4 : Ext H H4 := e.trans (ext_tabbed ((e.tabs hT) PT hPT) hb4)
          have hn : (((ivs S).length : Nat) - 1 : Int).toNat = S.length - 1 := by rw [List.length_map]; omega
          have gk : gB n arcs (some S) = (ascB S && closedB arcs S) := by
            show groupB n arcs S = _
            unfold groupB
            rw [z]
            cases S with
            | nil => exact absurd rfl hne
            | cons _ _ => rfl
          rw [hn]
          refine gen_range (fun i H' => Ext H H' ∧ ∀ (j : Nat) (x y : Int), j < i → S[j]? = some x → S[j + 1]? = some y → x < y) ⟨e4, by intro j x y h; omega⟩ ?_ ?_
          · rintro i H' hi ⟨e5, z5⟩
            have h1 : i < S.length := by omega
            have h2 : i + 1 < S.length := by omega
            have g1 : (ivs S)[i]? = some (V.int S[i]) := by simp [h1]
            have g2 : (ivs S)[i + 1]? = some (V.int S[i + 1]) := by simp [h2]
            have a1 : atI (ivs S) (0 + (i : Int)) = some (V.int S[i]) := by
              rw [show (0 + (i : Int)) = (i : Int) by omega]
              exact atI_nat g1
            have a2 : atI (ivs S) (0 + (i : Int) + 1) = some (V.int S[i + 1]) := by
              rw [show (0 + (i : Int) + 1) = ((i + 1 : Nat) : Int) by omega]
              exact atI_nat g2
            refine ⟨keep_set rfl, ?_⟩
            refine ⟨_, rfl, _, rfl, r, _, _, V.int S[i], rfl, rfl, SqT.of (e5.tup hS), a1, _, rfl, _, rfl, _, _, rfl, rfl, r, _, _, V.int S[i + 1], rfl, rfl, SqT.of (e5.tup hS), a2, _, _, rfl, rfl, _, rfl, ?_⟩
            refine ite2 (fun h3 => ?_) (fun h3 => ?_)
            · refine ⟨e5, fun j x y hj hx hy => ?_⟩
              rcases Nat.lt_or_ge j i with h4 | h4
              · exact z5 j x y h4 hx hy
              · have h5 : j = i := by omega
                subst h5
                rw [List.getElem?_eq_getElem h1] at hx
                rw [List.getElem?_eq_getElem h2] at hy
                cases hx
                cases hy
                exact of_decide_eq_true h3
            · refine ⟨_, rfl, ?_⟩
              refine iteF ?_
              have : ascB S = false := by
                rw [Bool.eq_false_iff]
                intro h
                exact h3 (decide_eq_true (asc_iff.mp h i _ _ (List.getElem?_eq_getElem h1) (List.getElem?_eq_getElem h2)))
              have q := k H' e5
              rw [gk, this, Bool.false_and] at q
              exact q
          · rintro H' ⟨e5, z5⟩
            refine ⟨_, rfl, ?_⟩
            refine iteT ?_
            refine ⟨_, rfl, _, rfl, a, r, n, arcs, S, rfl, hw.ext e5, W, e5.tup hS, e5.tabs hT, fun H6 e6 => ?_⟩
            have q := k H6 (e5.trans e6)
            have : ascB S = true := asc_iff.mpr fun j x y hx hy => z5 j x y (by have := (List.getElem?_eq_some_iff.mp hy).1; omega) hx hy
            rw [gk, this, Bool.true_and] at q
            exact q
end
end Bel
set_option Elab.async false
set_option linter.all false
set_option maxRecDepth 100000
set_option maxHeartbeats 4000000
namespace Bel
open PySem PySem.Spec L2 GxR GxA BM
section
variable {P : Program} {w : World} {K : PySem.W.Frag} {mg : Str → Option Value} {base : Heap}
/-! ### shows_parted -/
theorem two_parts {H : Hp} {n : Int} {arcs : List Arc} {xs : List V} {gs : List (Option (List Int))} (pp : Paired (PartAt H) xs gs) (h2 : xs.length = 2) (z : ∀ x ∈ gs, gB n arcs x = true) :
    ∃ (rA rB : Addr) (A B : List Int), xs = [.ref rA, .ref rB] ∧ gs = [some A, some B] ∧ TupAt H rA A ∧ TupAt H rB B ∧ groupB n arcs A = true ∧ groupB n arcs B = true := by
  cases pp with
  | nil => cases h2
  | cons h1 t =>
    cases t with
    | nil => cases h2
    | cons h3 t =>
      cases t with
      | cons _ _ => simp at h2
      | nil =>
        cases h1 with
        | lst h => exact nomatch (show false = true from z none (by simp))
        | @tup rA A hA =>
          cases h3 with
          | lst h => exact nomatch (show false = true from z none (by simp))
          | @tup rB B hB => exact ⟨rA, rB, A, B, rfl, rfl, hA, hB, z (some A) (by simp), z (some B) (by simp)⟩
theorem scShows : FnScope ["web", "value"] ["web", "value"] (defScope sShows) := ⟨rfl, rfl, rfl, by decide +kernel, rfl, by decide +kernel, by decide +kernel⟩
theorem ok_shows {TT : List Addr} {f c PT : Addr} {fd : FuncData} (F : Fun K "shows_parted" "shows_parted" sShows f fd) (hc : fd.code = .ref c) (TB : TabB base mg c PT) (hPT : PT ∈ TT) (T : Txt K mg)
    {f1 : Addr} {fd1 : FuncData} (G1 : FnOk P w K mg base CX0 4 f1 fd1 ["web"] (spNeed TT)) (c1 : Cal K mg "need_web" ["web"] f1 fd1)
    {f2 : Addr} {fd2 : FuncData} (G2 : FnOk P w K mg base CX0 4 f2 fd2 ["web"] (spSprings TT)) (c2 : Cal K mg "springs_of" ["web"] f2 fd2)
    {f3 : Addr} {fd3 : FuncData} (G3 : FnOk P w K mg base CX0 3 f3 fd3 ["web", "value"] (spGroup TT)) (c3 : Cal K mg "is_group" ["web", "value"] f3 fd3) :
    FnOk P w K mg base CX0 5 f fd ["web", "value"] (spShows TT) := by
  refine okc F hc scShows (fun vs H Q E h => ?_) (fun A outer s H vs Q E hr h => ?_)
  · obtain ⟨a, v, n, arcs, g, rfl, _⟩ := h
    rfl
  · obtain ⟨a, v, n, arcs, g, rfl, hw, W, hg, h100, hT, k⟩ := h
    refine ⟨_, pss_cons (ps_expr (pe_call G1 hr rfl c1.m c1.k c1.b .nil pass0 (pa_cons (pv 0) pa_nil)))
      (pss_cons (ps_if (pt_cmpR op_isN (pv 1) pe_non (nomark _))
        (pss_one (ps_ret (pe_cmpR op_eq (pe_callB call_len_seq (by rfl) T.len PySem.boot_len (pa_cons (pe_call G2 hr rfl c2.m c2.k c2.b .nil pass0 (pa_cons (pv 0) pa_nil)) pa_nil)) pe_int (nomark _)))) pss_nil)
      (pss_cons (ps_if (PW.pt (pw_or (pt_not (pt_val (pe_callB call_isi (by rfl) T.isi (by decide +kernel) (pa_cons (pv 1) (pa_cons (pe_bltn (v := .ty "tuple") (by rfl) T.tuple (by decide +kernel) rfl) pa_nil)))))
        (pw_or (pt_cmpR op_ne (pe_callB call_len_seq (by rfl) T.len PySem.boot_len (pa_cons (pv 1) pa_nil)) pe_int (nomark _))
        (pw_or1 (pt_not (pt_val (pe_all (own := ["one"]) hr (by rfl) T.all TB rfl (genO_by (N := ["web", "value"]) (sc := defScope sShows) (by decide +kernel)) (pi_tup (pv 1)) (fun _ _ _ _ _ => pg_name (i := 2) ndGroup1 rfl (Or.inl rfl))
          (fun _ _ _ _ _ => pe_call G3 (room_gA hr) rfl c3.m c3.k c3.b .nil pass0 (pa_cons (pv 0) (pa_cons (pv 2) pa_nil))))))))))
        (pss_one (ps_ret pe_bl)) pss_nil)
      (pss_one (ps_ret (pe_not (pe_any (own := ["one"]) hr (by rfl) T.any TB rfl (genO_by (N := ["web", "value"]) (sc := defScope sShows) (by decide +kernel)) (pi_tup (pe_ix ix_tup (pv 1) pe_int (fun _ _ => rfl))) (fun _ _ _ _ _ => pg_name (i := 2) ndGroup1 rfl (Or.inl rfl))
          (fun _ _ _ _ _ => pe_cmpR (kIn K rfl) (pv 2) (pe_ix (kIxT K rfl) (pv 1) pe_int (fun _ _ => rfl)) (by rfl)))))))), ?_⟩
    refine ⟨_, rfl, a, n, arcs, rfl, hw, W, hT, fun H1 e1 => ?_⟩
    have hg1 := hg.ext e1
    have tail : ∀ (hnn : v ≠ .non), shB n arcs g = pB n arcs g := fun hnn => by
      cases hg with
      | non => exact absurd rfl hnn
      | _ => rfl
    refine ⟨_, rfl, rfl, _, rfl, ?_⟩
    by_cases hnon : v = .non
    · subst hnon
      cases hg
      refine iteT ?_
      refine ⟨_, rfl, a, n, arcs, rfl, hw.ext e1, W, e1.tabs hT, fun q H2 rs L e2 hq pp perm => ?_⟩
      refine ⟨q, _, rfl, .inl (SqL.of hq), rfl, ?_⟩
      have hl : (rs.map V.ref).length = (sprL n arcs).length := by rw [List.length_map, paired_len pp, perm.length_eq]
      have q := k H2 (e1.trans e2)
      rw [hl, dec_int]
      have : ((((sprL n arcs).length : Nat) : Int) == 1) = decide ((sprL n arcs).length = 1) := by
        rw [Bool.eq_iff_iff]
        simp
        omega
      rw [this]
      exact q
    · rw [decide_eq_false hnon]
      have k : ∀ H', Ext H H' → Q (.bl (pB n arcs g)) H' := fun H' e => by
        have := k H' e
        rwa [tail hnon] at this
      refine iteF ?_
      obtain ⟨ty, hty, hkit⟩ := val_ty (K := K) hg1
      refine ⟨_, rfl, v, .ty "tuple", ty, .type "tuple", _, rfl, .ty "tuple", hty, hkit, _, rfl, ?_⟩
      have no : ∀ H', Ext H H' → pB n arcs g = false → Q (.bl false) H' := fun H' e hp => by
        have := k H' e
        rwa [hp] at this
      cases hg1 with
      | non => exact absurd rfl hnon
      | int i => exact iteT (no H1 e1 rfl)
      | lst h => exact iteT (no H1 e1 rfl)
      | dct h => exact iteT (no H1 e1 rfl)
      | @tup r xs gs hx pp =>
        refine iteF ?_
        have hl := paired_len pp
        refine ⟨_, rfl, r, _, rfl, .inr (SqT.of hx), rfl, _, rfl, ?_⟩
        rw [dec_int]
        by_cases h2 : xs.length = 2
        · have h2' : ((((xs.length : Nat) : Int)) == 2) = true := by rw [h2]; rfl
          rw [h2']
          refine iteF ?_
          refine ⟨_, rfl, r, rfl, ⟨_, SqT.of hx⟩, (e1.tabs hT) PT hPT, fun H2 hb => ?_⟩
          have e2 : Ext H1 H2 := ext_tabbed ((e1.tabs hT) PT hPT) hb
          have allF : ∀ x ∈ gs, gB n arcs x = false → pB n arcs (.tup gs) = false := fun x hx hf => by
            match gs, hl with
            | [], h => rfl
            | [some A, some B], _ =>
              show partedB n arcs A B = false
              unfold partedB
              rcases List.mem_cons.mp hx with rfl | hx
              · have : groupB n arcs A = false := hf
                rw [this]
                rfl
              · have : groupB n arcs B = false := by
                  rw [List.mem_singleton.mp hx] at hf
                  exact hf
                rw [this]
                simp
            | [none], _ => rfl
            | [some _], _ => rfl
            | [none, _], _ => rfl
            | [some _, none], _ => rfl
            | _ :: _ :: _ :: _, h => simp at h; omega
          refine gen_tup (xs := xs) (fun i H' => Ext H1 H' ∧ ∀ x ∈ gs.take i, gB n arcs x = true) ⟨e2, by simp⟩ (fun i H' _ z => SqT.of (z.1.tup hx)) ?_ ?_
          · rintro i x H' hxi ⟨e, z⟩
            obtain ⟨y, hy, hpy⟩ := paired_at pp hxi
            have hmem := List.mem_of_getElem? hy
            refine ⟨keep_set rfl, ?_⟩
            refine ⟨_, rfl, _, rfl, a, x, n, arcs, y, rfl, hw.ext (e1.trans e), W, hpy.ext e, fun S hS => h100 _ rfl S (hS ▸ hmem), (e1.trans e).tabs hT, fun H3 e3 => ?_⟩
            refine ⟨_, rfl, ?_⟩
            cases hgy : gB n arcs y with
            | true =>
              refine iteT ⟨e.trans e3, fun u hu => ?_⟩
              rw [List.take_add_one, hy] at hu
              rcases List.mem_append.mp hu with hu | hu
              · exact z u hu
              · rw [List.mem_singleton.mp hu]
                exact hgy
            | false =>
              refine iteF ?_
              refine ⟨_, rfl, ?_⟩
              exact iteT (no H3 (e1.trans (e.trans e3)) (allF y hmem hgy))
          · rintro H3 ⟨e, z⟩
            rw [hl, List.take_length] at z
            refine ⟨_, rfl, ?_⟩
            refine iteF ?_
            have e3 := e1.trans e
            obtain ⟨rA, rB, A, B, rfl, rfl, hA, hB, gA1, gB1⟩ := two_parts pp h2 z
            have val : pB n arcs (.tup [some A, some B]) = !(A.any fun x => decide (x ∈ B)) := by
              show partedB n arcs A B = _
              unfold partedB apartB
              rw [gA1, gB1]
              rfl
            refine ⟨_, rfl, r, _, _, _, rfl, rfl, SqT.of (e.tup hx), rfl, rA, rfl, ⟨_, SqT.of (e.tup hA)⟩, (e3.tabs hT) PT hPT, fun H4 hb4 => ?_⟩
            have e4 : Ext H1 H4 := e.trans (ext_tabbed ((e3.tabs hT) PT hPT) hb4)
            refine gen_tup (xs := ivs A) (fun i H' => Ext H1 H' ∧ ((A.take i).any fun x => decide (x ∈ B)) = false) ⟨e4, by simp⟩ (fun i H' _ z => SqT.of (z.1.tup hA)) ?_ ?_
            · rintro i x H' hxi ⟨e5, z5⟩
              obtain ⟨y, hy, rfl⟩ := get_map hxi
              refine ⟨keep_set rfl, ?_⟩
              refine ⟨_, rfl, _, rfl, r, _, _, _, rfl, rfl, SqT.of (e5.tup hx), rfl, rB, _, rfl, .inr (SqT.of (e5.tup hB)), rfl, flat_ints _, _, rfl, ?_⟩
              rw [if_neg Bool.false_ne_true, inV_ints]
              by_cases hm : y ∈ B
              · rw [decide_eq_true hm]
                rw [if_neg (by decide)]
                refine ⟨_, rfl, ?_⟩
                refine no H' (e1.trans e5) ?_
                rw [val, List.any_eq_true.mpr ⟨y, List.mem_of_getElem? hy, decide_eq_true hm⟩]
                rfl
              · rw [decide_eq_false hm]
                rw [if_pos rfl]
                refine ⟨e5, ?_⟩
                rw [List.take_add_one, hy, List.any_append, z5]
                simpa using hm
            · rintro H' ⟨e5, z5⟩
              rw [List.length_map, List.take_length] at z5
              refine ⟨_, rfl, ?_⟩
              have q := k H' (e1.trans e5)
              rw [val, z5] at q
              exact q
        · have h2' : ((((xs.length : Nat) : Int)) == 2) = false := by
            rw [Bool.eq_false_iff]
            simp
            omega
          rw [h2']
          refine iteT (no H1 e1 ?_)
          match gs, hl with
          | [], h => rfl
          | [_], h => simp only [pB]
          | [_, _], h => simp at h; omega
          | _ :: _ :: _ :: _, h => simp only [pB]
end
end Bel
set_option Elab.async false
set_option linter.all false
set_option maxRecDepth 100000
set_option maxHeartbeats 4000000
namespace Bel
open PySem PySem.Spec L2 GxR GxA BM

/-! ### the heap but for the row -/
def off (r : Addr) (H : Hp) : Hp := fun b => if b = r then none else H b
theorem off_self (r : Addr) (H : Hp) : off r H r = none := if_pos rfl
theorem off_ne {r b : Addr} {H : Hp} (h : b ≠ r) : off r H b = H b := if_neg h
theorem off_ext (r : Addr) (H : Hp) : Ext (off r H) H := fun b o e => by
  by_cases h : b = r
  · subst h
    rw [off_self] at e
    cases e
  · rw [off_ne h] at e
    exact .inl e
theorem off_mono {r : Addr} {H H' : Hp} (e : Ext (off r H) H') : Ext (off r H) (off r H') := fun b o h => by
  by_cases hb : b = r
  · subst hb
    rw [off_self] at h
    cases h
  · rcases e b o h with z | ⟨ps, qs, e1, z, t⟩
    · exact .inl (by rw [off_ne hb]; exact z)
    · exact .inr ⟨ps, qs, e1, by rw [off_ne hb]; exact z, t⟩
theorem off_trans {r : Addr} {H H1 H2 : Hp} (a : Ext (off r H) H1) (b : Ext (off r H1) H2) : Ext (off r H) H2 := (off_mono a).trans b
def RowAt (H : Hp) (r sc : Addr) : Prop := ∃ p s t : Int, H r = some (.lst [.ref sc, .int p, .int s, .int t]) ∧ 0 ≤ p
def spTaken (K : PySem.W.Frag) : Sp := fun vs H Q _ => ∃ (r sc : Addr) (m : Int) (ns : List Int), vs = [.ref r, .int m] ∧ RowAt H r sc ∧ SqL K (off r H) sc (ivs ns) ∧ (1 ≤ m ∧ m ≤ 1000) ∧
  ∀ q H', (0 ≤ q ∧ q < m) → Ext (off r H) H' → RowAt H' r sc → Q (.int q) H'
section
variable {P : Program} {w : World} {K : PySem.W.Frag} {mg : Str → Option Value} {base : Heap}
theorem scTaken : FnScope ["_law_row", "_law_many", "_law_found", "_law_cell"] ["_law_row", "_law_many"] (defScope sTaken) := ⟨rfl, rfl, rfl, by decide +kernel, rfl, by decide +kernel, by decide +kernel⟩
theorem ok_taken {f : Addr} {fd : FuncData} (F : Fun K "_law_taken" "_law_taken" sTaken f fd) (T : Txt K mg) : FnOk P w K mg base CX0 1 f fd ["_law_row", "_law_many"] (spTaken K) := by
  refine F.ok scTaken (fun vs H Q E h => ?_) (fun cdv A outer s H vs Q E hr h => ?_)
  · obtain ⟨r, sc, m, ns, rfl, _⟩ := h
    rfl
  · obtain ⟨r, sc, m, ns, rfl, hrow, hsc, ⟨hm1, hm2⟩, k⟩ := h
    refine ⟨_, pss_cons (ps_if (pt_cmpR op_gt (pe_ix ix_list (pv 0) pe_int (fun _ _ => rfl)) pe_int (nomark _))
        (pss_cons (ps_set (i := 2) scTaken.nd rfl (Or.inl rfl) (pe_op op_mod (pe_callTy call_int1 (by rfl) T.int (by decide +kernel) (pa_cons (pe_ix ix_list (pv 0) pe_int (fun _ _ => rfl)) pa_nil)) (pv 1)))
        (pss_cons (ps_asg (pe_op op_fdiv (pe_ix ix_list (pv 0) pe_int (fun _ _ => rfl)) (pv 1)) (pg_sub (pv 0) pe_int set_list))
        (pss_one (ps_ret (pv 2))))) pss_nil)
      (pss_cons (ps_asg (pe_op op_add (pe_ix ix_list (pv 0) pe_int (fun _ _ => rfl)) pe_int) (pg_sub (pv 0) pe_int set_list))
      (pss_cons (ps_if (pt_cmpR op_gt (pe_ix ix_list (pv 0) pe_int (fun _ _ => rfl)) (pe_callB call_len_seq (by rfl) T.len PySem.boot_len (pa_cons (pe_ix ix_list (pv 0) pe_int (fun _ _ => rfl)) pa_nil)) (nomark _))
        (pss_cons (ps_asg (pe_op op_mod (pe_callTy call_int1 (by rfl) T.int (by decide +kernel) (pa_cons (pe_op op_add (pe_op op_mul (pe_ix ix_list (pv 0) pe_int (fun _ _ => rfl)) pe_int) pe_int) pa_nil)) pe_int) (pg_sub (pv 0) pe_int set_list))
        (pss_one (ps_ret (pe_op op_mod (pe_callTy call_int1 (by rfl) T.int (by decide +kernel) (pa_cons (pe_op op_fdiv (pe_ix ix_list (pv 0) pe_int (fun _ _ => rfl)) pe_int) pa_nil)) (pv 1))))) pss_nil)
      (pss_cons (ps_set (i := 3) scTaken.nd rfl (Or.inl rfl) (pe_ix ix_list (pe_ix ix_list (pv 0) pe_int (fun _ _ => rfl)) (pe_op op_sub (pe_ix ix_list (pv 0) pe_int (fun _ _ => rfl)) pe_int) (fun _ _ => rfl)))
      (pss_cons (ps_asg (pe_op op_mod (pe_callTy call_int1 (by rfl) T.int (by decide +kernel) (pa_cons (pe_op op_add (pe_op op_add (pe_op op_mul (pe_ix ix_list (pv 0) pe_int (fun _ _ => rfl)) pe_int) (pv 3)) pe_int) pa_nil)) pe_int) (pg_sub (pv 0) pe_int set_list))
      (pss_cons (ps_if (pt_cmpR op_ge (pv 3) (pe_op op_pow pe_int pe_int) (nomark _))
        (pss_one (ps_asg (pe_op op_fdiv (pv 3) (pv 1)) (pg_sub (pv 0) pe_int set_list))) pss_nil)
      (pss_one (ps_ret (pe_op op_mod (pe_callTy call_int1 (by rfl) T.int (by decide +kernel) (pa_cons (pv 3) pa_nil)) (pv 1))))))))), ?_⟩
    obtain ⟨p, sd, t, hrw, hp⟩ := hrow
    have hm0 : (0 : Int) < m := by omega
    have hmod : ∀ x : Int, 0 ≤ x % m ∧ x % m < m := fun x => ⟨Int.emod_nonneg _ (by omega), Int.emod_lt_of_pos _ hm0⟩
    have hsne : ∀ H', Ext (off r H) H' → SqL K H' sc (ivs ns) := fun H' e => e.seq hsc
    refine ⟨_, rfl, r, _, _, _, rfl, rfl, SqL.of hrw, rfl, _, _, rfl, rfl, _, rfl, ?_⟩
    refine ite2 (fun h1 => ?_) (fun h1 => ?_)
    · refine ⟨_, rfl, r, _, _, _, rfl, rfl, SqL.of hrw, rfl, .inl ⟨_, rfl, _, rfl, _, _, rfl, rfl, hm0, ?_⟩⟩
      refine ⟨_, rfl, r, _, _, _, rfl, rfl, SqL.of hrw, rfl, _, rfl, _, _, rfl, rfl, ⟨hm0, by omega⟩, ?_⟩
      refine ⟨_, rfl, r, _, _, 3, rfl, rfl, hrw, rfl, ?_⟩
      refine ⟨_, rfl, ?_⟩
      exact k _ _ (hmod t) ((off_ext r H).mut (off_self r H)) ⟨p, sd, t / m, upd_same, hp⟩
    · have e1 : Ext (off r H) (upd H r (.lst [.ref sc, .int (p + 1), .int sd, .int t])) := (off_ext r H).mut (off_self r H)
      refine ⟨_, rfl, r, _, _, _, rfl, rfl, SqL.of hrw, rfl, _, _, rfl, rfl, ?_⟩
      refine ⟨_, rfl, r, _, _, 1, rfl, rfl, hrw, rfl, ?_⟩
      have hr1 : (upd H r (.lst [.ref sc, .int (p + 1), .int sd, .int t])) r = some (.lst [.ref sc, .int (p + 1), .int sd, .int t]) := upd_same
      refine ⟨_, rfl, r, _, _, _, rfl, rfl, SqL.of hr1, rfl, _, rfl, r, _, _, _, rfl, rfl, SqL.of hr1, rfl, sc, _, rfl, .inl (hsne _ e1), _, _, rfl, rfl, _, rfl, ?_⟩
      refine ite2 (fun h2 => ?_) (fun h2 => ?_)
      · refine ⟨_, rfl, r, _, _, _, rfl, rfl, SqL.of hr1, rfl, _, _, rfl, rfl, .inr ⟨by decide, by decide⟩, _, _, rfl, rfl, .inl ⟨_, rfl, _, _, rfl, rfl, (by show (0 : Int) < 2147483647; decide), ?_⟩⟩
        refine ⟨_, rfl, r, _, _, 2, rfl, rfl, hr1, rfl, ?_⟩
        have hr2 : (upd (upd H r (.lst [.ref sc, .int (p + 1), .int sd, .int t])) r (.lst [.ref sc, .int (p + 1), .int ((sd * 48271 + 11) % 2147483647), .int t])) r = some (.lst [.ref sc, .int (p + 1), .int ((sd * 48271 + 11) % 2147483647), .int t]) := upd_same
        refine ⟨_, rfl, r, _, _, _, rfl, rfl, SqL.of hr2, rfl, _, _, rfl, rfl, ⟨by decide, by decide⟩, .inl ⟨_, rfl, _, rfl, _, _, rfl, rfl, hm0, ?_⟩⟩
        exact k _ _ (hmod _) (e1.mut (off_self r H)) ⟨_, _, _, hr2, by omega⟩
      · rw [decide_eq_true_eq, List.length_map] at h2
        obtain ⟨j, rfl⟩ : ∃ j : Nat, p = (j : Int) := ⟨p.toNat, by omega⟩
        have hj : j < ns.length := by omega
        have hat : atI (ivs ns) ((j : Int) + 1 - 1) = some (V.int ns[j]) := by
          rw [show ((j : Int) + 1 - 1) = (j : Int) by omega]
          exact atI_nat (by simp [hj])
        refine ⟨_, rfl, r, _, _, _, rfl, rfl, SqL.of hr1, rfl, _, rfl, r, _, _, _, rfl, rfl, SqL.of hr1, rfl, _, _, rfl, rfl, sc, _, _, V.int ns[j], rfl, rfl, hsne _ e1, hat, ?_⟩
        generalize ns[j] = cell
        refine ⟨_, rfl, r, _, _, _, rfl, rfl, SqL.of hr1, rfl, _, _, rfl, rfl, .inr ⟨by decide, by decide⟩, _, rfl, _, _, rfl, rfl, _, _, rfl, rfl, .inl ⟨_, rfl, _, _, rfl, rfl, (by show (0 : Int) < 2147483647; decide), ?_⟩⟩
        refine ⟨_, rfl, r, _, _, 2, rfl, rfl, hr1, rfl, ?_⟩
        have hr2 : (upd (upd H r (.lst [.ref sc, .int ((j : Int) + 1), .int sd, .int t])) r (.lst [.ref sc, .int ((j : Int) + 1), .int ((sd * 48271 + cell + 11) % 2147483647), .int t])) r = some (.lst [.ref sc, .int ((j : Int) + 1), .int ((sd * 48271 + cell + 11) % 2147483647), .int t]) := upd_same
        refine ⟨_, rfl, _, _, rfl, rfl, ⟨by decide, by decide, by decide⟩, _, _, rfl, rfl, _, rfl, ?_⟩
        refine ite2 (fun h3 => ?_) (fun h3 => ?_)
        · refine ⟨_, rfl, _, rfl, _, _, rfl, rfl, ⟨hm0, by omega⟩, ?_⟩
          refine ⟨_, rfl, r, _, _, 3, rfl, rfl, hr2, rfl, ?_⟩
          refine ⟨_, rfl, .inl ⟨_, rfl, _, rfl, _, _, rfl, rfl, hm0, ?_⟩⟩
          exact k _ _ (hmod _) ((e1.mut (off_self r H)).mut (off_self r H)) ⟨_, _, _, upd_same, by omega⟩
        · refine ⟨_, rfl, .inl ⟨_, rfl, _, rfl, _, _, rfl, rfl, hm0, ?_⟩⟩
          exact k _ _ (hmod _) (e1.mut (off_self r H)) ⟨_, _, _, hr2, by omega⟩
end
end Bel
set_option Elab.async false
set_option linter.all false
set_option maxRecDepth 100000
set_option maxHeartbeats 4000000
namespace Bel
open PySem PySem.Spec L2 GxR GxA BM

section
variable {K : PySem.W.Frag}
theorem cat_by {H : Hp} {a b : Addr} {xs ys : List V} {Q : VK} (ha : H a = some (.tup xs)) (hb : H b = some (.tup ys)) (hz : xs.length + ys.length ≤ sizeLine) (q : ∀ p H', Ext H H' → H' p = some (.tup (xs ++ ys)) → Q (.ref p) H') :
    rCatA K (.ref a) (.ref b) H Q := by
  refine ⟨a, b, xs, ys, rfl, rfl, SqT.of ha, SqT.of hb, hz, fun e => ?_, fun _ e => ?_, fun _ _ p hp => ?_⟩
  · subst e
    exact q b H (Ext.refl H) hb
  · subst e
    exact q a H (Ext.refl H) (by rw [List.append_nil]; exact ha)
  · exact q p _ (Ext.new hp) upd_same
theorem slice_by {H : Hp} {a : Addr} {xs : List V} {lo hi : Option Int} {Q : VK} (ha : H a = some (.tup xs)) (q : ∀ p H', Ext H H' → H' p = some (.tup (cutV xs lo hi)) → Q (.ref p) H') : rSlA K (.ref a) lo hi H Q := by
  refine ⟨a, xs, rfl, SqT.of ha, fun e => ?_, fun _ p hp => q p _ (Ext.new hp) upd_same⟩
  refine q a H (Ext.refl H) ?_
  unfold cutV
  rw [e.1, e.2, List.drop_zero, Nat.sub_zero, List.take_length]
  exact ha
end
theorem cut_to (xs : List V) (k : Nat) : cutV xs none (some (k : Int)) = xs.take k := by
  unfold cutV
  rw [HT.sIx_none, HT.sIx_nat, List.drop_zero, Nat.sub_zero]
  rcases Nat.le_total k xs.length with h | h
  · rw [Nat.min_eq_left h]
  · rw [Nat.min_eq_right h, List.take_length, List.take_of_length_le h]
theorem cut_from (xs : List V) (k : Nat) : cutV xs (some (k : Int)) none = xs.drop k := by
  unfold cutV
  rw [HT.sIx_none, HT.sIx_nat]
  rcases Nat.le_total k xs.length with h | h
  · rw [Nat.min_eq_left h, List.take_of_length_le (by rw [List.length_drop]; omega)]
  · rw [Nat.min_eq_right h, List.drop_length, List.drop_of_length_le h, List.take_nil]

def spOver : Sp := fun vs H Q _ => ∃ (a b : Addr) (i : Nat) (n : Int) (arcs : List Arc) (t : List Int) (x : Arc), vs = [.ref a, .ref b, .int (i : Int)] ∧ WebAt H a n arcs ∧ Web n arcs ∧ TupAt H b t ∧ t.length = n.toNat ∧ arcs[i]? = some x ∧
  ∀ q H', Ext H H' → TupAt H' q (stepS t x) → Q (.ref q) H'
def spHeard : Sp := fun vs H Q _ => ∃ (a : Addr) (n : Int) (arcs : List Arc) (p : Int), vs = [.ref a, .int p] ∧ WebAt H a n arcs ∧ Web n arcs ∧ (1 ≤ p ∧ p ≤ n) ∧ ∀ q H' ys, Ext H H' → H' q = some (.lst (ivs ys)) → ys.length = (hear n arcs p).length → Q (.ref q) H'
section
variable {P : Program} {w : World} {K : PySem.W.Frag} {mg : Str → Option Value} {base : Heap}
/-! ### _law_taken_over -/
theorem scOver : FnScope ["_law_web_here", "_law_some", "_law_index", "_law_source", "_law_goal"] ["_law_web_here", "_law_some", "_law_index"] (defScope sOver) := ⟨rfl, rfl, rfl, by decide +kernel, rfl, by decide +kernel, by decide +kernel⟩
theorem set_eq (t : List Int) (g : Nat) (v : Int) (h : g < t.length) : t.take g ++ [v] ++ t.drop (g + 1) = t.set g v := by
  rw [List.set_eq_take_append_cons_drop, if_pos h, List.append_assoc]
  rfl
theorem ok_over {f : Addr} {fd : FuncData} (F : Fun K "_law_taken_over" "_law_taken_over" sOver f fd) (T : Txt K mg) : FnOk P w K mg base CX0 1 f fd ["_law_web_here", "_law_some", "_law_index"] spOver := by
  refine F.ok scOver (fun vs H Q E h => ?_) (fun cdv A outer s H vs Q E hr h => ?_)
  · obtain ⟨a, b, i, n, arcs, t, x, rfl, _⟩ := h
    rfl
  · obtain ⟨a, b, i, n, arcs, t, x, rfl, hw, W, ht, htl, hx, k⟩ := h
    refine ⟨_, pss_cons (ps_asg (pe_ix ix_tup (pe_ix ix_tup (pv 0) pe_int (fun _ _ => rfl)) (pv 2) (fun _ _ => rfl)) (pg_tup rfl (pgs_cons (pg_name (i := 3) scOver.nd rfl (Or.inl rfl)) (pgs_cons (pg_name (i := 4) scOver.nd rfl (Or.inl rfl)) pgs_nil))))
      (pss_one (ps_ret (pe_op op_catA (pe_op op_catA (pe_slice sl_tupA (pv 1) po_none (po_some (pe_op op_sub (pv 4) pe_int))) (pe_tup (pa_cons (pe_ix ix_tup (pv 1) (pe_op op_sub (pv 3) pe_int) (fun _ _ => rfl)) pa_nil)))
        (pe_slice sl_tupA (pv 1) (po_some (pv 4)) po_none)))), ?_⟩
    obtain ⟨wb, rs, hwa, hrs, hp⟩ := hw.ex
    obtain ⟨r, hr1, hrx⟩ := paired_at2 hp hx
    have hok := W.ok x (List.mem_of_getElem? hx)
    obtain ⟨g, hg⟩ : ∃ g : Nat, x.2 = (g : Int) + 1 := ⟨(x.2 - 1).toNat, by omega⟩
    obtain ⟨c, hc⟩ : ∃ c : Nat, x.1 = (c : Int) + 1 := ⟨(x.1 - 1).toNat, by omega⟩
    have hgt : g < t.length := by omega
    have hct : c < t.length := by omega
    have hhi := W.hi
    refine ⟨_, rfl, a, _, _, _, rfl, rfl, SqT.of hwa, rfl, _, rfl, wb, _, _, V.ref r, rfl, rfl, SqT.of hrs, atI_nat (by simp [hr1]), r, _, rfl, SqT.of hrx, rfl, _, _, rfl, _, _, rfl, rfl, ?_⟩
    refine ⟨_, rfl, _, rfl, _, _, rfl, rfl, _, rfl, slice_by ht fun p1 H1 e1 h1 => ?_⟩
    have e4 : x.2 - 1 = ((g : Nat) : Int) := by omega
    have e5 : x.1 - 1 = ((c : Nat) : Int) := by omega
    rw [e4, cut_to] at h1
    have hat : atI (ivs t) (x.1 - 1) = some (V.int t[c]) := by
      rw [e5]
      exact atI_nat (by simp [hct])
    refine ⟨_, rfl, _, rfl, _, _, rfl, rfl, b, _, _, V.int t[c], rfl, rfl, SqT.of (e1.tup ht), hat, by show 1 ≤ sizeLine; decide, fun p2 hp2 => ?_⟩
    have e6 : Ext H1 (upd H1 p2 (.tup [.int t[c]])) := Ext.new hp2
    refine cat_by (e6.tup h1) upd_same ?_ fun p3 H3 e3 h3 => ?_
    · rw [List.length_take, List.length_map, sizeLine_eq]
      simp
      omega
    have e7 := e1.trans (e6.trans e3)
    refine ⟨_, rfl, _, rfl, _, rfl, ?_⟩
    unfold tNoPart
    refine slice_by (e7.tup ht) fun p4 H4 e8 h4 => ?_
    rw [show x.2 = ((g + 1 : Nat) : Int) by omega, cut_from] at h4
    refine cat_by (e8.tup h3) h4 ?_ fun p5 H5 e9 h5 => ?_
    · rw [List.length_append, List.length_take, List.length_drop, List.length_map, sizeLine_eq]
      simp
      omega
    refine k p5 H5 (e7.trans (e8.trans e9)) ?_
    show H5 p5 = some (.tup (ivs (stepS t x)))
    have hstep : stepS t x = t.take g ++ [t[c]] ++ t.drop (g + 1) := by
      unfold stepS
      rw [set_eq t g _ hgt, show (x.2 - 1).toNat = g by omega, show (x.1 - 1).toNat = c by omega, List.getD_eq_getElem?_getD, List.getElem?_eq_getElem hct]
      rfl
    rw [h5, hstep]
    show some (HO.tup _) = some (HO.tup (List.map V.int _))
    rw [List.map_append, List.map_append, List.map_take, List.map_drop]
    rfl

/-! ### _law_people -/
theorem scLPeople : FnScope ["_law_web_here", "_law_k"] ["_law_web_here"] (defScope sLPeople) := ⟨rfl, rfl, rfl, by decide +kernel, rfl, by decide +kernel, by decide +kernel⟩
theorem ok_lpeople {f : Addr} {fd : FuncData} (F : Fun K "_law_people" "_law_people" sLPeople f fd) (T : Txt K mg) : FnOk P w K mg base CX0 1 f fd ["_law_web_here"] spPeople := by
  refine F.ok scLPeople (fun vs H Q E h => ?_) (fun cdv A outer s H vs Q E hr h => ?_)
  · obtain ⟨a, n, arcs, rfl, _⟩ := h
    rfl
  · obtain ⟨a, n, arcs, rfl, hw, W, k⟩ := h
    refine ⟨_, pss_one (ps_ret (pe_callTy call_tuple_of (by rfl) T.tuple (by decide +kernel) (pa_cons (pe_lc (own := [("_law_k", 1)]) (g := gName 1) (tt := tYes) rfl scLPeople.nd (pi_range1 (by rfl) T.range (pa_cons (pe_ix ix_tup (pv 0) pe_int (fun _ _ => rfl)) pa_nil)) (blkOk_by (own := [("_law_k", 1)]) (N := ["_law_web_here", "_law_k"]) (sc := defScope sLPeople) (by decide +kernel))
      (fun _ _ _ _ _ => pg_name (i := 1) scLPeople.nd rfl (Or.inl rfl)) (fun _ _ _ _ _ => pts_nil) (fun _ _ _ _ _ => pe_op op_add (pv 1) pe_int)) pa_nil))), ?_⟩
    obtain ⟨wb, rs, hwa, hrs, hp⟩ := hw.ex
    have h1 := W.lo
    have h2 := W.hi
    refine ⟨_, rfl, a, _, _, _, rfl, rfl, SqT.of hwa, rfl, n, rfl, by omega, by omega, fun D hD => ?_⟩
    refine lc_range (fun i H' => Ext H H' ∧ H' D = some (.lst (ivs ((people n).take i)))) ⟨Ext.new hD, upd_same⟩ ?_ ?_
    · rintro i H' hi ⟨e, z⟩
      refine ⟨rfl, ?_⟩
      simp only [tYes, if_true]
      refine ⟨_, rfl, _, _, rfl, rfl, _, z, ?_, e.mut hD, ?_⟩
      · have h3 : ((people n).take i).length ≤ (people n).length := by rw [List.length_take]; omega
        rw [len_people] at h3
        rw [List.length_map, sizeLine_eq]
        omega
      · rw [upd_same, List.take_add_one, get_people hi]
        show some (HO.lst _) = some (HO.lst (ivs _))
        rw [show ivs ((people n).take i ++ (some ((i : Int) + 1)).toList) = _ from List.map_append ..]
        show some (HO.lst (_ ++ [V.int (0 + (i : Int) + 1)])) = _
        rw [show (0 + (i : Int) + 1) = (i : Int) + 1 by omega]
        rfl
    · rintro H' ⟨e, z⟩
      refine ⟨D, _, rfl, .inl ⟨SqL.of z, fun l hl => ?_⟩⟩
      refine k l _ (e.trans (Ext.new hl)) ?_
      rw [upd_same, List.take_of_length_le (by rw [len_people]; omega)]

/-! ### _law_heard -/
theorem scHeard : FnScope ["_law_web_here", "_law_person", "_law_found", "_law_turn", "_law_source", "_law_goal"] ["_law_web_here", "_law_person"] (defScope sHeard) := ⟨rfl, rfl, rfl, by decide +kernel, rfl, by decide +kernel, by decide +kernel⟩
theorem ok_heard {f : Addr} {fd : FuncData} (F : Fun K "_law_heard" "_law_heard" sHeard f fd) (T : Txt K mg) : FnOk P w K mg base CX0 1 f fd ["_law_web_here", "_law_person"] spHeard := by
  refine F.ok scHeard (fun vs H Q E h => ?_) (fun cdv A outer s H vs Q E hr h => ?_)
  · obtain ⟨a, n, arcs, p, rfl, _⟩ := h
    rfl
  · obtain ⟨a, n, arcs, p, rfl, hw, W, hpr, k⟩ := h
    refine ⟨_, pss_cons (ps_set (i := 2) scHeard.nd rfl (Or.inl rfl) (pe_lst (pa_cons (pv 1) pa_nil)))
      (pss_cons (ps_for PassesOwn.never rfl (pi_range1 (by rfl) T.range (pa_cons (pe_ix ix_tup (pv 0) pe_int (fun _ _ => rfl)) pa_nil)) (pg_name (i := 3) scHeard.nd rfl (Or.inl rfl))
        (pss_one (ps_for PassesOwn.never rfl (pi_tup (pe_ix ix_tup (pv 0) pe_int (fun _ _ => rfl))) (pg_tup rfl (pgs_cons (pg_name (i := 4) scHeard.nd rfl (Or.inl rfl)) (pgs_cons (pg_name (i := 5) scHeard.nd rfl (Or.inl rfl)) pgs_nil)))
          (pss_one (ps_if (PW.pt (pw_and (pt_cmpR op_in_seq (pv 4) (pv 2) (by rfl)) (pw_and1 (pt_cmpR op_notIn_seq (pv 5) (pv 2) (by rfl)))))
            (pss_one (ps_expr (pe_bm PySem.F.plainAttrs_list PySem.F.slot_list_append PySem.F.type_list_append mt_append (pv 2) (pa_cons (pv 5) pa_nil)))) pss_nil)))))
      (pss_one (ps_ret (pe_callB cr_sortedI (by rfl) T.sorted (by decide +kernel) (pa_cons (pv 2) pa_nil))))), ?_⟩
    obtain ⟨wb, rs, hwa, hrs, hp⟩ := hw.ex
    have lenA : rs.length = arcs.length := paired_len hp
    have hlo := W.lo
    have hhi := W.hi
    refine ⟨_, rfl, by show 1 ≤ sizeLine; decide, fun d hd => ?_⟩
    have e0 : Ext H (upd H d (.lst [.int p])) := Ext.new hd
    refine ⟨_, rfl, a, _, _, _, rfl, rfl, SqT.of (e0.tup hwa), rfl, n, rfl, by omega, by omega, ?_⟩
    refine for_range (fun i σ H' => ∃ x3 x4 x5, σ = [some (.ref a), some (.int p), some (.ref d), x3, x4, x5] ∧ Ext H H' ∧ H' d = some (.lst (ivs (hearN arcs [p] i)))) ⟨_, _, _, rfl, e0, upd_same⟩ ?_ ?_
    · rintro i σ H' hi ⟨x3, x4, x5, rfl, e, z⟩
      refine ⟨_, rfl, a, _, _, _, rfl, rfl, SqT.of (e.tup hwa), rfl, wb, rfl, ⟨_, SqT.of (e.tup hrs)⟩, ?_⟩
      refine for_tup (xs := rs.map V.ref) (fun j σ H' => ∃ x3 x4 x5, σ = [some (.ref a), some (.int p), some (.ref d), x3, x4, x5] ∧ Ext H H' ∧ H' d = some (.lst (ivs ((arcs.take j).foldl relax1 (hearN arcs [p] i)))) ∧ (∀ q ∈ (arcs.take j).foldl relax1 (hearN arcs [p] i), Reach arcs p q) ∧ ((arcs.take j).foldl relax1 (hearN arcs [p] i)).Nodup) ⟨_, _, _, rfl, e, z, hearN_sound i, hearN_nodup i⟩ ?_ ?_ ?_
      · rintro j σ H' _ ⟨x3, x4, x5, rfl, e, _⟩
        exact SqT.of (e.tup hrs)
      · rintro j x σ H' hx ⟨x3, x4, x5, rfl, e, z, snd, nd⟩
        obtain ⟨r, hr1, rfl⟩ := get_map hx
        obtain ⟨y, hy, hry⟩ := paired_at hp hr1
        have hmem := List.mem_of_getElem? hy
        have tk : (arcs.take (j + 1)).foldl relax1 (hearN arcs [p] i) = relax1 ((arcs.take j).foldl relax1 (hearN arcs [p] i)) y := by
          rw [List.take_add_one, hy, List.foldl_append]
          rfl
        rw [tk]
        generalize (arcs.take j).foldl relax1 (hearN arcs [p] i) = fs at z snd nd
        refine ⟨r, _, rfl, SqT.of (e.tup hry), rfl, _, _, rfl, _, _, rfl, rfl, ?_⟩
        refine ⟨_, rfl, _, rfl, d, _, rfl, .inl (SqL.of z), rfl, flat_ints _, _, rfl, ?_⟩
        rw [if_neg Bool.false_ne_true, inV_ints]
        have out : ∀ (c : ¬ (y.1 ∈ fs ∧ y.2 ∉ fs)), ∃ u3 u4 u5, [some (V.ref a), some (V.int p), some (V.ref d), x3, some (V.int y.1), some (V.int y.2)] = [some (V.ref a), some (V.int p), some (V.ref d), u3, u4, u5] ∧ Ext H H' ∧ H' d = some (.lst (ivs (relax1 fs y))) ∧ (∀ q ∈ relax1 fs y, Reach arcs p q) ∧ (relax1 fs y).Nodup := fun c => by
          have : relax1 fs y = fs := if_neg c
          rw [this]
          exact ⟨_, _, _, rfl, e, z, snd, nd⟩
        by_cases h1 : y.1 ∈ fs
        · rw [decide_eq_true h1]
          refine iteT ?_
          refine ⟨_, rfl, _, rfl, d, _, rfl, .inl (SqL.of z), rfl, flat_ints _, _, rfl, ?_⟩
          rw [if_pos rfl, inV_ints]
          by_cases h2 : y.2 ∈ fs
          · rw [decide_eq_true h2]
            refine iteF ?_
            exact out fun c => c.2 h2
          · rw [decide_eq_false h2]
            refine iteT ?_
            have e1 : relax1 fs y = fs ++ [y.2] := if_pos ⟨h1, h2⟩
            have hl : fs.length ≤ n.toNat := len_ok W nd fun q hq => (snd q hq).range W hpr
            refine ⟨_, rfl, .inl ⟨rfl, _, SqL.of z⟩, _, rfl, d, _, _, rfl, rfl, z, by rw [List.length_map, sizeLine_eq]; omega, ?_⟩
            refine ⟨_, _, _, rfl, e.mut hd, ?_, ?_, ?_⟩
            · rw [upd_same, e1]
              show some (HO.lst _) = some (HO.lst (ivs _))
              rw [show ivs (fs ++ [y.2]) = _ from List.map_append ..]
              rfl
            · rw [e1]
              intro q hq
              rcases List.mem_append.mp hq with hq | hq
              · exact snd q hq
              · rw [List.mem_singleton.mp hq]
                exact .step (snd _ h1) hmem
            · exact relax1_nodup nd
        · rw [decide_eq_false h1]
          refine iteF ?_
          exact out fun c => h1 c.1
      · rintro σ H' ⟨x3, x4, x5, rfl, e, z, _⟩
        refine ⟨_, _, _, rfl, e, ?_⟩
        rw [z, List.length_map, lenA, List.take_length]
        rfl
    · rintro σ H' ⟨x3, x4, x5, rfl, e, z⟩
      refine ⟨_, rfl, d, _, rfl, SqL.of z, fun ys q perm _ hq => ?_⟩
      exact k q _ ys (e.trans (Ext.new hq)) upd_same perm.length_eq
end
end Bel
set_option Elab.async false
set_option linter.all false
set_option maxRecDepth 100000
set_option maxHeartbeats 4000000
namespace Bel
open PySem PySem.Spec L2 GxR GxA BM

theorem lay_ints : ∀ l : List Int, PyData.canLayAll0 (l.map PyData.int) = true
  | [] => by simp [PyData.canLayAll0]
  | x :: l => by
    rw [List.map_cons, PyData.canLayAll0, lay_ints l]
    simp [PyData.canLay0]
theorem depth_ints0 : ∀ l : List Int, PyData.depthAll (l.map PyData.int) ≤ 9
  | [] => by simp [PyData.depthAll]
  | x :: l => by
    rw [List.map_cons, PyData.depthAll]
    have := depth_ints0 l
    simp [PyData.depth]
    omega
theorem shaped_lints (l : List Int) : SeqAt.shaped (.list (l.map PyData.int)) = true := by
  have h1 := lay_ints l
  have h2 := depth_ints0 l
  have h3 : PyData.canLay0 (.list (l.map PyData.int)) = true := by rw [PyData.canLay0]; exact h1
  have h4 : PyData.depth (.list (l.map PyData.int)) ≤ 64 := by rw [PyData.depth]; omega
  unfold SeqAt.shaped
  rw [h3, decide_eq_true h4]
  rfl
theorem shaped_tints (l : List Int) : SeqAt.shaped (.tuple (l.map PyData.int)) = true := by
  have h1 := lay_ints l
  have h2 := depth_ints0 l
  have h3 : PyData.canLay0 (.tuple (l.map PyData.int)) = true := by rw [PyData.canLay0]; exact h1
  have h4 : PyData.depth (.tuple (l.map PyData.int)) ≤ 64 := by rw [PyData.depth]; omega
  unfold SeqAt.shaped
  rw [h3, decide_eq_true h4]
  rfl
theorem shaped_l0 : SeqAt.shaped (.list []) = true := shaped_lints []
theorem shaped_t0 : SeqAt.shaped (.tuple []) = true := shaped_tints []
theorem dp_ints {K : PySem.W.Frag} {H : Hp} : ∀ l : List Int, DpAll K H (ivs l) (l.map PyData.int)
  | [] => .nil
  | x :: l => .cons (.int x) (dp_ints l)
theorem eqv_l0 (ds : List PyData) : PyData.eqv (.list ds) (.list []) = ds.isEmpty := by
  cases ds <;> simp [PyData.eqv, PyData.eqvAll]
theorem eqv_t0 (ds : List PyData) : PyData.eqv (.tuple ds) (.tuple []) = ds.isEmpty := by
  cases ds <;> simp [PyData.eqv, PyData.eqvAll]
theorem empty_map {α β : Type} (f : α → β) (l : List α) : (l.map f).isEmpty = l.isEmpty := by cases l <;> rfl
theorem filter_empty {α : Type} (f : α → Bool) (l : List α) : (l.filter f).isEmpty = !l.any f := by
  rw [Bool.eq_iff_iff, List.isEmpty_iff, List.filter_eq_nil_iff, Bool.not_eq_true', List.any_eq_false]

def spLGroup : Sp := fun vs H Q _ => ∃ (a : Addr) (v : V) (n : Int) (arcs : List Arc) (g : Option (List Int)), vs = [.ref a, v] ∧ WebAt H a n arcs ∧ Web n arcs ∧ PartAt H v g ∧ (∀ S, g = some S → S.length ≤ 100) ∧ ∀ H', Ext H H' → Q (.bl (gB n arcs g)) H'
def spLParted : Sp := fun vs H Q _ => ∃ (a : Addr) (v : V) (n : Int) (arcs : List Arc) (g : Shape), vs = [.ref a, v] ∧ WebAt H a n arcs ∧ Web n arcs ∧ ValAt H v g ∧ (∀ gs, g = .tup gs → ∀ S, some S ∈ gs → S.length ≤ 100) ∧ ∀ H', Ext H H' → Q (.bl (pB n arcs g)) H'
def spAlike : Sp := fun vs H Q _ => ∃ x y : Bool, vs = [.bl x, .bl y] ∧ ∀ H', Ext H H' → Q (.bl (x == y)) H'
section
variable {P : Program} {w : World} {K : PySem.W.Frag} {mg : Str → Option Value} {base : Heap}
/-! ### _law_is_group -/
theorem scLGroup : FnScope ["_law_web_here", "_law_value", "_law_k", "_law_arc"] ["_law_web_here", "_law_value"] (defScope sLGroup) := ⟨rfl, rfl, rfl, by decide +kernel, rfl, by decide +kernel, by decide +kernel⟩
theorem ok_lgroup {f : Addr} {fd : FuncData} (F : Fun K "_law_is_group" "_law_is_group" sLGroup f fd) (T : Txt K mg) : FnOk P w K mg base CX0 1 f fd ["_law_web_here", "_law_value"] spLGroup := by
  refine F.ok scLGroup (fun vs H Q E h => ?_) (fun cdv A outer s H vs Q E hr h => ?_)
  · obtain ⟨a, v, n, arcs, g, rfl, _⟩ := h
    rfl
  · obtain ⟨a, v, n, arcs, g, rfl, hw, W, hg, h100, k⟩ := h
    refine ⟨_, pss_cons (ps_if (PW.pt (pw_or (pt_not (pt_val (pe_callB call_isi (by rfl) T.isi (by decide +kernel) (pa_cons (pv 1) (pa_cons (pe_bltn (v := .ty "tuple") (by rfl) T.tuple (by decide +kernel) rfl) pa_nil)))))
        (pw_or1 (pt_cmpR (op_eqD hr.units) (pv 1) (pe_tup pa_nil) (nomark _)))))
        (pss_one (ps_ret pe_bl)) pss_nil)
      (pss_cons (ps_for PassesOwn.never rfl (pi_range1 (by rfl) T.range (pa_cons (pe_callB call_len_seq (by rfl) T.len PySem.boot_len (pa_cons (pv 1) pa_nil)) pa_nil)) (pg_name (i := 2) scLGroup.nd rfl (Or.inl rfl))
        (pss_cons (ps_if (PW.pt (pw_or (pt_not (pt_val (pe_callB call_isi (by rfl) T.isi (by decide +kernel) (pa_cons (pe_ix ix_tup (pv 1) (pv 2) (fun _ _ => rfl)) (pa_cons (pe_bltn (v := .ty "int") (by rfl) T.int (by decide +kernel) rfl) pa_nil)))))
            (pw_or (pt_val (pe_callB call_isi (by rfl) T.isi (by decide +kernel) (pa_cons (pe_ix ix_tup (pv 1) (pv 2) (fun _ _ => rfl)) (pa_cons (pe_bltn (v := .ty "bool") (by rfl) T.bool (by decide +kernel) rfl) pa_nil))))
            (pw_or1 (pt_not (pt_chain op_le op_le pe_int (pe_ix ix_tup (pv 1) (pv 2) (fun _ _ => rfl)) (pe_ix ix_tup (pv 0) pe_int (fun _ _ => rfl))))))))
          (pss_one (ps_ret pe_bl)) pss_nil)
        (pss_one (ps_if (PW.pt (pw_and (pt_cmpR op_gt (pv 2) pe_int (nomark _)) (pw_and1 (pt_cmpR op_le (pe_ix ix_tup (pv 1) (pv 2) (fun _ _ => rfl)) (pe_ix ix_tup (pv 1) (pe_op op_sub (pv 2) pe_int) (fun _ _ => rfl)) (nomark _)))))
          (pss_one (ps_ret pe_bl)) pss_nil))))
      (pss_one (ps_ret (pe_cmpR (op_eqD hr.units) (pe_lc (own := [("_law_arc", 3)]) (g := gName 3) rfl scLGroup.nd (pi_tup (pe_ix ix_tup (pv 0) pe_int (fun _ _ => rfl))) (blkOk_by (own := [("_law_arc", 3)]) (N := ["_law_web_here", "_law_value", "_law_k", "_law_arc"]) (sc := defScope sLGroup) (by decide +kernel))
          (fun _ _ _ _ _ => pg_name (i := 3) scLGroup.nd rfl (Or.inl rfl))
          (fun _ _ _ _ _ => pts_one (PW.pt (pw_and (pt_cmpR (kIn K rfl) (pe_ix (kIxT K rfl) (pv 3) pe_int (fun _ _ => rfl)) (pv 1) (by rfl)) (pw_and1 (pt_cmpR (kNotIn K rfl) (pe_ix (kIxT K rfl) (pv 3) pe_int (fun _ _ => rfl)) (pv 1) (by rfl))))))
          (fun _ _ _ _ _ => pv 3)) (pe_lst pa_nil) (nomark _))))), ?_⟩
    obtain ⟨wb, rs, hwa, hrs, hp⟩ := hw.ex
    have lenA : rs.length = arcs.length := paired_len hp
    obtain ⟨ty, hty, hkit⟩ := part_ty (K := K) hg
    refine ⟨_, rfl, v, .ty "tuple", ty, .type "tuple", _, rfl, .ty "tuple", hty, hkit, _, rfl, ?_⟩
    cases hg with
    | @lst r ys hl =>
      refine iteT ?_
      exact k H (Ext.refl H)
    | @tup r S hS =>
      refine iteF ?_
      have hS100 := h100 S rfl
      refine ⟨_, rfl, by show 0 ≤ sizeLine; decide, fun p hp1 => ?_⟩
      have e1 : Ext H (upd H p (.tup [])) := Ext.new hp1
      refine ⟨_, _, .tup (SqT.of (e1.tup hS)) (dp_ints S), .tup (SqT.of upd_same) .nil, shaped_tints S, shaped_t0, _, rfl, ?_⟩
      rw [eqv_t0, empty_map]
      have val : gB n arcs (some S) = (!S.isEmpty && (S.all (inB n) && (ascB S && closedB arcs S))) := rfl
      cases he : S.isEmpty with
      | true =>
        refine iteT ?_
        have q := k _ e1
        rw [val, he] at q
        exact q
      | false =>
        refine iteF ?_
        rw [he, Bool.not_false, Bool.true_and] at val
        refine ⟨_, rfl, r, _, rfl, .inr (SqT.of (e1.tup hS)), _, rfl, ?_, ?_, ?_⟩
        · rw [List.length_map]; omega
        · rw [List.length_map]; omega
        have hn : (((ivs S).length : Nat) : Int).toNat = S.length := by rw [List.length_map]; omega
        rw [hn]
        refine for_range (fun i σ H' => ∃ x2 x3, σ = [some (.ref a), some (.ref r), x2, x3] ∧ Ext H H' ∧ (∀ (j : Nat) (x : Int), j < i → S[j]? = some x → inB n x = true) ∧ ∀ (j : Nat) (x y : Int), j + 1 < i → S[j]? = some x → S[j + 1]? = some y → x < y) ⟨_, _, rfl, e1, by intro j x h; omega, by intro j x y h; omega⟩ ?_ ?_
        · rintro i σ H' hi ⟨x2, x3, rfl, e, z1, z2⟩
          have hat : atI (ivs S) (0 + (i : Int)) = some (V.int S[i]) := by
            rw [show (0 + (i : Int)) = (i : Int) by omega]
            exact atI_nat (by simp [hi])
          refine ⟨_, rfl, _, rfl, r, _, _, V.int S[i], rfl, rfl, SqT.of (e.tup hS), hat, V.int S[i], .ty "int", .type "int", .type "int", true, rfl, .ty "int", .base (.int _), kit_ty (by decide +kernel), _, rfl, ?_⟩
          refine iteF ?_
          refine ⟨_, rfl, _, rfl, r, _, _, V.int S[i], rfl, rfl, SqT.of (e.tup hS), hat, V.int S[i], .ty "bool", .type "int", .type "bool", false, rfl, .ty "bool", .base (.int _), kit_ty (by decide +kernel), _, rfl, ?_⟩
          refine iteF ?_
          have no : ∀ H', Ext H H' → S.all (inB n) = false ∨ ascB S = false → Q (.bl false) H' := fun H' e h => by
            have q := k H' e
            rcases h with h | h
            · rw [val, h, Bool.false_and] at q
              exact q
            · rw [val, h, Bool.false_and, Bool.and_false] at q
              exact q
          have two : inB n S[i] = (decide (1 ≤ S[i]) && decide (S[i] ≤ n)) := rfl
          have bad : inB n S[i] = false → S.all (inB n) = false := fun hf => by
            rw [Bool.eq_false_iff]
            intro h
            rw [List.all_eq_true.mp h S[i] (List.getElem_mem hi)] at hf
            cases hf
          refine ⟨_, rfl, _, rfl, r, _, _, V.int S[i], rfl, rfl, SqT.of (e.tup hS), hat, _, _, rfl, rfl, _, rfl, ?_⟩
          refine ite2 (fun h1 => ?_) (fun h1 => ?_)
          · refine ⟨_, rfl, a, _, _, _, rfl, rfl, SqT.of (e.tup hwa), rfl, _, _, rfl, rfl, _, rfl, ?_⟩
            by_cases h2 : S[i] ≤ n
            · rw [decide_eq_true h2]
              refine iteF ?_
              have hin : inB n S[i] = true := by rw [two, h1, decide_eq_true h2]; rfl
              have z1' : ∀ (j : Nat) (x : Int), j < i + 1 → S[j]? = some x → inB n x = true := fun j x hj hx => by
                rcases Nat.lt_or_ge j i with h4 | h4
                · exact z1 j x h4 hx
                · have h5 : j = i := by omega
                  subst h5
                  rw [List.getElem?_eq_getElem hi] at hx
                  cases hx
                  exact hin
              refine ⟨_, rfl, _, _, rfl, rfl, _, rfl, ?_⟩
              by_cases h0 : i = 0
              · subst h0
                refine iteF ?_
                exact ⟨_, _, rfl, e, z1', by intro j x y h; omega⟩
              · rw [decide_eq_true (show (0 : Int) < 0 + (i : Int) by omega)]
                refine iteT ?_
                obtain ⟨j, rfl⟩ : ∃ j, i = j + 1 := ⟨i - 1, by omega⟩
                have hj : j < S.length := by omega
                have hat2 : atI (ivs S) (0 + ((j + 1 : Nat) : Int) - 1) = some (V.int S[j]) := by
                  rw [show (0 + ((j + 1 : Nat) : Int) - 1) = (j : Int) by omega]
                  exact atI_nat (by simp [hj])
                refine ⟨_, rfl, _, rfl, r, _, _, V.int S[j + 1], rfl, rfl, SqT.of (e.tup hS), hat, _, rfl, _, rfl, _, _, rfl, rfl, r, _, _, V.int S[j], rfl, rfl, SqT.of (e.tup hS), hat2, _, _, rfl, rfl, _, rfl, ?_⟩
                refine ite2 (fun h3 => ?_) (fun h3 => ?_)
                · refine no H' e (.inr ?_)
                  rw [Bool.eq_false_iff]
                  intro h
                  have := asc_iff.mp h j _ _ (List.getElem?_eq_getElem hj) (List.getElem?_eq_getElem hi)
                  have h3 := of_decide_eq_true h3
                  omega
                · refine ⟨_, _, rfl, e, z1', fun i x y hi' hx hy => ?_⟩
                  rcases Nat.lt_or_ge (i + 1) (j + 1) with h4 | h4
                  · exact z2 i x y h4 hx hy
                  · have h5 : i = j := by omega
                    subst h5
                    rw [List.getElem?_eq_getElem hj] at hx
                    rw [List.getElem?_eq_getElem hi] at hy
                    cases hx
                    cases hy
                    rw [decide_eq_true_eq] at h3
                    omega
            · rw [decide_eq_false h2]
              exact iteT (no H' e (.inl (bad (by rw [two, decide_eq_false h2, Bool.and_false]))))
          · refine ⟨_, rfl, ?_⟩
            refine iteT (no H' e (.inl (bad ?_)))
            rw [two, Bool.eq_false_iff.mpr h1, Bool.false_and]
        · rintro σ H' ⟨x2, x3, rfl, e, z1, z2⟩
          have hall : S.all (inB n) = true := List.all_eq_true.mpr fun x hx => by
            obtain ⟨j, hj, rfl⟩ := List.getElem_of_mem hx
            exact z1 j _ hj (List.getElem?_eq_getElem hj)
          have hasc : ascB S = true := asc_iff.mpr fun j x y hx hy => z2 j x y (List.getElem?_eq_some_iff.mp hy).1 hx hy
          rw [hall, hasc, Bool.true_and, Bool.true_and] at val
          refine ⟨_, rfl, a, _, _, _, rfl, rfl, SqT.of (e.tup hwa), rfl, wb, rfl, ⟨_, SqT.of (e.tup hrs)⟩, fun D hD => ?_⟩
          refine lc_tup (xs := rs.map V.ref) (fun i H2 => Ext H' H2 ∧ ∃ bs, H2 D = some (.lst (bs.map V.ref)) ∧ bs.length ≤ i ∧ Paired (ArcAt H2) bs ((arcs.take i).filter fun x => decide (x.2 ∈ S) && !decide (x.1 ∈ S))) ⟨Ext.new hD, [], upd_same, Nat.le_refl _, .nil⟩ (fun i H2 _ z => SqT.of ((e.trans z.1).tup hrs)) ?_ ?_
          · rintro i x H2 hx ⟨e2, bs, hb, hbl, pp⟩
            obtain ⟨r1, hr1, rfl⟩ := get_map hx
            obtain ⟨y, hy, hry⟩ := paired_at hp hr1
            have hi : i < arcs.length := (List.getElem?_eq_some_iff.mp hy).1
            have hlen := W.len
            have e3 := e.trans e2
            rw [take_filter hy]
            refine ⟨rfl, ?_⟩
            refine ⟨_, rfl, r1, _, _, _, rfl, rfl, SqT.of (e3.tup hry), rfl, _, rfl, r, _, rfl, .inr (SqT.of (e3.tup hS)), rfl, flat_ints _, _, rfl, ?_⟩
            rw [if_neg Bool.false_ne_true, inV_ints]
            by_cases h1 : y.2 ∈ S
            · rw [decide_eq_true h1]
              refine iteT ?_
              refine ⟨_, rfl, r1, _, _, _, rfl, rfl, SqT.of (e3.tup hry), rfl, _, rfl, r, _, rfl, .inr (SqT.of (e3.tup hS)), rfl, flat_ints _, _, rfl, ?_⟩
              rw [if_pos rfl, inV_ints]
              by_cases h2 : y.1 ∈ S
              · rw [decide_eq_true h2]
                refine iteF ⟨e2, bs, hb, by omega, ?_⟩
                rw [if_neg (by simp), List.append_nil]
                exact pp
              · rw [decide_eq_false h2]
                refine iteT ?_
                refine ⟨_, rfl, _, hb, by rw [List.length_map, sizeLine_eq]; omega, e2.mut hD, bs ++ [r1], ?_, by rw [List.length_append]; simp; omega, ?_⟩
                · rw [upd_same, List.map_append]
                  rfl
                · rw [if_pos (by simp)]
                  have em : Ext H2 (upd H2 D (.lst (bs.map V.ref ++ [V.ref r1]))) → True := fun _ => trivial
                  refine Paired.snoc (Paired.mapP pp fun b z hz => ?_) ?_
                  · show upd _ D _ b = _
                    rw [upd_ne (ne_of hz hb (by intro z; cases z))]
                    exact hz
                  · show upd _ D _ r1 = _
                    rw [upd_ne (ne_of (e3.tup hry) hb (by intro z; cases z))]
                    exact e3.tup hry
            · rw [decide_eq_false h1]
              refine iteF ⟨e2, bs, hb, by omega, ?_⟩
              rw [if_neg (by simp), List.append_nil]
              exact pp
          · rintro H2 ⟨e2, bs, hb, hbl, pp⟩
            rw [List.length_map, lenA, List.take_length] at pp
            refine ⟨by show 0 ≤ sizeLine; decide, fun l hl => ?_⟩
            have e3 : Ext H2 (upd H2 l (.lst [])) := Ext.new hl
            refine ⟨_, _, .lst (SqL.of (e3.lst hb)) (dp_arcs (Paired.mapP pp fun b z hz => e3.tup hz)), .lst (SqL.of upd_same) .nil, shaped_arcs _, shaped_l0, ?_⟩
            rw [eqv_l0, empty_map, filter_empty]
            have q := k _ (e.trans (e2.trans e3))
            rw [val] at q
            exact q
end
end Bel
set_option Elab.async false
set_option linter.all false
set_option maxRecDepth 100000
set_option maxHeartbeats 4000000
namespace Bel
open PySem PySem.Spec L2 GxR GxA BM
section
variable {P : Program} {w : World} {K : PySem.W.Frag} {mg : Str → Option Value} {base : Heap}
/-! ### _law_is_parted -/
theorem two_parts' {H : Hp} {xs : List V} {gs : List (Option (List Int))} (pp : Paired (PartAt H) xs gs) (h2 : xs.length = 2) :
    ∃ (v u : V) (g h : Option (List Int)), xs = [v, u] ∧ gs = [g, h] ∧ PartAt H v g ∧ PartAt H u h := by
  cases pp with
  | nil => cases h2
  | cons h1 t =>
    cases t with
    | nil => cases h2
    | cons h3 t =>
      cases t with
      | cons _ _ => simp at h2
      | nil => exact ⟨_, _, _, _, rfl, rfl, h1, h3⟩
theorem pB_two {n : Int} {arcs : List Arc} {g h : Option (List Int)} : pB n arcs (.tup [g, h]) = true → gB n arcs g = true ∧ gB n arcs h = true := by
  cases g with
  | none => intro e; cases h <;> cases e
  | some A =>
    cases h with
    | none => intro e; cases e
    | some B =>
      intro e
      have e : partedB n arcs A B = true := e
      unfold partedB at e
      rw [Bool.and_eq_true, Bool.and_eq_true] at e
      exact ⟨e.1, e.2.1⟩
theorem pB_len {n : Int} {arcs : List Arc} {gs : List (Option (List Int))} (h : gs.length ≠ 2) : pB n arcs (.tup gs) = false := by
  match gs, h with
  | [], h => rfl
  | [_], h => simp only [pB]
  | [_, _], h => exact absurd rfl h
  | _ :: _ :: _ :: _, h => simp only [pB]
theorem scLParted : FnScope ["_law_web_here", "_law_value", "_law_one"] ["_law_web_here", "_law_value"] (defScope sLParted) := ⟨rfl, rfl, rfl, by decide +kernel, rfl, by decide +kernel, by decide +kernel⟩
theorem ok_lparted {f : Addr} {fd : FuncData} (F : Fun K "_law_is_parted" "_law_is_parted" sLParted f fd) (T : Txt K mg)
    {f1 : Addr} {fd1 : FuncData} (G1 : FnOk P w K mg base CX0 1 f1 fd1 ["_law_web_here", "_law_value"] spLGroup) (c1 : Cal K mg "_law_is_group" ["_law_web_here", "_law_value"] f1 fd1) :
    FnOk P w K mg base CX0 2 f fd ["_law_web_here", "_law_value"] spLParted := by
  refine F.ok scLParted (fun vs H Q E h => ?_) (fun cdv A outer s H vs Q E hr h => ?_)
  · obtain ⟨a, v, n, arcs, g, rfl, _⟩ := h
    rfl
  · obtain ⟨a, v, n, arcs, g, rfl, hw, W, hg, h100, k⟩ := h
    refine ⟨_, pss_cons (ps_if (PW.pt (pw_or (pt_not (pt_val (pe_callB call_isi (by rfl) T.isi (by decide +kernel) (pa_cons (pv 1) (pa_cons (pe_bltn (v := .ty "tuple") (by rfl) T.tuple (by decide +kernel) rfl) pa_nil)))))
        (pw_or1 (pt_cmpR op_ne (pe_callB call_len_seq (by rfl) T.len PySem.boot_len (pa_cons (pv 1) pa_nil)) pe_int (nomark _)))))
        (pss_one (ps_ret pe_bl)) pss_nil)
      (pss_cons (ps_if (PW.pt (pw_or (pt_not (pt_val (pe_call G1 hr rfl c1.m c1.k c1.b .nil pass0 (pa_cons (pv 0) (pa_cons (pe_ix ix_tup (pv 1) pe_int (fun _ _ => rfl)) pa_nil)))))
          (pw_or1 (pt_not (pt_val (pe_call G1 hr rfl c1.m c1.k c1.b .nil pass0 (pa_cons (pv 0) (pa_cons (pe_ix ix_tup (pv 1) pe_int (fun _ _ => rfl)) pa_nil))))))))
        (pss_one (ps_ret pe_bl)) pss_nil)
      (pss_one (ps_ret (pe_cmpR (op_eqD hr.units) (pe_lc (own := [("_law_one", 2)]) (g := gName 2) rfl scLParted.nd (pi_tup (pe_ix ix_tup (pv 1) pe_int (fun _ _ => rfl))) (blkOk_by (own := [("_law_one", 2)]) (N := ["_law_web_here", "_law_value", "_law_one"]) (sc := defScope sLParted) (by decide +kernel))
          (fun _ _ _ _ _ => pg_name (i := 2) scLParted.nd rfl (Or.inl rfl))
          (fun _ _ _ _ _ => pts_one (pt_cmpR (kIn K rfl) (pv 2) (pe_ix (kIxT K rfl) (pv 1) pe_int (fun _ _ => rfl)) (by rfl)))
          (fun _ _ _ _ _ => pv 2)) (pe_lst pa_nil) (nomark _))))), ?_⟩
    obtain ⟨ty, hty, hkit⟩ := val_ty (K := K) hg
    refine ⟨_, rfl, v, .ty "tuple", ty, .type "tuple", _, rfl, .ty "tuple", hty, hkit, _, rfl, ?_⟩
    have no : ∀ H', Ext H H' → pB n arcs g = false → Q (.bl false) H' := fun H' e hp => by
      have := k H' e
      rwa [hp] at this
    cases hg with
    | non => exact iteT (no H (Ext.refl H) rfl)
    | int i => exact iteT (no H (Ext.refl H) rfl)
    | lst h => exact iteT (no H (Ext.refl H) rfl)
    | dct h => exact iteT (no H (Ext.refl H) rfl)
    | @tup r xs gs hx pp =>
      refine iteF ?_
      have hl := paired_len pp
      refine ⟨_, rfl, r, _, rfl, .inr (SqT.of hx), rfl, _, rfl, ?_⟩
      rw [dec_int]
      by_cases h2 : xs.length = 2
      · have h2' : ((((xs.length : Nat) : Int)) == 2) = true := by rw [h2]; rfl
        rw [h2']
        refine iteF ?_
        obtain ⟨v, u, g, h, rfl, rfl, hv, hu⟩ := two_parts' pp h2
        refine ⟨_, rfl, _, rfl, r, _, _, _, rfl, rfl, SqT.of hx, rfl, a, v, n, arcs, g, rfl, hw, W, hv, fun S hS => h100 _ rfl S (by rw [hS]; simp), fun H1 e1 => ?_⟩
        refine ⟨_, rfl, ?_⟩
        cases hgg : gB n arcs g with
        | false =>
          refine iteT (no H1 e1 ?_)
          rw [Bool.eq_false_iff]
          intro hh
          rw [(pB_two hh).1] at hgg
          cases hgg
        | true =>
          refine iteF ?_
          refine ⟨_, rfl, _, rfl, r, _, _, _, rfl, rfl, SqT.of (e1.tup hx), rfl, a, u, n, arcs, h, rfl, hw.ext e1, W, hu.ext e1, fun S hS => h100 _ rfl S (by rw [hS]; simp), fun H2 e2 => ?_⟩
          have e3 := e1.trans e2
          refine ⟨_, rfl, ?_⟩
          cases hgh : gB n arcs h with
          | false =>
            refine iteT (no H2 e3 ?_)
            rw [Bool.eq_false_iff]
            intro hh
            rw [(pB_two hh).2] at hgh
            cases hgh
          | true =>
            refine iteF ?_
            cases hv with
            | lst _ => cases hgg
            | @tup rA A hA =>
            cases hu with
            | lst _ => cases hgh
            | @tup rB B hB =>
            have hA100 : A.length ≤ 100 := h100 _ rfl A (by simp)
            have val : pB n arcs (.tup [some A, some B]) = !(A.any fun x => decide (x ∈ B)) := by
              have hgg : groupB n arcs A = true := hgg
              have hgh : groupB n arcs B = true := hgh
              show partedB n arcs A B = _
              unfold partedB apartB
              rw [hgg, hgh]
              rfl
            refine ⟨_, rfl, r, _, _, _, rfl, rfl, SqT.of (e3.tup hx), rfl, rA, rfl, ⟨_, SqT.of (e3.tup hA)⟩, fun D hD => ?_⟩
            refine lc_tup (xs := ivs A) (fun i H' => Ext H2 H' ∧ H' D = some (.lst (ivs ((A.take i).filter fun x => decide (x ∈ B))))) ⟨Ext.new hD, upd_same⟩ (fun i H' _ z => SqT.of ((e3.trans z.1).tup hA)) ?_ ?_
            · rintro i x H' hxi ⟨e, z⟩
              obtain ⟨y, hy, rfl⟩ := get_map hxi
              have e4 := e3.trans e
              rw [take_filter hy]
              refine ⟨rfl, ?_⟩
              refine ⟨_, rfl, _, rfl, r, _, _, _, rfl, rfl, SqT.of (e4.tup hx), rfl, rB, _, rfl, .inr (SqT.of (e4.tup hB)), rfl, flat_ints _, _, rfl, ?_⟩
              rw [if_neg Bool.false_ne_true, inV_ints]
              by_cases hm : y ∈ B
              · rw [decide_eq_true hm]
                refine iteT ?_
                have hsz : (ivs ((A.take i).filter fun x => decide (x ∈ B))).length < sizeLine := by
                  have h1 := List.length_filter_le (fun x => decide (x ∈ B)) (A.take i)
                  have h3 : (A.take i).length ≤ A.length := by rw [List.length_take]; omega
                  rw [List.length_map, sizeLine_eq]
                  omega
                refine ⟨_, rfl, _, z, hsz, e.mut hD, ?_⟩
                rw [upd_same, if_pos rfl]
                show some (HO.lst _) = some (HO.lst (ivs _))
                rw [show ivs (((A.take i).filter fun x => decide (x ∈ B)) ++ [y]) = _ from List.map_append ..]
                rfl
              · rw [decide_eq_false hm]
                refine iteF ⟨e, ?_⟩
                rw [if_neg Bool.false_ne_true, List.append_nil]
                exact z
            · rintro H' ⟨e, z⟩
              rw [List.length_map, List.take_length] at z
              refine ⟨by show 0 ≤ sizeLine; decide, fun l hl => ?_⟩
              have e5 : Ext H' (upd H' l (.lst [])) := Ext.new hl
              refine ⟨_, _, .lst (SqL.of (e5.lst z)) (dp_ints _), .lst (SqL.of upd_same) .nil, shaped_lints _, shaped_l0, ?_⟩
              rw [eqv_l0, empty_map, filter_empty]
              have q := k _ (e3.trans (e.trans e5))
              rw [val] at q
              exact q
      · have h2' : ((((xs.length : Nat) : Int)) == 2) = false := by
          rw [Bool.eq_false_iff]
          simp
          omega
        rw [h2']
        exact iteT (no H (Ext.refl H) (pB_len (by omega)))

/-! ### _law_alike -/
theorem scAlike : FnScope ["_law_found", "_law_due"] ["_law_found", "_law_due"] (defScope sAlike) := ⟨rfl, rfl, rfl, by decide +kernel, rfl, by decide +kernel, by decide +kernel⟩
theorem ok_alike {f : Addr} {fd : FuncData} (F : Fun K "_law_alike" "_law_alike" sAlike f fd) (T : Txt K mg) : FnOk P w K mg base CX0 1 f fd ["_law_found", "_law_due"] spAlike := by
  refine F.ok scAlike (fun vs H Q E h => ?_) (fun cdv A outer s H vs Q E hr h => ?_)
  · obtain ⟨x, y, rfl, _⟩ := h
    rfl
  · obtain ⟨x, y, rfl, k⟩ := h
    refine ⟨_, pss_cons (ps_if (pt_val (pe_callB call_isiT (by rfl) T.isi (by decide +kernel) (pa_cons (pv 1) (pa_cons (pe_tup (pa_cons (pe_bltn (v := .ty "tuple") (by rfl) T.tuple (by decide +kernel) rfl) (pa_cons (pe_bltn (v := .ty "list") (by rfl) T.list (by decide +kernel) rfl) pa_nil))) pa_nil))))
        pss_never pss_nil)
      (pss_cons (ps_if (PW.pt (pw_or (pt_cmpR op_isN (pv 1) pe_non (nomark _)) (pw_or1 (pt_val (pe_callB call_isi (by rfl) T.isi (by decide +kernel) (pa_cons (pv 1) (pa_cons (pe_bltn (v := .ty "str") (by rfl) T.str (by decide +kernel) rfl) pa_nil)))))))
        pss_never pss_nil)
      (pss_one (ps_ret (pe_and (pe_callB call_isi (by rfl) T.isi (by decide +kernel) (pa_cons (pv 0) (pa_cons (pe_bltn (v := .ty "int") (by rfl) T.int (by decide +kernel) rfl) pa_nil)))
        (pe_and (pe_cmpR op_eq (pe_callB call_isi (by rfl) T.isi (by decide +kernel) (pa_cons (pv 0) (pa_cons (pe_bltn (v := .ty "bool") (by rfl) T.bool (by decide +kernel) rfl) pa_nil)))
            (pe_callB call_isi (by rfl) T.isi (by decide +kernel) (pa_cons (pv 1) (pa_cons (pe_bltn (v := .ty "bool") (by rfl) T.bool (by decide +kernel) rfl) pa_nil))) (nomark _))
        (pe_one (pe_cmpR op_eq (pv 0) (pv 1) (nomark _)))))))), ?_⟩
    refine ⟨_, rfl, by show 2 ≤ sizeLine; decide, fun p hp => ?_⟩
    have e : Ext H (upd H p (.tup [.ty "tuple", .ty "list"])) := Ext.new hp
    refine ⟨.bl y, p, _, .type "bool", [.type "tuple", .type "list"], false, rfl, upd_same, .cons (.ty _) (.cons (.ty _) .nil), .base (.bl y), kitAny_cons (kit_ty (r := false) (by decide +kernel)) (fun _ => kitAny_cons (kit_ty (r := false) (by decide +kernel)) (fun _ => kitAny_nil) (fun h => nomatch h)) (fun h => nomatch h), _, rfl, ?_⟩
    refine iteF ?_
    refine ⟨_, rfl, rfl, _, rfl, ?_⟩
    rw [decide_eq_false (show ¬ (V.bl y = V.non) from fun h => nomatch h)]
    refine iteF ?_
    refine ⟨_, rfl, .bl y, .ty "str", .type "bool", .type "str", false, rfl, .ty "str", .base (.bl y), kit_ty (by decide +kernel), _, rfl, ?_⟩
    refine iteF ?_
    refine ⟨_, rfl, .bl x, .ty "int", .type "bool", .type "int", true, rfl, .ty "int", .base (.bl x), kit_ty (by decide +kernel), _, rfl, ?_⟩
    refine iteT ?_
    refine ⟨_, rfl, .bl x, .ty "bool", .type "bool", .type "bool", true, rfl, .ty "bool", .base (.bl x), kit_ty (by decide +kernel), ?_⟩
    refine ⟨_, rfl, .bl y, .ty "bool", .type "bool", .type "bool", true, rfl, .ty "bool", .base (.bl y), kit_ty (by decide +kernel), rfl, _, rfl, ?_⟩
    refine iteT ?_
    refine ⟨_, rfl, _, rfl, rfl, ?_⟩
    rw [dec_bl]
    exact k _ e
end
end Bel
set_option Elab.async false
set_option linter.all false
set_option maxRecDepth 100000
set_option maxHeartbeats 4000000
namespace Bel
open PySem PySem.Spec L2 GxR GxA BM

def spWeb (K : PySem.W.Frag) : Sp := fun vs H Q _ => ∃ (r sc : Addr) (ns : List Int), vs = [.ref r, .int 5] ∧ RowAt H r sc ∧ SqL K (off r H) sc (ivs ns) ∧
  ∀ a n arcs H', Ext (off r H) H' → WebAt H' a n arcs → Web n arcs → Q (.ref a) H'

/-- ahead of a turn -/
structure WI (H H' : Hp) (r sc l : Addr) (n : Int) (rs : List Addr) (arcs : List Arc) (i : Nat) : Prop where
  e : Ext (off r H) H'
  row : RowAt H' r sc
  hl : off r H' l = some (.lst (rs.map V.ref))
  pp : Paired (ArcAt (off r H')) rs arcs
  len : arcs.length ≤ i
  ok : ∀ a ∈ arcs, 1 ≤ a.1 ∧ a.1 ≤ n ∧ 1 ≤ a.2 ∧ a.2 ≤ n ∧ a.1 ≠ a.2
  nd : arcs.Nodup
theorem WI.go {H H' H2 : Hp} {r sc l : Addr} {n : Int} {rs : List Addr} {arcs : List Arc} {i : Nat} (I : WI H H' r sc l n rs arcs i) (e : Ext (off r H') H2) (row : RowAt H2 r sc) : WI H H2 r sc l n rs arcs i :=
  ⟨off_trans I.e e, row, (off_mono e).lst I.hl, Paired.mapP I.pp fun _ _ z => (off_mono e).tup z, I.len, I.ok, I.nd⟩
/-- something new is laid -/
theorem WI.new {H H' : Hp} {r sc l p : Addr} {n : Int} {rs : List Addr} {arcs : List Arc} {i : Nat} {o : HO} (I : WI H H' r sc l n rs arcs i) (hp : H' p = none) : WI H (upd H' p o) r sc l n rs arcs i := by
  obtain ⟨a, b, c, h, h0⟩ := id I.row
  have hr : r ≠ p := ne_of_none h hp
  refine I.go ((off_ext r H').trans (Ext.new hp)) ⟨a, b, c, ?_, h0⟩
  rw [upd_ne hr]
  exact h
theorem off_upd {H : Hp} {r p : Addr} {o : HO} (h : p ≠ r) : off r (upd H p o) p = some o := by rw [off_ne h, upd_same]
section
variable {P : Program} {w : World} {K : PySem.W.Frag} {mg : Str → Option Value} {base : Heap}
theorem scWeb : FnScope ["_law_row", "_law_most", "_law_size", "_law_arcs", "_law_turn", "_law_source", "_law_goal"] ["_law_row", "_law_most"] (defScope sWeb) := ⟨rfl, rfl, rfl, by decide +kernel, rfl, by decide +kernel, by decide +kernel⟩
theorem goal_ok {n s u : Int} (hn : 1 < n) (hn5 : n ≤ 5) (h1 : 1 ≤ s) (h2 : s ≤ n) (h3 : 0 ≤ u) (h4 : u < n - 1) : 1 ≤ 1 + (s + u) % n ∧ 1 + (s + u) % n ≤ n ∧ s ≠ 1 + (s + u) % n := by
  have : n = 2 ∨ n = 3 ∨ n = 4 ∨ n = 5 := by omega
  rcases this with rfl | rfl | rfl | rfl <;> omega
theorem ok_web {f : Addr} {fd : FuncData} (F : Fun K "_law_web" "_law_web" sWeb f fd) (T : Txt K mg)
    {f1 : Addr} {fd1 : FuncData} (G1 : FnOk P w K mg base CX0 1 f1 fd1 ["_law_row", "_law_many"] (spTaken K)) (c1 : Cal K mg "_law_taken" ["_law_row", "_law_many"] f1 fd1) :
    FnOk P w K mg base CX0 2 f fd ["_law_row", "_law_most"] (spWeb K) := by
  refine F.ok scWeb (fun vs H Q E h => ?_) (fun cdv A outer s H vs Q E hr h => ?_)
  · obtain ⟨r, sc, ns, rfl, _⟩ := h
    rfl
  · obtain ⟨r, sc, ns, rfl, hrow, hsc, k⟩ := h
    refine ⟨_, pss_cons (ps_par (i := 2) (j := 3) rfl scWeb.nd rfl rfl (by decide) rfl rfl
        (pa_cons (pe_op op_add pe_int (pe_call G1 hr rfl c1.m c1.k c1.b .nil pass0 (pa_cons (pv 0) (pa_cons (pv 1) pa_nil)))) (pa_cons (pe_lst pa_nil) pa_nil)) rfl)
      (pss_cons (ps_for PassesOwn.never rfl (pi_range1 (by rfl) T.range (pa_cons (pe_call G1 hr rfl c1.m c1.k c1.b .nil pass0 (pa_cons (pv 0) (pa_cons pe_int pa_nil))) pa_nil)) (pg_name (i := 4) scWeb.nd rfl (Or.inl rfl))
        (pss_one (ps_if (pt_cmpR op_gt (pv 2) pe_int (nomark _))
          (pss_cons (ps_set (i := 5) scWeb.nd rfl (Or.inl rfl) (pe_op op_add pe_int (pe_call G1 hr rfl c1.m c1.k c1.b .nil pass0 (pa_cons (pv 0) (pa_cons (pv 2) pa_nil)))))
          (pss_cons (ps_set (i := 6) scWeb.nd rfl (Or.inl rfl) (pe_op op_add pe_int (pe_op op_mod (pe_op op_add (pv 5) (pe_call G1 hr rfl c1.m c1.k c1.b .nil pass0 (pa_cons (pv 0) (pa_cons (pe_op op_sub (pv 2) pe_int) pa_nil)))) (pv 2))))
          (pss_one (ps_set (i := 3) scWeb.nd rfl (Or.inl rfl) (pe_op op_cat (pv 3) (pe_op op_rep (pe_lst (pa_cons (pe_tup (pa_cons (pv 5) (pa_cons (pv 6) pa_nil))) pa_nil))
            (pe_callTy call_int1 (by rfl) T.int (by decide +kernel) (pa_cons (pe_cmpR (op_notInD (hu65 hr)) (pe_tup (pa_cons (pv 5) (pa_cons (pv 6) pa_nil))) (pv 3) (by rfl)) pa_nil)))))))) pss_nil)))
      (pss_one (ps_ret (pe_tup (pa_cons (pv 2) (pa_cons (pe_callTy call_tuple_of (by rfl) T.tuple (by decide +kernel) (pa_cons (pv 3) pa_nil)) pa_nil)))))), ?_⟩
    refine ⟨_, rfl, _, rfl, r, sc, 5, ns, rfl, hrow, hsc, ⟨by decide, by decide⟩, fun q H1 hq e1 row1 => ?_⟩
    refine ⟨_, _, rfl, rfl, by show 0 ≤ sizeLine; decide, fun l hl => ?_⟩
    have hlr : l ≠ r := by
      obtain ⟨_, _, _, h, _⟩ := row1
      exact (ne_of_none h hl).symm
    have I0 : WI H (upd H1 l (.lst [])) r sc l (1 + q) [] [] 0 := by
      obtain ⟨a, b, c, h, h0⟩ := id row1
      refine ⟨e1.trans (Ext.new hl), ⟨a, b, c, by rw [upd_ne hlr.symm]; exact h, h0⟩, off_upd hlr, .nil, Nat.le_refl _, by simp, List.nodup_nil⟩
    refine ⟨_, _, rfl, ?_⟩
    have sc2 : ∀ {H'}, Ext (off r H) H' → SqL K (off r H') sc (ivs ns) := fun e => (off_mono e).seq hsc
    refine ⟨_, rfl, r, sc, 11, ns, rfl, I0.row, sc2 I0.e, ⟨by decide, by decide⟩, fun t H2 ht e2 row2 => ?_⟩
    have I1 := I0.go e2 row2
    refine ⟨t, rfl, by omega, by omega, ?_⟩
    refine for_range (fun i σ H' => ∃ l rs arcs x4 x5 x6, σ = [some (.ref r), some (.int 5), some (.int (1 + q)), some (.ref l), x4, x5, x6] ∧ WI H H' r sc l (1 + q) rs arcs i) ⟨l, [], [], _, _, _, rfl, I1⟩ ?_ ?_
    · rintro i σ H3 hi ⟨l, rs, arcs, x4, x5, x6, rfl, I⟩
      refine ⟨_, rfl, _, _, rfl, rfl, _, rfl, ?_⟩
      refine ite2 (fun h1 => ?_) (fun h1 => ?_)
      · have h1 := of_decide_eq_true h1
        refine ⟨_, rfl, _, rfl, r, sc, 1 + q, ns, rfl, I.row, sc2 I.e, ⟨by omega, by omega⟩, fun s H4 hs e4 row4 => ?_⟩
        have I4 := I.go e4 row4
        refine ⟨_, _, rfl, rfl, ?_⟩
        refine ⟨_, rfl, _, rfl, _, rfl, _, _, rfl, rfl, r, sc, 1 + q - 1, ns, rfl, I4.row, sc2 I4.e, ⟨by omega, by omega⟩, fun u H5 hu e5 row5 => ?_⟩
        have I5 := I4.go e5 row5
        obtain ⟨g1, g2, g3⟩ := goal_ok (n := 1 + q) (s := 1 + s) (u := u) (by omega) (by omega) (by omega) (by omega) hu.1 (by omega)
        refine ⟨_, _, rfl, rfl, _, rfl, _, _, rfl, rfl, (by show (0 : Int) < 1 + q; omega), _, _, rfl, rfl, ?_⟩
        refine ⟨_, rfl, _, rfl, _, rfl, by show 2 ≤ sizeLine; decide, ?_⟩
        dsimp only
        have g4 : 1 ≤ 1 + s ∧ 1 + s ≤ 1 + q := by omega
        generalize 1 + s = so at g1 g2 g3 g4 ⊢
        generalize 1 + (so + u) % (1 + q) = go at g1 g2 g3 ⊢
        refine fun p1 hp1 => ⟨by show 1 ≤ sizeLine; decide, fun l1 hl1 => ?_⟩
        have I6 := I5.new (o := .tup [.int so, .int go]) hp1
        have I7 := I6.new (o := .lst [.ref p1]) hl1
        refine ⟨_, rfl, _, rfl, by show 2 ≤ sizeLine; decide, fun p2 hp2 => ?_⟩
        have I8 := I7.new (o := .tup [.int so, .int go]) hp2
        have lp : l1 ≠ p2 := ne_of_none upd_same hp2
        have pl : p1 ≠ l1 := ne_of_none upd_same hl1
        have h_l1 : (upd (upd (upd H5 p1 (.tup [.int so, .int go])) l1 (.lst [.ref p1])) p2 (.tup [.int so, .int go])) l1 = some (.lst [.ref p1]) := by rw [upd_ne lp, upd_same]
        have h_p1 : (upd (upd (upd H5 p1 (.tup [.int so, .int go])) l1 (.lst [.ref p1])) p2 (.tup [.int so, .int go])) p1 = some (.tup [.int so, .int go]) := by
          have h1 : (upd (upd H5 p1 (.tup [.int so, .int go])) l1 (.lst [.ref p1])) p1 = some (.tup [.int so, .int go]) := by rw [upd_ne pl, upd_same]
          rw [upd_ne (ne_of_none h1 hp2), h1]
        have h_p2 : (upd (upd (upd H5 p1 (.tup [.int so, .int go])) l1 (.lst [.ref p1])) p2 (.tup [.int so, .int go])) p2 = some (.tup [.int so, .int go]) := upd_same
        generalize (upd (upd (upd H5 p1 (.tup [.int so, .int go])) l1 (.lst [.ref p1])) p2 (.tup [.int so, .int go])) = H8 at I8 h_l1 h_p1 h_p2 ⊢
        have hl8 := (off_ext r H8).lst I8.hl
        refine ⟨_, rfl, dArc (so, go), arcs.map dArc, dp_arc h_p2, .lst (SqL.of hl8) (dp_arcs (Paired.mapP I8.pp fun _ _ z => (off_ext r H8).tup z)), shaped_arc _, shaped_arcs _, .inr ⟨_, rfl, ?_⟩⟩
        rw [any_arc]
        have p1r : p1 ≠ r := by
          obtain ⟨_, _, _, h, _⟩ := I8.row
          exact ne_of h_p1 h (by intro z; cases z)
        have rl : rs.length = arcs.length := paired_len I8.pp
        have al := I.len
        by_cases hm : (so, go) ∈ arcs
        · rw [decide_eq_true hm]
          refine ⟨l1, _, _, rfl, rfl, h_l1, by decide, by decide, by show 1 * 0 ≤ sizeLine; decide, fun p3 hp3 => ?_⟩
          have I9 := I8.new (o := .lst (List.replicate (0 : Int).toNat [V.ref p1]).flatten) hp3
          refine ⟨l, p3, _, _, rfl, rfl, (off_ext r _).lst I9.hl, upd_same, by show (rs.map V.ref).length + 0 ≤ sizeLine; rw [List.length_map, sizeLine_eq]; omega, fun p4 hp4 => ?_⟩
          have IA := I9.new (o := .lst (rs.map V.ref ++ (List.replicate (0 : Int).toNat [V.ref p1]).flatten)) hp4
          refine ⟨p4, rs, arcs, _, _, _, rfl, IA.e, IA.row, ?_, IA.pp, by have := IA.len; omega, IA.ok, IA.nd⟩
          have : p4 ≠ r := by
            obtain ⟨_, _, _, h, _⟩ := I9.row
            exact (ne_of_none h hp4).symm
          show off r (upd _ p4 _) p4 = _
          rw [off_upd this]
          show some (HO.lst (rs.map V.ref ++ [])) = _
          rw [List.append_nil]
        · rw [decide_eq_false hm]
          refine ⟨l1, _, _, rfl, rfl, h_l1, by decide, by decide, by show 1 * 1 ≤ sizeLine; decide, fun p3 hp3 => ?_⟩
          have I9 := I8.new (o := .lst (List.replicate (1 : Int).toNat [V.ref p1]).flatten) hp3
          refine ⟨l, p3, _, _, rfl, rfl, (off_ext r _).lst I9.hl, upd_same, by show (rs.map V.ref).length + 1 ≤ sizeLine; rw [List.length_map, sizeLine_eq]; omega, fun p4 hp4 => ?_⟩
          have IA := I9.new (o := .lst (rs.map V.ref ++ (List.replicate (1 : Int).toNat [V.ref p1]).flatten)) hp4
          have p4r : p4 ≠ r := by
            obtain ⟨_, _, _, h, _⟩ := I9.row
            exact (ne_of_none h hp4).symm
          have h_p1' : off r (upd (upd H8 p3 (.lst (List.replicate (1 : Int).toNat [V.ref p1]).flatten)) p4 (.lst (rs.map V.ref ++ (List.replicate (1 : Int).toNat [V.ref p1]).flatten))) p1 = some (.tup [.int so, .int go]) := by
            rw [off_ne p1r]
            exact (((Ext.new hp3).trans (Ext.new hp4)).tup h_p1)
          refine ⟨p4, rs ++ [p1], arcs ++ [(so, go)], _, _, _, rfl, IA.e, IA.row, ?_, Paired.snoc IA.pp h_p1', by have := IA.len; rw [List.length_append]; simp; omega, ?_, ?_⟩
          · show off r (upd _ p4 _) p4 = _
            rw [off_upd p4r, List.map_append]
            rfl
          · intro a ha
            rcases List.mem_append.mp ha with ha | ha
            · exact IA.ok a ha
            · rw [List.mem_singleton.mp ha]
              exact ⟨g4.1, g4.2, by show 1 ≤ go; omega, by show go ≤ _; omega, g3⟩
          · exact List.nodup_append.mpr ⟨IA.nd, by simp, fun x hx z hz e => hm (by rw [← List.mem_singleton.mp hz, ← e]; exact hx)⟩
      · exact ⟨l, rs, arcs, _, _, _, rfl, I.e, I.row, I.hl, I.pp, by have := I.len; omega, I.ok, I.nd⟩
    · rintro σ H3 ⟨l, rs, arcs, x4, x5, x6, rfl, I⟩
      have hl3 := (off_ext r H3).lst I.hl
      have rl : rs.length = arcs.length := paired_len I.pp
      have al := I.len
      refine ⟨_, rfl, _, rfl, l, _, rfl, .inl ⟨SqL.of hl3, fun b hb => ⟨by show 2 ≤ sizeLine; decide, fun a ha => ?_⟩⟩⟩
      have IB := (I.new (o := .tup (rs.map V.ref)) hb).new (o := .tup [.int (1 + q), .ref b]) ha
      refine k a (1 + q) arcs _ IB.e ⟨b, rs, upd_same, ?_, Paired.mapP IB.pp fun _ _ z => (off_ext r _).tup z⟩ ⟨by omega, by omega, by omega, IB.ok, IB.nd⟩
      rw [upd_ne (ne_of_none upd_same ha)]
      exact upd_same
end
end Bel
set_option Elab.async false
set_option linter.all false
set_option maxRecDepth 100000
set_option maxHeartbeats 4000000
namespace Bel
open PySem PySem.Spec L2 GxR GxA BM

/-! ### the law, stage by stage -/
def Has (P : Program) (w : World) (K : PySem.W.Frag) (mg : Str → Option Value) (base : Heap) (k : Nat) (x : Str) (ps : List Str) (sp : Sp) : Prop := ∃ f fd, FnOk P w K mg base CX0 k f fd ps sp ∧ Cal K mg x ps f fd
structure Callees (P : Program) (w : World) (K : PySem.W.Frag) (mg : Str → Option Value) (base : Heap) (TT : List Addr) : Prop where
  T : Txt K mg
  web : Has P w K mg base 2 "_law_web" ["_law_row", "_law_most"] (spWeb K)
  people : Has P w K mg base 1 "_law_people" ["_law_web_here"] spPeople
  heard : Has P w K mg base 1 "_law_heard" ["_law_web_here", "_law_person"] spHeard
  parted : Has P w K mg base 5 "parted" ["web"] (spParted TT)
  winners : Has P w K mg base 5 "winners" ["web"] (spWinners TT)
  isp : Has P w K mg base 2 "_law_is_parted" ["_law_web_here", "_law_value"] spLParted
  alike : Has P w K mg base 1 "_law_alike" ["_law_found", "_law_due"] spAlike
  shows : Has P w K mg base 5 "shows_parted" ["web", "value"] (spShows TT)
  over : Has P w K mg base 1 "_law_taken_over" ["_law_web_here", "_law_some", "_law_index"] spOver
  least : Has P w K mg base 5 "least_left" ["web"] (spLeast TT)
abbrev LN : List Str := ["_law_script", "_law_row", "_law_web_here", "_law_person", "_law_none", "_law_found", "_law_sets", "_law_some", "_law_base", "_law_values", "_law_value", "_law_due", "_law_rows", "_law_known", "_law_more", "_law_here", "_law_index", "_law_there"]
theorem scLaw : FnScope LN ["_law_script"] (defScope sLaw) := ⟨rfl, rfl, rfl, by decide +kernel, rfl, by decide +kernel, by decide +kernel⟩
abbrev XL (P : Program) (w : World) (K : PySem.W.Frag) (mg : Str → Option Value) (base : Heap) (f : Addr) (cdv : Value) (A : Around) (outer : List Env) (s : Shared) (H : Hp) (E : XK) : Cx := (cxOf CX0 P w K mg base LN "law" (defScope sLaw) f cdv A outer s H E).nox
def lst (k : Nat) : Stmt := (defBody sLaw).getD k (.Pass ⟨0, 0, 0, 0⟩)
def Stage (X : Cx) (st : Stmt) (Pre Post : L2.St → Hp → Prop) : Prop := ∃ t, PS X st t ∧ ∀ D σ H, Pre σ H → (∀ σ' H', Post σ' H' → D.nx σ' H') → t D σ H
def Last (X : Cx) (st : Stmt) (Pre : L2.St → Hp → Prop) (R : V → Prop) : Prop := ∃ t, PS X st t ∧ ∀ D σ H, Pre σ H → (∀ v H', R v → D.rt v H') → t D σ H
theorem st_ne {σ : L2.St} {i j : Nat} {x y : Option V} (h : i ≠ j) (e : σ[j]? = some x) : (σ.set i y)[j]? = some x := by rw [List.getElem?_set_ne h]; exact e
theorem st_eq {σ : L2.St} {i : Nat} {y : Option V} (h : i < σ.length) : (σ.set i y)[i]? = some y := List.getElem?_set_self h

/-- the web stands in slot 2 -/
structure SW (TT : List Addr) (a : Addr) (n : Int) (arcs : List Arc) (σ : L2.St) (H : Hp) : Prop where
  len : σ.length = 18
  s2 : σ[2]? = some (some (.ref a))
  web : WebAt H a n arcs
  W : Web n arcs
  tabs : Tabs TT H
theorem SW.ext {TT : List Addr} {a : Addr} {n : Int} {arcs : List Arc} {σ : L2.St} {H H' : Hp} (S : SW TT a n arcs σ H) (e : Ext H H') : SW TT a n arcs σ H' := ⟨S.len, S.s2, S.web.ext e, S.W, e.tabs S.tabs⟩
theorem SW.set {TT : List Addr} {a : Addr} {n : Int} {arcs : List Arc} {σ : L2.St} {H : Hp} (S : SW TT a n arcs σ H) {i : Nat} {y : Option V} (h : i ≠ 2) : SW TT a n arcs (σ.set i y) H := ⟨by rw [List.length_set]; exact S.len, st_ne h S.s2, S.web, S.W, S.tabs⟩

section
variable {P : Program} {w : World} {K : PySem.W.Frag} {mg : Str → Option Value} {base : Heap} {f : Addr} {cdv : Value} {A : Around} {outer : List Env} {s : Shared} {H0 : Hp} {E : XK} {TT : List Addr}

/-! #### the row and the web -/
theorem st0 (C : Callees P w K mg base TT) : Stage (XL P w K mg base f cdv A outer s H0 E) (lst 0)
    (fun σ H => ∃ sc ns, σ = start LN [V.ref sc] ∧ SqL K H sc (ivs ns) ∧ Tabs TT H)
    (fun σ H => ∃ sc ns r H1, σ.length = 18 ∧ σ[1]? = some (some (.ref r)) ∧ H1 r = none ∧ H = upd H1 r (.lst [.ref sc, .int 0, .int 8019, .int 0]) ∧ SqL K H1 sc (ivs ns) ∧ Tabs TT H1) := by
  refine ⟨_, ps_set (i := 1) scLaw.nd rfl (Or.inl rfl) (pe_lst (pa_cons (pv 0) (pa_cons pe_int (pa_cons pe_int (pa_cons pe_int pa_nil))))), ?_⟩
  rintro D σ H ⟨sc, ns, rfl, hs, hT⟩ k
  refine ⟨_, rfl, by show 4 ≤ sizeLine; decide, fun r hr => ?_⟩
  exact k _ _ ⟨sc, ns, r, H, rfl, rfl, hr, rfl, hs, hT⟩
theorem st1 (hr : Room 5 (XL P w K mg base f cdv A outer s H0 E).A) (C : Callees P w K mg base TT) : Stage (XL P w K mg base f cdv A outer s H0 E) (lst 1)
    (fun σ H => ∃ sc ns r H1, σ.length = 18 ∧ σ[1]? = some (some (.ref r)) ∧ H1 r = none ∧ H = upd H1 r (.lst [.ref sc, .int 0, .int 8019, .int 0]) ∧ SqL K H1 sc (ivs ns) ∧ Tabs TT H1)
    (fun σ H => ∃ a n arcs, SW TT a n arcs σ H) := by
  obtain ⟨f1, fd1, G1, c1⟩ := C.web
  refine ⟨_, ps_set (i := 2) scLaw.nd rfl (Or.inr rfl) (pe_call G1 (hr.mono (by decide)) rfl c1.m c1.k c1.b .nil pass0 (pa_cons (pv 1) (pa_cons pe_int pa_nil))), ?_⟩
  rintro D σ H ⟨sc, ns, r, H1, hlen, s1, hr0, rfl, hs, hT⟩ k
  have e0 : Ext H1 (off r (upd H1 r (.lst [.ref sc, .int 0, .int 8019, .int 0]))) := .of fun b o h => by
    have hb : b ≠ r := ne_of_none h hr0
    rw [off_ne hb, upd_ne hb]
    exact h
  refine ⟨_, s1, r, sc, ns, rfl, ⟨0, 8019, 0, upd_same, Int.le_refl _⟩, e0.seq hs, fun a n arcs H' e hw W => ?_⟩
  have e1 := e0.trans e
  exact k _ _ ⟨a, n, arcs, by rw [List.length_set]; exact hlen, st_eq (by omega), hw, W, e1.tabs hT⟩

/-! #### none, by the law's own count -/
theorem st2 (hr : Room 5 (XL P w K mg base f cdv A outer s H0 E).A) (C : Callees P w K mg base TT) {a : Addr} {n : Int} {arcs : List Arc} : Stage (XL P w K mg base f cdv A outer s H0 E) (lst 2)
    (fun σ H => SW TT a n arcs σ H) (fun σ H => SW TT a n arcs σ H ∧ σ[4]? = some (some (.bl (noneB n arcs)))) := by
  obtain ⟨f1, fd1, G1, c1⟩ := C.people
  obtain ⟨f2, fd2, G2, c2⟩ := C.heard
  have T := C.T
  refine ⟨_, ps_set (i := 4) scLaw.nd rfl (Or.inl rfl) (pe_cmpR (op_eqD hr.units) (pe_lc (own := [("_law_person", 3)]) (g := gName 3) rfl scLaw.nd (pi_tup (pe_call G1 (hr.mono (by decide)) rfl c1.m c1.k c1.b .nil pass0 (pa_cons (pv 2) pa_nil))) (blkOk_by (own := [("_law_person", 3)]) (N := LN) (sc := defScope sLaw) (by decide +kernel))
      (fun _ _ _ _ _ => pg_name (i := 3) scLaw.nd rfl (Or.inl rfl))
      (fun _ _ _ _ _ => pts_one (pt_cmpR op_eq (pe_callB (kLen K rfl) (by rfl) T.len PySem.boot_len (pa_cons (pe_call G2 (hr.mono (by decide)) rfl c2.m c2.k c2.b .nil pass0 (pa_cons (pv 2) (pa_cons (pv 3) pa_nil))) pa_nil)) (pe_ix (kIxT K rfl) (pv 2) pe_int (fun _ _ => rfl)) (nomark _)))
      (fun _ _ _ _ _ => pv 3)) (pe_lst pa_nil) (nomark _)), ?_⟩
  rintro D σ H S k
  have hl3 : 3 < (σ.set 3 none).length := by rw [List.length_set, S.len]; decide
  refine ⟨_, S.s2, a, n, arcs, rfl, S.web, S.W, fun q H1 e1 hq => ?_⟩
  refine ⟨q, rfl, ⟨_, SqT.of hq⟩, fun D hD => ?_⟩
  refine lc_tup (xs := ivs (people n)) (fun i H' => Ext H1 H' ∧ H' D = some (.lst (ivs (((people n).take i).filter (winB n arcs))))) ⟨Ext.new hD, upd_same⟩ (fun i H' _ z => SqT.of (z.1.tup hq)) ?_ ?_
  · intro i x H' hx z
    obtain ⟨y, hy, rfl⟩ := get_map hx
    have hyr := mem_people.mp (List.mem_of_getElem? hy)
    obtain ⟨e, z⟩ := z
    have s2' : ((wipe σ (List.map (fun x : Str × Nat => x.2) [("_law_person", 3)])).set 3 (some (V.int y)))[2]? = some (some (.ref a)) := st_ne (by decide) (st_ne (by decide) S.s2)
    have s3' : ((wipe σ (List.map (fun x : Str × Nat => x.2) [("_law_person", 3)])).set 3 (some (V.int y)))[3]? = some (some (.int y)) := st_eq hl3
    refine ⟨by show ((σ.set 3 none).set 3 _).set 3 none = σ.set 3 none; rw [List.set_set, List.set_set], ?_⟩
    refine ⟨_, s2', _, s3', a, n, arcs, y, rfl, S.web.ext (e1.trans e), S.W, hyr, fun l H2 ys e2 hl hlen => ?_⟩
    have e3 := e.trans e2
    obtain ⟨wb, rs, hwa, _, _⟩ := (S.web.ext (e1.trans e3)).ex
    refine ⟨l, _, rfl, .inl (SqL.of hl), _, s2', a, _, _, _, rfl, rfl, SqT.of hwa, rfl, rfl, _, rfl, ?_⟩
    rw [dec_int, List.length_map, hlen]
    have hb : (((hear n arcs y).length : Int) == n) = winB n arcs y := by
      unfold winB
      rw [Bool.eq_iff_iff]
      simp
    rw [hb, take_filter hy]
    cases hwb : winB n arcs y with
    | true =>
      refine iteT ?_
      refine ⟨_, s3', _, e2.lst z, filt_len _ i S.W.hi, e3.mut hD, ?_⟩
      rw [upd_same, if_pos rfl]
      show some (HO.lst _) = some (HO.lst (ivs _))
      rw [show ivs (((people n).take i).filter (winB n arcs) ++ [y]) = _ from List.map_append ..]
      rfl
    | false =>
      refine iteF ⟨e3, ?_⟩
      rw [if_neg Bool.false_ne_true, List.append_nil]
      exact e2.lst z
  · rintro H' ⟨e, z⟩
    rw [List.length_map, List.take_length] at z
    refine ⟨by show 0 ≤ sizeLine; decide, fun l hl => ?_⟩
    have e5 : Ext H' (upd H' l (.lst [])) := Ext.new hl
    refine ⟨_, _, .lst (SqL.of (e5.lst z)) (dp_ints _), .lst (SqL.of upd_same) .nil, shaped_lints _, shaped_l0, ?_⟩
    rw [eqv_l0, empty_map]
    exact k _ _ ⟨(S.ext (e1.trans (e.trans e5))).set (by decide), st_eq (by rw [S.len]; decide)⟩

/-! #### what parted says -/
def FoundAt (H : Hp) (v : V) (n : Int) (arcs : List Arc) : Prop := (v = .non ∧ (sprL n arcs).length = 1) ∨ ((sprL n arcs).length ≠ 1 ∧ ∃ q r s A B, v = .ref q ∧ H q = some (.tup [.ref r, .ref s]) ∧ TupAt H r A ∧ TupAt H s B ∧ A ∈ sprL n arcs ∧ B ∈ sprL n arcs ∧ A ≠ B)
theorem FoundAt.ext {H H' : Hp} {v : V} {n : Int} {arcs : List Arc} (h : FoundAt H v n arcs) (e : Ext H H') : FoundAt H' v n arcs := by
  rcases h with h | ⟨h0, q, r, s, A, B, h1, h2, h3, h4, h5⟩
  · exact .inl h
  · exact .inr ⟨h0, q, r, s, A, B, h1, e.tup h2, e.tup h3, e.tup h4, h5⟩
theorem st3 (hr : Room 5 (XL P w K mg base f cdv A outer s H0 E).A) (C : Callees P w K mg base TT) {a : Addr} {n : Int} {arcs : List Arc} : Stage (XL P w K mg base f cdv A outer s H0 E) (lst 3)
    (fun σ H => SW TT a n arcs σ H ∧ σ[4]? = some (some (.bl (noneB n arcs)))) (fun σ H => SW TT a n arcs σ H ∧ σ[4]? = some (some (.bl (noneB n arcs))) ∧ ∃ v, σ[5]? = some (some v) ∧ FoundAt H v n arcs) := by
  obtain ⟨f1, fd1, G1, c1⟩ := C.parted
  refine ⟨_, ps_set (i := 5) scLaw.nd rfl (Or.inl rfl) (pe_call G1 hr rfl c1.m c1.k c1.b .nil pass0 (pa_cons (pv 2) pa_nil)), ?_⟩
  rintro D σ H ⟨S, s4⟩ k
  have l5 : 5 < σ.length := by rw [S.len]; decide
  refine ⟨_, S.s2, a, n, arcs, rfl, S.web, S.W, S.tabs, fun H1 e1 h1 => ?_, fun H1 q r s A B e1 h0 h1 h2 h3 h4 h5 h6 => ?_⟩
  · exact k _ _ ⟨(S.ext e1).set (by decide), st_ne (by decide) s4, _, st_eq l5, .inl ⟨rfl, h1⟩⟩
  · exact k _ _ ⟨(S.ext e1).set (by decide), st_ne (by decide) s4, _, st_eq l5, .inr ⟨h0, q, r, s, A, B, rfl, h1, h2, h3, h4, h5, h6⟩⟩

/-! #### winners and parted agree -/
abbrev S4 (TT : List Addr) (a : Addr) (n : Int) (arcs : List Arc) (v : V) (σ : L2.St) (H : Hp) : Prop := SW TT a n arcs σ H ∧ σ[4]? = some (some (.bl (noneB n arcs))) ∧ σ[5]? = some (some v) ∧ FoundAt H v n arcs
theorem S4.ext {TT : List Addr} {a : Addr} {n : Int} {arcs : List Arc} {v : V} {σ : L2.St} {H H' : Hp} (S : S4 TT a n arcs v σ H) (e : Ext H H') : S4 TT a n arcs v σ H' := ⟨S.1.ext e, S.2.1, S.2.2.1, S.2.2.2.ext e⟩
theorem S4.set {TT : List Addr} {a : Addr} {n : Int} {arcs : List Arc} {v : V} {σ : L2.St} {H : Hp} (S : S4 TT a n arcs v σ H) {i : Nat} {y : Option V} (h2 : i ≠ 2) (h4 : i ≠ 4) (h5 : i ≠ 5) : S4 TT a n arcs v (σ.set i y) H := ⟨S.1.set h2, st_ne h4 S.2.1, st_ne h5 S.2.2.1, S.2.2.2⟩
theorem spr_small {n : Int} {arcs : List Arc} {S : List Int} (W : Web n arcs) (h : S ∈ sprL n arcs) : S.length ≤ 5 := by
  obtain ⟨p, hp, _, rfl⟩ := mem_spr.mp h
  have h1 : (src n arcs p).length ≤ (people n).length := List.length_filter_le _ _
  rw [len_people] at h1
  have := W.hi
  omega
theorem st4 (hr : Room 5 (XL P w K mg base f cdv A outer s H0 E).A) (C : Callees P w K mg base TT) {a : Addr} {n : Int} {arcs : List Arc} : Stage (XL P w K mg base f cdv A outer s H0 E) (lst 4)
    (fun σ H => SW TT a n arcs σ H ∧ σ[4]? = some (some (.bl (noneB n arcs))) ∧ ∃ v, σ[5]? = some (some v) ∧ FoundAt H v n arcs) (fun σ H => ∃ v, S4 TT a n arcs v σ H) := by
  obtain ⟨f1, fd1, G1, c1⟩ := C.winners
  obtain ⟨f2, fd2, G2, c2⟩ := C.isp
  refine ⟨_, ps_if (PW.pt (pw_or (pt_cmpR op_ne (pe_cmpR (op_eqD hr.units) (pe_call G1 hr rfl c1.m c1.k c1.b .nil pass0 (pa_cons (pv 2) pa_nil)) (pe_tup pa_nil) (nomark _)) (pv 4) (nomark _))
      (pw_or (pt_cmpR op_eq (pe_cmpR op_isN (pv 5) pe_non (nomark _)) (pv 4) (nomark _))
      (pw_or1 (PW.pt (pw_and (pt_cmpR op_notN (pv 5) pe_non (nomark _)) (pw_and1 (pt_not (pt_val (pe_call G2 (hr.mono (by decide)) rfl c2.m c2.k c2.b .nil pass0 (pa_cons (pv 2) (pa_cons (pv 5) pa_nil)))))))))))) pss_never pss_nil, ?_⟩
  rintro D σ H ⟨S, s4, v, s5, hv⟩ k
  refine ⟨_, S.s2, a, n, arcs, rfl, S.web, S.W, S.tabs, fun q H1 e1 hq => ?_⟩
  refine ⟨by show 0 ≤ sizeLine; decide, fun p hp => ?_⟩
  have e2 : Ext H1 (upd H1 p (.tup [])) := Ext.new hp
  refine ⟨_, _, .tup (SqT.of (e2.tup hq)) (dp_ints _), .tup (SqT.of upd_same) .nil, shaped_tints _, shaped_t0, _, s4, rfl, _, rfl, ?_⟩
  rw [eqv_t0, empty_map, show (winL n arcs).isEmpty = noneB n arcs from rfl]
  refine iteNS rfl ?_
  have e3 := e1.trans e2
  have W := S.W
  refine ⟨_, s5, rfl, _, s4, rfl, _, rfl, ?_⟩
  rcases hv with ⟨rfl, h1⟩ | ⟨h0, q2, r, s, A, B, rfl, g1, g2, g3, g4, g5, g6⟩
  · have hn : noneB n arcs = false := (none_iff W).mpr h1
    rw [hn]
    refine iteF ?_
    refine ⟨_, s5, rfl, _, rfl, ?_⟩
    refine iteF ?_
    refine iteF ?_
    exact k _ _ ⟨_, S.ext e3, by rw [s4, hn], s5, .inl ⟨rfl, h1⟩⟩
  · have hn : noneB n arcs = true := by
      cases h : noneB n arcs with
      | true => rfl
      | false => exact absurd ((none_iff W).mp h) h0
    rw [hn]
    refine iteF ?_
    refine ⟨_, s5, rfl, _, rfl, ?_⟩
    refine iteT ?_
    refine ⟨_, S.s2, _, s5, a, _, n, arcs, .tup [some A, some B], rfl, S.web.ext e3, W, .tup (e3.tup g1) (.cons (.tup (e3.tup g2)) (.cons (.tup (e3.tup g3)) .nil)), fun gs hgs S hS => ?_, fun H2 e4 => ?_⟩
    · cases hgs
      have : S = A ∨ S = B := by simpa using hS
      rcases this with rfl | rfl
      · have := spr_small W g4
        omega
      · have := spr_small W g5
        omega
    · have : pB n arcs (.tup [some A, some B]) = true := parted_spr W g4 g5 g6
      rw [this]
      refine ⟨_, rfl, ?_⟩
      refine iteF ?_
      have e5 := e3.trans e4
      exact k _ _ ⟨_, S.ext e5, by rw [s4, hn], s5, .inr ⟨h0, q2, r, s, A, B, rfl, e5.tup g1, e5.tup g2, e5.tup g3, g4, g5, g6⟩⟩
end
end Bel
set_option Elab.async false
set_option linter.all false
set_option maxRecDepth 100000
set_option maxHeartbeats 4000000
namespace Bel
open PySem PySem.Spec L2 GxR GxA BM

/-! #### the sets -/
def SetsAt (H : Hp) (rs : List Addr) (k : Nat) : Prop := ∀ b ∈ rs, ∃ S, TupAt H b S ∧ S.length ≤ k
theorem SetsAt.ext {H H' : Hp} {rs : List Addr} {k : Nat} (h : SetsAt H rs k) (e : Ext H H') : SetsAt H' rs k := fun b hb => let ⟨S, h1, h2⟩ := h b hb; ⟨S, e.tup h1, h2⟩
abbrev S5 (TT : List Addr) (a : Addr) (n : Int) (arcs : List Arc) (v : V) (l : Addr) (rs : List Addr) (i : Nat) (σ : L2.St) (H : Hp) : Prop := S4 TT a n arcs v σ H ∧ σ[6]? = some (some (.ref l)) ∧ H l = some (.lst (rs.map V.ref)) ∧ rs.length = 2 ^ i ∧ SetsAt H rs i
section
variable {P : Program} {w : World} {K : PySem.W.Frag} {mg : Str → Option Value} {base : Heap} {f : Addr} {cdv : Value} {A : Around} {outer : List Env} {s : Shared} {H0 : Hp} {E : XK} {TT : List Addr}
theorem st5 {a : Addr} {n : Int} {arcs : List Arc} : Stage (XL P w K mg base f cdv A outer s H0 E) (lst 5)
    (fun σ H => ∃ v, S4 TT a n arcs v σ H) (fun σ H => ∃ v l rs, S5 TT a n arcs v l rs 0 σ H) := by
  refine ⟨_, ps_set (i := 6) scLaw.nd rfl (Or.inl rfl) (pe_lst (pa_cons (pe_tup pa_nil) pa_nil)), ?_⟩
  rintro D σ H ⟨v, S⟩ k
  refine ⟨by show 0 ≤ sizeLine; decide, fun p hp => ⟨by show 1 ≤ sizeLine; decide, fun l hl => ?_⟩⟩
  have e1 : Ext H (upd H p (.tup [])) := Ext.new hp
  have e2 : Ext (upd H p (.tup [])) (upd (upd H p (.tup [])) l (.lst [.ref p])) := Ext.new hl
  refine k _ _ ⟨v, l, [p], (S.ext (e1.trans e2)).set (by decide) (by decide) (by decide), st_eq (by rw [S.1.len]; decide), upd_same, rfl, fun b hb => ⟨[], ?_, Nat.le_refl _⟩⟩
  rw [List.mem_singleton.mp hb]
  exact e2.tup upd_same
theorem st6 (hr : Room 5 (XL P w K mg base f cdv A outer s H0 E).A) (C : Callees P w K mg base TT) {a : Addr} {n : Int} {arcs : List Arc} : Stage (XL P w K mg base f cdv A outer s H0 E) (lst 6)
    (fun σ H => ∃ v l rs, S5 TT a n arcs v l rs 0 σ H) (fun σ H => ∃ v l rs i, i ≤ 5 ∧ S5 TT a n arcs v l rs i σ H) := by
  obtain ⟨f1, fd1, G1, c1⟩ := C.people
  have T := C.T
  refine ⟨_, ps_for PassesOwn.never rfl (pi_tup (pe_call G1 (hr.mono (by decide)) rfl c1.m c1.k c1.b .nil pass0 (pa_cons (pv 2) pa_nil))) (pg_name (i := 3) scLaw.nd rfl (Or.inr rfl))
    (pss_one (ps_set (i := 6) scLaw.nd rfl (Or.inl rfl) (pe_op op_cat (pv 6) (pe_lc (own := [("_law_some", 7)]) (g := gName 7) (tt := tYes) rfl scLaw.nd (pi_list (pv 6)) (blkOk_by (own := [("_law_some", 7)]) (N := LN) (sc := defScope sLaw) (by decide +kernel))
      (fun _ _ _ _ _ => pg_name (i := 7) scLaw.nd rfl (Or.inl rfl)) (fun _ _ _ _ _ => pts_nil)
      (fun _ _ _ _ _ => pe_op (kCat K rfl) (pv 7) (pe_tup (pa_cons (pv 3) pa_nil))))))), ?_⟩
  rintro D σ H ⟨v, l, rs, S, s6, hl, hrl, hS⟩ k
  refine ⟨_, S.1.s2, a, n, arcs, rfl, S.1.web, S.1.W, fun q H1 e1 hq => ?_⟩
  refine ⟨q, rfl, ⟨_, SqT.of hq⟩, ?_⟩
  have hn5 : (ivs (people n)).length ≤ 5 := by
    rw [List.length_map, len_people]
    have := S.1.W.hi
    omega
  refine for_tup (xs := ivs (people n)) (fun i σ H' => TupAt H' q (people n) ∧ ∃ l rs, S5 TT a n arcs v l rs i σ H') ⟨hq, l, rs, S.ext e1, s6, e1.lst hl, hrl, hS.ext e1⟩ (fun i σ H' _ z => SqT.of z.1) ?_ ?_
  · rintro i x σ H2 hx ⟨hq2, l, rs, S, s6, hl, hrl, hS⟩
    obtain ⟨y, hy, rfl⟩ := get_map hx
    have hi : i < 5 := by
      have := (List.getElem?_eq_some_iff.mp hx).1
      omega
    have L := S.1.len
    have s6' : (σ.set 3 (some (V.int y)))[6]? = some (some (.ref l)) := st_ne (by decide) s6
    refine ⟨_, s6', _, s6', l, rfl, ⟨_, SqL.of hl⟩, fun D hD => ?_⟩
    have hp2 : rs.length ≤ 16 := by
      rw [hrl]
      have : i = 0 ∨ i = 1 ∨ i = 2 ∨ i = 3 ∨ i = 4 := by omega
      rcases this with rfl | rfl | rfl | rfl | rfl <;> decide
    refine lc_list (xs := rs.map V.ref) (fun j H' => Ext H2 H' ∧ ∃ bs, H' D = some (.lst (bs.map V.ref)) ∧ bs.length = j ∧ SetsAt H' bs (i + 1)) ⟨Ext.new hD, [], upd_same, rfl, fun b hb => nomatch hb⟩ (fun j H' _ z => SqL.of (z.1.lst hl)) ?_ ?_
    · rintro j x H' hxj ⟨e, bs, hb, hbl, hbs⟩
      obtain ⟨r, hr1, rfl⟩ := get_map hxj
      obtain ⟨Sx, hSx, hSl⟩ := hS r (List.mem_of_getElem? hr1)
      have hj : j < rs.length := (List.getElem?_eq_some_iff.mp hr1).1
      have s7 : ((wipe (σ.set 3 (some (V.int y))) (List.map (fun x : Str × Nat => x.2) [("_law_some", 7)])).set 7 (some (V.ref r)))[7]? = some (some (.ref r)) := st_eq (by show 7 < ((σ.set 3 _).set 7 none).length; rw [List.length_set, List.length_set, L]; decide)
      have s3 : ((wipe (σ.set 3 (some (V.int y))) (List.map (fun x : Str × Nat => x.2) [("_law_some", 7)])).set 7 (some (V.ref r)))[3]? = some (some (.int y)) := st_ne (by decide) (st_ne (by decide) (st_eq (by rw [L]; decide)))
      refine ⟨by show (((σ.set 3 _).set 7 none).set 7 _).set 7 none = (σ.set 3 _).set 7 none; rw [List.set_set, List.set_set], ?_⟩
      simp only [tYes, if_true]
      refine ⟨_, s7, _, s3, by show 1 ≤ sizeLine; decide, fun p hp => ?_⟩
      have e1 : Ext H' (upd H' p (.tup [.int y])) := Ext.new hp
      refine cat_by ((e.trans e1).tup hSx) upd_same ?_ fun p2 H3 e3 h3 => ?_
      · rw [List.length_map, sizeLine_eq]
        simp
        omega
      have e4 := e1.trans e3
      refine ⟨_, e4.lst hb, by rw [List.length_map, sizeLine_eq]; omega, (e.trans e4).mut hD, bs ++ [p2], by rw [upd_same, List.map_append]; rfl, by rw [List.length_append, hbl]; rfl, fun b hb9 => ?_⟩
      have hbD : H3 D = some (.lst (bs.map V.ref)) := e4.lst hb
      rcases List.mem_append.mp hb9 with hb9 | hb9
      · obtain ⟨S9, h9, l9⟩ := hbs b hb9
        refine ⟨S9, ?_, l9⟩
        show upd _ D _ b = _
        rw [upd_ne (ne_of (e4.tup h9) hbD (by intro z; cases z))]
        exact e4.tup h9
      · rw [List.mem_singleton.mp hb9]
        refine ⟨Sx ++ [y], ?_, by rw [List.length_append]; simp; omega⟩
        show upd _ D _ p2 = _
        rw [upd_ne (ne_of h3 hbD (by intro z; cases z)), h3]
        show _ = some (HO.tup (ivs (Sx ++ [y])))
        rw [show ivs (Sx ++ [y]) = _ from List.map_append ..]
        rfl
    · rintro H' ⟨e, bs, hb, hbl, hbs⟩
      rw [List.length_map] at hbl
      refine ⟨l, D, _, _, rfl, rfl, e.lst hl, hb, by rw [List.length_map, List.length_map, sizeLine_eq]; omega, fun p hp => ?_⟩
      have e6 := e.trans (Ext.new (o := .lst (rs.map V.ref ++ bs.map V.ref)) hp)
      refine ⟨e6.tup hq2, p, rs ++ bs, ((S.ext e6).set (by decide) (by decide) (by decide)).set (by decide) (by decide) (by decide), st_eq (by rw [List.length_set, L]; decide), by rw [upd_same, List.map_append], ?_, fun b hb9 => ?_⟩
      · rw [List.length_append, hbl, hrl, Nat.pow_succ]
        omega
      · rcases List.mem_append.mp hb9 with hb9 | hb9
        · obtain ⟨S9, h9, l9⟩ := hS b hb9
          exact ⟨S9, e6.tup h9, by omega⟩
        · exact (hbs.ext (Ext.new hp)) b hb9
  · rintro σ H2 ⟨_, l, rs, Z⟩
    exact k _ _ ⟨v, l, rs, _, hn5, Z⟩

/-! #### the base -/
def BaseAt (H : Hp) (q : Addr) : Prop := ∃ r s B1 B2, H q = some (.tup [.ref r, .ref s]) ∧ TupAt H r B1 ∧ TupAt H s B2 ∧ B1.length ≤ 5 ∧ B2.length ≤ 5
theorem BaseAt.ext {H H' : Hp} {q : Addr} (h : BaseAt H q) (e : Ext H H') : BaseAt H' q := let ⟨r, s, B1, B2, h1, h2, h3, h4⟩ := h; ⟨r, s, B1, B2, e.tup h1, e.tup h2, e.tup h3, h4⟩
abbrev S7 (TT : List Addr) (a : Addr) (n : Int) (arcs : List Arc) (v : V) (l : Addr) (rs : List Addr) (q : Addr) (σ : L2.St) (H : Hp) : Prop := S4 TT a n arcs v σ H ∧ (σ[6]? = some (some (.ref l)) ∧ H l = some (.lst (rs.map V.ref)) ∧ rs.length ≤ 32 ∧ SetsAt H rs 5) ∧ σ[8]? = some (some (.ref q)) ∧ BaseAt H q
theorem S7.ext {TT : List Addr} {a : Addr} {n : Int} {arcs : List Arc} {v : V} {l : Addr} {rs : List Addr} {q : Addr} {σ : L2.St} {H H' : Hp} (S : S7 TT a n arcs v l rs q σ H) (e : Ext H H') : S7 TT a n arcs v l rs q σ H' :=
  ⟨S.1.ext e, ⟨S.2.1.1, e.lst S.2.1.2.1, S.2.1.2.2.1, S.2.1.2.2.2.ext e⟩, S.2.2.1, S.2.2.2.ext e⟩
theorem S7.set {TT : List Addr} {a : Addr} {n : Int} {arcs : List Arc} {v : V} {l : Addr} {rs : List Addr} {q : Addr} {σ : L2.St} {H : Hp} (S : S7 TT a n arcs v l rs q σ H) {i : Nat} {y : Option V} (h2 : i ≠ 2) (h4 : i ≠ 4) (h5 : i ≠ 5) (h6 : i ≠ 6) (h8 : i ≠ 8) : S7 TT a n arcs v l rs q (σ.set i y) H :=
  ⟨S.1.set h2 h4 h5, ⟨st_ne h6 S.2.1.1, S.2.1.2⟩, st_ne h8 S.2.2.1, S.2.2.2⟩
theorem st7 {a : Addr} {n : Int} {arcs : List Arc} : Stage (XL P w K mg base f cdv A outer s H0 E) (lst 7)
    (fun σ H => ∃ v l rs i, i ≤ 5 ∧ S5 TT a n arcs v l rs i σ H) (fun σ H => ∃ v l rs q, S7 TT a n arcs v l rs q σ H) := by
  refine ⟨_, ps_set (i := 8) scLaw.nd rfl (Or.inl rfl) (pe_ifExp (pt_cmpR op_notN (pv 5) pe_non (nomark _)) (pv 5) (pe_tup (pa_cons (pe_tup (pa_cons pe_int pa_nil)) (pa_cons (pe_tup (pa_cons pe_int pa_nil)) pa_nil)))), ?_⟩
  rintro D σ H ⟨v, l, rs, i, hi, S, s6, hl, hrl, hS⟩ k
  have L := S.1.len
  have h32 : rs.length ≤ 32 := by
    rw [hrl]
    have : i = 0 ∨ i = 1 ∨ i = 2 ∨ i = 3 ∨ i = 4 ∨ i = 5 := by omega
    rcases this with rfl | rfl | rfl | rfl | rfl | rfl <;> decide
  have hS5 : SetsAt H rs 5 := fun b hb => let ⟨S9, h9, l9⟩ := hS b hb; ⟨S9, h9, by omega⟩
  have fin : ∀ q H', Ext H H' → BaseAt H' q → D.nx (σ.set 8 (some (.ref q))) H' := fun q H' e hB =>
    k _ _ ⟨v, l, rs, q, (S.ext e).set (by decide) (by decide) (by decide), ⟨st_ne (by decide) s6, e.lst hl, h32, hS5.ext e⟩, st_eq (by rw [L]; decide), hB⟩
  refine ⟨_, S.2.2.1, rfl, _, rfl, ?_⟩
  rcases S.2.2.2 with ⟨rfl, _⟩ | ⟨h0, q2, r, s, A, B, rfl, g1, g2, g3, g4, g5, g6⟩
  · refine iteF ?_
    refine ⟨by show 1 ≤ sizeLine; decide, fun p1 hp1 => ⟨by show 1 ≤ sizeLine; decide, fun p2 hp2 => ⟨by show 2 ≤ sizeLine; decide, fun p3 hp3 => ?_⟩⟩⟩
    have e1 : Ext H (upd H p1 (.tup [.int 1])) := Ext.new hp1
    have e2 : Ext (upd H p1 (.tup [.int 1])) (upd (upd H p1 (.tup [.int 1])) p2 (.tup [.int 2])) := Ext.new hp2
    refine fin p3 _ (e1.trans (e2.trans (Ext.new hp3))) ⟨p1, p2, [1], [2], upd_same, (Ext.new hp3).tup (e2.tup upd_same), (Ext.new hp3).tup upd_same, by decide, by decide⟩
  · refine iteT ?_
    refine ⟨_, S.2.2.1, ?_⟩
    exact fin q2 H (Ext.refl H) ⟨r, s, A, B, g1, g2, g3, spr_small S.1.W g4, spr_small S.1.W g5⟩
end
end Bel
set_option Elab.async false
set_option linter.all false
set_option maxRecDepth 100000
set_option maxHeartbeats 4000000
namespace Bel
open PySem PySem.Spec L2 GxR GxA BM

/-! #### the values -/
def Small (g : Shape) : Prop := ∀ gs, g = .tup gs → ∀ S, some S ∈ gs → S.length ≤ 100
def ValsAt (H : Hp) (vs : List V) : Prop := ∀ v ∈ vs, ∃ g, ValAt H v g ∧ Small g
theorem ValsAt.ext {H H' : Hp} {vs : List V} (h : ValsAt H vs) (e : Ext H H') : ValsAt H' vs := fun v hv => let ⟨g, h1, h2⟩ := h v hv; ⟨g, h1.ext e, h2⟩
theorem ValsAt.nil {H : Hp} : ValsAt H [] := fun v hv => nomatch hv
theorem ValsAt.cons {H : Hp} {v : V} {vs : List V} {g : Shape} (h : ValAt H v g) (hs : Small g) (t : ValsAt H vs) : ValsAt H (v :: vs) := fun u hu => by
  rcases List.mem_cons.mp hu with rfl | hu
  · exact ⟨g, h, hs⟩
  · exact t u hu
theorem small_non : Small .non := fun gs e => nomatch e
theorem small_oth : Small .oth := fun gs e => nomatch e
theorem small_tup {gs : List (Option (List Int))} (h : ∀ S, some S ∈ gs → S.length ≤ 100) : Small (.tup gs) := fun gs' e => by
  cases e
  exact h
/-- slot 9 holds the values -/
abbrev S8 (TT : List Addr) (a : Addr) (n : Int) (arcs : List Arc) (v : V) (l : Addr) (rs : List Addr) (q : Addr) (m : Addr) (vs : List V) (σ : L2.St) (H : Hp) : Prop := S7 TT a n arcs v l rs q σ H ∧ σ[9]? = some (some (.ref m)) ∧ H m = some (.lst vs) ∧ ValsAt H vs
section
variable {P : Program} {w : World} {K : PySem.W.Frag} {mg : Str → Option Value} {base : Heap} {f : Addr} {cdv : Value} {A : Around} {outer : List Env} {s : Shared} {H0 : Hp} {E : XK} {TT : List Addr}
theorem st8 (C : Callees P w K mg base TT) {a : Addr} {n : Int} {arcs : List Arc} : Stage (XL P w K mg base f cdv A outer s H0 E) (lst 8)
    (fun σ H => ∃ v l rs q, S7 TT a n arcs v l rs q σ H) (fun σ H => ∃ v l rs q m vs, vs.length = 10 ∧ S8 TT a n arcs v l rs q m vs σ H) := by
  have T := C.T
  refine ⟨_, ps_set (i := 9) scLaw.nd rfl (Or.inl rfl) (pe_lst (pa_cons (pv 5) (pa_cons pe_non (pa_cons (pe_revT (pv 8)) (pa_cons (pe_callTy call_list_of (by rfl) T.list (by decide +kernel) (pa_cons (pv 8) pa_nil))
    (pa_cons (pe_slice sl_tupA (pv 8) po_none (po_some pe_int)) (pa_cons (pe_op op_catA (pv 8) (pe_tup (pa_cons (pe_tup (pa_cons pe_int pa_nil)) pa_nil)))
    (pa_cons (pe_tup (pa_cons (pe_ix ix_tup (pv 8) pe_int (fun _ _ => rfl)) (pa_cons (pe_callTy call_list_of (by rfl) T.list (by decide +kernel) (pa_cons (pe_ix ix_tup (pv 8) pe_int (fun _ _ => rfl)) pa_nil)) pa_nil)))
    (pa_cons (pe_tup (pa_cons (pe_ix ix_tup (pv 8) pe_int (fun _ _ => rfl)) (pa_cons (pe_ix ix_tup (pv 8) pe_int (fun _ _ => rfl)) pa_nil))) (pa_cons pe_int (pa_cons pe_dnewK pa_nil))))))))))), ?_⟩
  rintro D σ H ⟨v, l, rs, q, S⟩ k
  have s5 := S.1.2.2.1
  have s8 := S.2.2.1
  obtain ⟨r, s, B1, B2, hq, hr, hs, l1, l2⟩ := id S.2.2.2
  refine ⟨_, s5, _, s8, q, _, rfl, SqT.of hq, fun p1 hp1 => ?_⟩
  have e1 : Ext H (upd H p1 (.tup [.ref s, .ref r])) := Ext.new hp1
  have v1 : ValAt (upd H p1 (.tup [.ref s, .ref r])) (.ref p1) (.tup [some B2, some B1]) := .tup upd_same (.cons (.tup (e1.tup hs)) (.cons (.tup (e1.tup hr)) .nil))
  show tCons _ _ σ (upd H p1 (.tup [.ref s, .ref r])) _
  generalize upd H p1 (.tup [.ref s, .ref r]) = H1 at e1 v1 ⊢
  refine ⟨_, s8, q, _, rfl, .inr (SqT.of (e1.tup hq)), fun p2 hp2 => ?_⟩
  have e2 : Ext H1 (upd H1 p2 (.lst [.ref r, .ref s])) := Ext.new hp2
  have v2 : ValAt (upd H1 p2 (.lst [.ref r, .ref s])) (.ref p2) .oth := .lst upd_same
  show tCons _ _ σ (upd H1 p2 (.lst [.ref r, .ref s])) _
  generalize upd H1 p2 (.lst [.ref r, .ref s]) = H2 at e2 v2 ⊢
  have E2 := e1.trans e2
  refine ⟨_, s8, _, rfl, slice_by (E2.tup hq) fun p3 H3 e3 h3 => ?_⟩
  have E3 := E2.trans e3
  have h3 : H3 p3 = some (.tup [.ref r]) := h3
  have v3 : ValAt H3 (.ref p3) (.tup [some B1]) := .tup h3 (.cons (.tup (E3.tup hr)) .nil)
  refine ⟨_, s8, by show 1 ≤ sizeLine; decide, fun p4 hp4 => ⟨by show 1 ≤ sizeLine; decide, fun p5 hp5 => ?_⟩⟩
  have e4 : Ext H3 (upd H3 p4 (.tup [.int 1])) := Ext.new hp4
  have e5 : Ext (upd H3 p4 (.tup [.int 1])) (upd (upd H3 p4 (.tup [.int 1])) p5 (.tup [.ref p4])) := Ext.new hp5
  have h4 := e5.tup (a := p4) upd_same
  refine cat_by ((E3.trans (e4.trans e5)).tup hq) upd_same (by show 2 + 1 ≤ sizeLine; decide) fun p6 H6 e6 h6 => ?_
  have E6 := E3.trans (e4.trans (e5.trans e6))
  have v6 : ValAt H6 (.ref p6) (.tup [some B1, some B2, some [1]]) := .tup h6 (.cons (.tup (E6.tup hr)) (.cons (.tup (E6.tup hs)) (.cons (.tup (S := [1]) (e6.tup h4)) .nil)))
  refine ⟨_, s8, q, _, _, V.ref r, rfl, rfl, SqT.of (E6.tup hq), rfl, _, s8, q, _, _, V.ref s, rfl, rfl, SqT.of (E6.tup hq), rfl, s, _, rfl, .inr (SqT.of (E6.tup hs)), fun p7 hp7 => ?_⟩
  refine ⟨by show 2 ≤ sizeLine; decide, fun p8 hp8 => ?_⟩
  have e7 : Ext H6 (upd H6 p7 (.lst (ivs B2))) := Ext.new hp7
  have e8 : Ext (upd H6 p7 (.lst (ivs B2))) (upd (upd H6 p7 (.lst (ivs B2))) p8 (.tup [.ref r, .ref p7])) := Ext.new hp8
  have v8 : ValAt (upd (upd H6 p7 (.lst (ivs B2))) p8 (.tup [.ref r, .ref p7])) (.ref p8) (.tup [some B1, none]) := .tup upd_same (.cons (.tup ((E6.trans (e7.trans e8)).tup hr)) (.cons (.lst (e8.lst upd_same)) .nil))
  show tCons _ _ σ (upd (upd H6 p7 (.lst (ivs B2))) p8 (.tup [.ref r, .ref p7])) _
  generalize upd (upd H6 p7 (.lst (ivs B2))) p8 (.tup [.ref r, .ref p7]) = H8 at e8 v8 ⊢
  have E8 := E6.trans (e7.trans e8)
  refine ⟨_, s8, q, _, _, V.ref r, rfl, rfl, SqT.of (E8.tup hq), rfl, _, s8, q, _, _, V.ref r, rfl, rfl, SqT.of (E8.tup hq), rfl, by show 2 ≤ sizeLine; decide, fun p9 hp9 => ?_⟩
  have e9 : Ext H8 (upd H8 p9 (.tup [.ref r, .ref r])) := Ext.new hp9
  have v9 : ValAt (upd H8 p9 (.tup [.ref r, .ref r])) (.ref p9) (.tup [some B1, some B1]) := .tup upd_same (.cons (.tup ((E8.trans e9).tup hr)) (.cons (.tup ((E8.trans e9).tup hr)) .nil))
  refine fun d hd => ?_
  have e10 : Ext (upd H8 p9 (.tup [.ref r, .ref r])) (upd (upd H8 p9 (.tup [.ref r, .ref r])) d (.dK [])) := Ext.new hd
  refine ⟨by show 10 ≤ sizeLine; decide, fun m hm => ?_⟩
  have e11 := Ext.new (o := .lst [v, .non, .ref p1, .ref p2, .ref p3, .ref p6, .ref p8, .ref p9, .int 3, .ref d]) hm
  have E9 := e9.trans (e10.trans e11)
  have E11 := E8.trans E9
  have fv : ∃ g, ValAt H v g ∧ Small g := by
    rcases S.1.2.2.2 with ⟨rfl, _⟩ | ⟨h0, q2, r, s, A, B, rfl, g1, g2, g3, g4, g5, g6⟩
    · exact ⟨.non, .non, small_non⟩
    · refine ⟨.tup [some A, some B], .tup g1 (.cons (.tup g2) (.cons (.tup g3) .nil)), small_tup fun S9 h9 => ?_⟩
      have w1 := spr_small S.1.1.W g4
      have w2 := spr_small S.1.1.W g5
      have : S9 = A ∨ S9 = B := by simpa using h9
      rcases this with rfl | rfl <;> omega
  obtain ⟨g, hg, sg⟩ := fv
  refine k _ _ ⟨v, l, rs, q, m, _, rfl, (S.ext E11).set (by decide) (by decide) (by decide) (by decide) (by decide), st_eq (by rw [S.1.1.len]; decide), upd_same, ?_⟩
  refine .cons (hg.ext E11) sg (.cons .non small_non (.cons (v1.ext (e2.trans (e3.trans (e4.trans (e5.trans (e6.trans (e7.trans (e8.trans E9)))))))) (small_tup fun S9 h9 => ?_) (.cons (v2.ext (e3.trans (e4.trans (e5.trans (e6.trans (e7.trans (e8.trans E9))))))) small_oth
    (.cons (v3.ext (e4.trans (e5.trans (e6.trans (e7.trans (e8.trans E9)))))) (small_tup fun S9 h9 => ?_) (.cons (v6.ext (e7.trans (e8.trans E9))) (small_tup fun S9 h9 => ?_) (.cons (v8.ext E9) (small_tup fun S9 h9 => ?_) (.cons (v9.ext (e10.trans e11)) (small_tup fun S9 h9 => ?_)
    (.cons (.int 3) small_oth (.cons (.dct (e11.dK upd_same)) small_oth .nil)))))))))
  · have : S9 = B2 ∨ S9 = B1 := by simpa using h9
    rcases this with rfl | rfl <;> omega
  · have : S9 = B1 := by simpa using h9
    subst this
    omega
  · have : S9 = B1 ∨ S9 = B2 ∨ S9 = [1] := by simpa using h9
    rcases this with rfl | rfl | rfl
    · omega
    · omega
    · decide
  · have : S9 = B1 := by simpa using h9
    subst this
    omega
  · have : S9 = B1 := by simpa using h9
    subst this
    omega
end
end Bel
set_option Elab.async false
set_option linter.all false
set_option maxRecDepth 100000
set_option maxHeartbeats 4000000
namespace Bel
open PySem PySem.Spec L2 GxR GxA BM

theorem S8.ext {TT : List Addr} {a : Addr} {n : Int} {arcs : List Arc} {v : V} {l : Addr} {rs : List Addr} {q m : Addr} {vs : List V} {σ : L2.St} {H H' : Hp} (S : S8 TT a n arcs v l rs q m vs σ H) (e : Ext H H') : S8 TT a n arcs v l rs q m vs σ H' :=
  ⟨S.1.ext e, S.2.1, e.lst S.2.2.1, S.2.2.2.ext e⟩
theorem ValsAt.app {H : Hp} {vs us : List V} (h : ValsAt H vs) (g : ValsAt H us) : ValsAt H (vs ++ us) := fun v hv => by
  rcases List.mem_append.mp hv with hv | hv
  · exact h v hv
  · exact g v hv
section
variable {P : Program} {w : World} {K : PySem.W.Frag} {mg : Str → Option Value} {base : Heap} {f : Addr} {cdv : Value} {A : Around} {outer : List Env} {s : Shared} {H0 : Hp} {E : XK} {TT : List Addr}
theorem st9 {a : Addr} {n : Int} {arcs : List Arc} : Stage (XL P w K mg base f cdv A outer s H0 E) (lst 9)
    (fun σ H => ∃ v l rs q m vs, vs.length = 10 ∧ S8 TT a n arcs v l rs q m vs σ H) (fun σ H => ∃ v l rs q m vs, vs.length ≤ 90 ∧ S8 TT a n arcs v l rs q m vs σ H) := by
  refine ⟨_, ps_for PassesOwn.never rfl (pi_list (pe_slice sl_list (pv 6) po_none (po_some pe_int))) (pg_name (i := 7) scLaw.nd rfl (Or.inl rfl))
    (pss_one (ps_set (i := 9) scLaw.nd rfl (Or.inl rfl) (pe_op op_cat (pv 9) (pe_lst
      (pa_cons (pe_tup (pa_cons (pv 7) (pa_cons (pe_ix ix_tup (pv 8) pe_int (fun _ _ => rfl)) pa_nil)))
      (pa_cons (pe_tup (pa_cons (pe_ix ix_tup (pv 8) pe_int (fun _ _ => rfl)) (pa_cons (pv 7) pa_nil)))
      (pa_cons (pe_tup (pa_cons (pe_revT (pv 7)) (pa_cons (pe_ix ix_tup (pv 8) pe_int (fun _ _ => rfl)) pa_nil)))
      (pa_cons (pe_tup (pa_cons (pe_op op_catA (pv 7) (pv 7)) (pa_cons (pe_ix ix_tup (pv 8) pe_int (fun _ _ => rfl)) pa_nil))) pa_nil)))))))), ?_⟩
  rintro D σ H ⟨v, l, rs, q, m, vs, hvl, S⟩ k
  obtain ⟨s6, hl, hrl, hS⟩ := S.1.2.1
  refine ⟨_, s6, _, rfl, l, _, rfl, SqL.of hl, fun p hp => ?_⟩
  have e0 : Ext H (upd H p (.lst (cutV (rs.map V.ref) none (some 20)))) := Ext.new hp
  have hcut : cutV (rs.map V.ref) none (some 20) = (rs.take 20).map V.ref := by
    rw [show (20 : Int) = ((20 : Nat) : Int) from rfl, cut_to, List.map_take]
  have hp0 : (upd H p (.lst (cutV (rs.map V.ref) none (some 20)))) p = some (.lst ((rs.take 20).map V.ref)) := by rw [upd_same, hcut]
  refine ⟨p, rfl, ⟨_, SqL.of hp0⟩, ?_⟩
  have l20 : ((rs.take 20).map V.ref).length ≤ 20 := by rw [List.length_map, List.length_take]; omega
  refine for_list (xs := (rs.take 20).map V.ref) (fun i σ H' => H' p = some (.lst ((rs.take 20).map V.ref)) ∧ ∃ m vs, vs.length ≤ 10 + 4 * i ∧ S8 TT a n arcs v l rs q m vs σ H') ⟨hp0, m, vs, by omega, S8.ext S e0⟩ (fun i σ H' _ z => SqL.of z.1) ?_ ?_
  · rintro i x σ H1 hx ⟨hp1, m, vs, hvl, S⟩
    obtain ⟨r, hr1, rfl⟩ := get_map hx
    have hi : i < 20 := by
      have := (List.getElem?_eq_some_iff.mp hx).1
      omega
    have hrm : r ∈ rs := List.mem_of_mem_take (List.mem_of_getElem? hr1)
    obtain ⟨Sx, hSx, hSl⟩ := S.1.2.1.2.2.2 r hrm
    obtain ⟨b1, b2, B1, B2, hq, hb1, hb2, l1, l2⟩ := id S.1.2.2.2
    have L := S.1.1.1.len
    have s7 : (σ.set 7 (some (V.ref r)))[7]? = some (some (.ref r)) := st_eq (by rw [L]; decide)
    have s8 : (σ.set 7 (some (V.ref r)))[8]? = some (some (.ref q)) := st_ne (by decide) S.1.2.2.1
    have s9 : (σ.set 7 (some (V.ref r)))[9]? = some (some (.ref m)) := st_ne (by decide) S.2.1
    refine ⟨_, s9, _, s7, _, s8, q, _, _, V.ref b2, rfl, rfl, SqT.of hq, rfl, by show 2 ≤ sizeLine; decide, fun p1 hp9 => ?_⟩
    have e1 : Ext H1 (upd H1 p1 (.tup [.ref r, .ref b2])) := Ext.new hp9
    have v1 : ValAt (upd H1 p1 (.tup [.ref r, .ref b2])) (.ref p1) (.tup [some Sx, some B2]) := .tup upd_same (.cons (.tup (e1.tup hSx)) (.cons (.tup (e1.tup hb2)) .nil))
    generalize upd H1 p1 (.tup [.ref r, .ref b2]) = H2 at e1 v1 ⊢
    refine ⟨_, s8, q, _, _, V.ref b1, rfl, rfl, SqT.of (e1.tup hq), rfl, _, s7, by show 2 ≤ sizeLine; decide, fun p2 hp9 => ?_⟩
    have e2 : Ext H2 (upd H2 p2 (.tup [.ref b1, .ref r])) := Ext.new hp9
    have E2 := e1.trans e2
    have v2 : ValAt (upd H2 p2 (.tup [.ref b1, .ref r])) (.ref p2) (.tup [some B1, some Sx]) := .tup upd_same (.cons (.tup (E2.tup hb1)) (.cons (.tup (E2.tup hSx)) .nil))
    generalize upd H2 p2 (.tup [.ref b1, .ref r]) = H3 at e2 E2 v2 ⊢
    refine ⟨_, s7, r, _, rfl, SqT.of (E2.tup hSx), fun p3 hp9 => ?_⟩
    have e3 : Ext H3 (upd H3 p3 (.tup (ivs Sx).reverse)) := Ext.new hp9
    have E3 := E2.trans e3
    have t3 : TupAt (upd H3 p3 (.tup (ivs Sx).reverse)) p3 Sx.reverse := by
      show upd _ _ _ _ = some (HO.tup (List.map V.int Sx.reverse))
      rw [upd_same, List.map_reverse]
    generalize upd H3 p3 (.tup (ivs Sx).reverse) = H4 at e3 E3 t3 ⊢
    refine ⟨_, s8, q, _, _, V.ref b2, rfl, rfl, SqT.of (E3.tup hq), rfl, by show 2 ≤ sizeLine; decide, fun p4 hp9 => ?_⟩
    have e4 : Ext H4 (upd H4 p4 (.tup [.ref p3, .ref b2])) := Ext.new hp9
    have E4 := E3.trans e4
    have v4 : ValAt (upd H4 p4 (.tup [.ref p3, .ref b2])) (.ref p4) (.tup [some Sx.reverse, some B2]) := .tup upd_same (.cons (.tup (e4.tup t3)) (.cons (.tup (E4.tup hb2)) .nil))
    generalize upd H4 p4 (.tup [.ref p3, .ref b2]) = H5 at e4 E4 v4 ⊢
    refine ⟨_, s7, _, s7, cat_by (E4.tup hSx) (E4.tup hSx) ?_ fun p5 H6 e5 h5 => ?_⟩
    · rw [List.length_map, sizeLine_eq]
      omega
    have E5 := E4.trans e5
    have t5 : TupAt H6 p5 (Sx ++ Sx) := by
      show H6 p5 = some (HO.tup (List.map V.int (Sx ++ Sx)))
      rw [h5, List.map_append]
    refine ⟨_, s8, q, _, _, V.ref b2, rfl, rfl, SqT.of (E5.tup hq), rfl, by show 2 ≤ sizeLine; decide, fun p6 hp9 => ?_⟩
    have e6 : Ext H6 (upd H6 p6 (.tup [.ref p5, .ref b2])) := Ext.new hp9
    have E6 := E5.trans e6
    have v6 : ValAt (upd H6 p6 (.tup [.ref p5, .ref b2])) (.ref p6) (.tup [some (Sx ++ Sx), some B2]) := .tup upd_same (.cons (.tup (e6.tup t5)) (.cons (.tup (E6.tup hb2)) .nil))
    generalize upd H6 p6 (.tup [.ref p5, .ref b2]) = H7 at e6 E6 v6 ⊢
    refine ⟨by show 4 ≤ sizeLine; decide, fun l4 hl4 => ?_⟩
    have e7 : Ext H7 (upd H7 l4 (.lst [.ref p1, .ref p2, .ref p4, .ref p6])) := Ext.new hl4
    have E7 := E6.trans e7
    refine ⟨m, l4, vs, _, rfl, rfl, E7.lst S.2.2.1, upd_same, by show vs.length + 4 ≤ sizeLine; rw [sizeLine_eq]; omega, fun m2 hm2 => ?_⟩
    have e8 := Ext.new (o := .lst (vs ++ [V.ref p1, .ref p2, .ref p4, .ref p6])) hm2
    have E8 := E7.trans e8
    have two : ∀ {X Y : List Int}, X.length ≤ 10 → Y.length ≤ 10 → Small (.tup [some X, some Y]) := fun {X Y} hX hY => small_tup fun S9 h9 => by
      have : S9 = X ∨ S9 = Y := by simpa using h9
      rcases this with rfl | rfl <;> omega
    have R := S8.ext S E8
    refine ⟨E8.lst hp1, m2, _, ?_, (R.1.set (by decide) (by decide) (by decide) (by decide) (by decide)).set (by decide) (by decide) (by decide) (by decide) (by decide), st_eq (by rw [List.length_set, L]; decide), upd_same, R.2.2.2.app (.cons (v1.ext (e2.trans (e3.trans (e4.trans (e5.trans (e6.trans (e7.trans e8))))))) (two (by omega) (by omega)) (.cons (v2.ext (e3.trans (e4.trans (e5.trans (e6.trans (e7.trans e8)))))) (two (by omega) (by omega)) (.cons (v4.ext (e5.trans (e6.trans (e7.trans e8)))) (two (by rw [List.length_reverse]; omega) (by omega)) (.cons (v6.ext (e7.trans e8)) (two (by rw [List.length_append]; omega) (by omega)) .nil))))⟩
    rw [List.length_append]
    show vs.length + 4 ≤ _
    omega
  · rintro σ H1 ⟨_, m, vs, hvl, S⟩
    exact k _ _ ⟨v, l, rs, q, m, vs, by omega, S⟩

/-! #### each value -/
theorem st10 (hr : Room 5 (XL P w K mg base f cdv A outer s H0 E).A) (C : Callees P w K mg base TT) {a : Addr} {n : Int} {arcs : List Arc} : Stage (XL P w K mg base f cdv A outer s H0 E) (lst 10)
    (fun σ H => ∃ v l rs q m vs, vs.length ≤ 90 ∧ S8 TT a n arcs v l rs q m vs σ H) (fun σ H => SW TT a n arcs σ H) := by
  obtain ⟨f1, fd1, G1, c1⟩ := C.isp
  obtain ⟨f2, fd2, G2, c2⟩ := C.shows
  obtain ⟨f3, fd3, G3, c3⟩ := C.alike
  refine ⟨_, ps_for PassesOwn.never rfl (pi_list (pv 9)) (pg_name (i := 10) scLaw.nd rfl (Or.inl rfl))
    (pss_cons (ps_set (i := 11) scLaw.nd rfl (Or.inl rfl) (pe_ifExp (pt_cmpR op_isN (pv 10) pe_non (nomark _)) (pe_not (pv 4)) (pe_call G1 (hr.mono (by decide)) rfl c1.m c1.k c1.b .nil pass0 (pa_cons (pv 2) (pa_cons (pv 10) pa_nil)))))
    (pss_one (ps_if (pt_not (pt_val (pe_call G3 (hr.mono (by decide)) rfl c3.m c3.k c3.b .nil pass0 (pa_cons (pe_call G2 hr rfl c2.m c2.k c2.b .nil pass0 (pa_cons (pv 2) (pa_cons (pv 10) pa_nil))) (pa_cons (pv 11) pa_nil))))) pss_never pss_nil))), ?_⟩
  rintro D σ H ⟨v, l, rs, q, m, vs, hvl, S⟩ k
  refine ⟨_, S.2.1, m, rfl, ⟨_, SqL.of S.2.2.1⟩, ?_⟩
  have W := S.1.1.1.W
  refine for_list (xs := vs) (fun i σ H' => SW TT a n arcs σ H' ∧ σ[4]? = some (some (.bl (noneB n arcs))) ∧ H' m = some (.lst vs) ∧ ValsAt H' vs) ⟨S.1.1.1, S.1.1.2.1, S.2.2.1, S.2.2.2⟩ (fun i σ H' _ z => SqL.of z.2.2.1) ?_ ?_
  · rintro i x σ H1 hx ⟨S, s4, hm, hV⟩
    obtain ⟨g, hg, sg⟩ := hV x (List.mem_of_getElem? hx)
    have L := S.len
    have L10 : 10 < σ.length := by rw [L]; decide
    have s2 : (σ.set 10 (some x))[2]? = some (some (.ref a)) := st_ne (by decide) S.s2
    have s10 : (σ.set 10 (some x))[10]? = some (some x) := st_eq L10
    have s4' : (σ.set 10 (some x))[4]? = some (some (.bl (noneB n arcs))) := st_ne (by decide) s4
    have fin : ∀ (b : Bool) (H2 : Hp), Ext H1 H2 → b = shB n arcs g → tSeq (tIfS (tNot (tB (tCall spAlike [] E0 (tCons (tCall (spShows TT) [] E0 (tCons (tVar 2) (tCons (tVar 10) tNil))) (tCons (tVar 11) tNil))))) tNever tNext) tNext { D with nx := fun σ H' => SW TT a n arcs σ H' ∧ σ[4]? = some (some (.bl (noneB n arcs))) ∧ H' m = some (.lst vs) ∧ ValsAt H' vs } ((σ.set 10 (some x)).set 11 (some (.bl b))) H2 := fun b H2 e2 hb => by
      refine ⟨_, st_ne (by decide) s2, _, st_ne (by decide) s10, a, x, n, arcs, g, rfl, S.web.ext e2, W, hg.ext e2, sg, e2.tabs S.tabs, fun H3 e3 => ?_⟩
      refine ⟨_, st_eq (by rw [List.length_set, L]; decide), shB n arcs g, b, rfl, fun H4 e4 => ?_⟩
      refine ⟨_, rfl, ?_⟩
      rw [hb, beq_self_eq_true]
      refine iteF ?_
      have e5 := e2.trans (e3.trans e4)
      exact ⟨((S.ext e5).set (by decide)).set (by decide), st_ne (by decide) s4', e5.lst hm, hV.ext e5⟩
    refine ⟨_, s10, rfl, _, rfl, ?_⟩
    by_cases hx0 : x = .non
    · subst hx0
      cases hg
      refine iteT ?_
      refine ⟨_, s4', _, rfl, ?_⟩
      refine fin _ H1 (Ext.refl _) ?_
      show _ = decide ((sprL n arcs).length = 1)
      cases hb : noneB n arcs with
      | true =>
        rw [decide_eq_false]
        · rfl
        · intro h
          rw [(none_iff W).mpr h] at hb
          cases hb
      | false =>
        rw [decide_eq_true ((none_iff W).mp hb)]
        rfl
    · rw [decide_eq_false hx0]
      refine iteF ?_
      have hsh : shB n arcs g = pB n arcs g := by
        cases hg with
        | non => exact absurd rfl hx0
        | _ => rfl
      refine ⟨_, s2, _, s10, a, x, n, arcs, g, rfl, S.web, W, hg, sg, fun H2 e2 => ?_⟩
      exact fin _ H2 e2 hsh.symm
  · rintro σ H1 ⟨S, _⟩
    exact k _ _ S
end
end Bel
set_option Elab.async false
set_option linter.all false
set_option maxRecDepth 100000
set_option maxHeartbeats 4000000
namespace Bel
open PySem PySem.Spec L2 GxR GxA BM

/-! #### how many states there may be -/
def allT (n : Int) : Nat → List (List Int)
  | 0 => [[]]
  | k + 1 => (people n).flatMap fun x => (allT n k).map (x :: ·)
theorem mem_allT {n : Int} : ∀ (k : Nat) (t : List Int), t.length = k → (∀ x ∈ t, 1 ≤ x ∧ x ≤ n) → t ∈ allT n k
  | 0, [], _, _ => by simp [allT]
  | k + 1, x :: t, hl, h => by
    rw [allT, List.mem_flatMap]
    exact ⟨x, mem_people.mpr (h x (by simp)), List.mem_map.mpr ⟨t, mem_allT k t (by simpa using hl) fun y hy => h y (by simp [hy]), rfl⟩⟩
theorem len_flat {α β : Type} (L : List β) (g : α → β → β) : ∀ l : List α, (l.flatMap fun x => L.map (g x)).length = l.length * L.length
  | [] => by simp
  | x :: l => by
    rw [List.flatMap_cons, List.length_append, len_flat L g l, List.length_map, List.length_cons, Nat.succ_mul, Nat.add_comm]
theorem len_allT (n : Int) : ∀ k : Nat, (allT n k).length = n.toNat ^ k
  | 0 => rfl
  | k + 1 => by
    rw [allT, len_flat (allT n k) (fun x t => x :: t), len_allT n k, len_people, Nat.pow_succ, Nat.mul_comm]
theorem count_rst {n : Int} {arcs : List Arc} (W : Web n arcs) (h4 : n ≤ 4) {ks : List (List Int)} (nd : ks.Nodup) (h : ∀ t ∈ ks, Rst n arcs t) : ks.length ≤ 256 := by
  have h1 := len_le_of_sub nd (m := allT n n.toNat) fun t ht => mem_allT _ t ((h t ht).len) ((h t ht).range W)
  rw [len_allT] at h1
  have h2 : n.toNat = 0 ∨ n.toNat = 1 ∨ n.toNat = 2 ∨ n.toNat = 3 ∨ n.toNat = 4 := by omega
  refine Nat.le_trans h1 ?_
  rcases h2 with e | e | e | e | e <;> rw [e] <;> decide
theorem all_rst {n : Int} {arcs : List Arc} {ks : List (List Int)} (h0 : people n ∈ ks) (h : ∀ t ∈ ks, ∀ x ∈ arcs, stepS t x ∈ ks) {t : List Int} (r : Rst n arcs t) : t ∈ ks := by
  induction r with
  | start => exact h0
  | step _ hx ih => exact h _ ih _ hx

/-! #### data of states -/
abbrev dT (t : List Int) : PyData := .tuple (t.map .int)
theorem lay_tups : ∀ l : List (List Int), PyData.canLayAll0 (l.map dT) = true
  | [] => by simp [PyData.canLayAll0]
  | x :: l => by
    rw [List.map_cons, PyData.canLayAll0, lay_tups l]
    have : PyData.canLay0 (dT x) = true := by
      show PyData.canLay0 (.tuple _) = true
      rw [PyData.canLay0]
      exact lay_ints x
    rw [this]
    rfl
theorem depth_tups : ∀ l : List (List Int), PyData.depthAll (l.map dT) ≤ 20
  | [] => by simp [PyData.depthAll]
  | x :: l => by
    rw [List.map_cons, PyData.depthAll]
    have := depth_tups l
    have h2 := depth_ints0 x
    have h3 : PyData.depth (dT x) ≤ 10 := by
      show PyData.depth (.tuple _) ≤ 10
      rw [PyData.depth]
      omega
    omega
theorem shaped_tups (l : List (List Int)) : SeqAt.shaped (.list (l.map dT)) = true := by
  have h1 := lay_tups l
  have h2 := depth_tups l
  have h3 : PyData.canLay0 (.list (l.map dT)) = true := by rw [PyData.canLay0]; exact h1
  have h4 : PyData.depth (.list (l.map dT)) ≤ 64 := by rw [PyData.depth]; omega
  unfold SeqAt.shaped
  rw [h3, decide_eq_true h4]
  rfl
theorem dp_tups {K : PySem.W.Frag} {H : Hp} : ∀ {rs : List Addr} {L : List (List Int)}, Paired (TupAt H) rs L → DpAll K H (rs.map V.ref) (L.map dT)
  | _, _, .nil => .nil
  | _, _, .cons h t => .cons (.tup (SqT.of h) (dp_ints _)) (dp_tups t)
/-- no tuple is touched where something else is written -/
theorem tups_upd {H : Hp} {p : Addr} {o o' : HO} {rs : List Addr} {L : List (List Int)} (hp : H p = some o) (ho : ∀ xs, o ≠ .tup xs) (h : Paired (TupAt H) rs L) : Paired (TupAt (upd H p o')) rs L :=
  Paired.mapP h fun b t z => by
    have z : H b = some (.tup (ivs t)) := z
    show upd H p o' b = _
    rw [upd_ne (ne_of z hp (by intro e; exact ho _ e.symm))]
    exact z
theorem tups_ext {H H' : Hp} {rs : List Addr} {L : List (List Int)} (e : Ext H H') (h : Paired (TupAt H) rs L) : Paired (TupAt H') rs L := Paired.mapP h fun b t z => e.tup z

/-- rows and known, B the heap ahead of both -/
structure KI (TT : List Addr) (a : Addr) (n : Int) (arcs : List Arc) (B : Hp) (l d : Addr) (rs : List Addr) (L ks : List (List Int)) (σ : L2.St) (H : Hp) : Prop where
  S : SW TT a n arcs σ B
  e : Ext B H
  d0 : B d = none
  sl : σ[12]? = some (some (.ref l))
  sd : σ[13]? = some (some (.ref d))
  hl : H l = some (.lst (rs.map V.ref))
  pp : Paired (TupAt H) rs L
  hd : H d = some (.dT (kt ks))
  nd : ks.Nodup
  pm : people n ∈ ks
  sub : ∀ t ∈ L, t ∈ ks
  rst : ∀ t ∈ ks, Rst n arcs t
  out : ∀ t ∈ ks, t ∉ L → ∀ x ∈ arcs, stepS t x ∈ ks
theorem KI.ext {TT : List Addr} {a : Addr} {n : Int} {arcs : List Arc} {B : Hp} {l d : Addr} {rs : List Addr} {L ks : List (List Int)} {σ : L2.St} {H H' : Hp} (I : KI TT a n arcs B l d rs L ks σ H) (e : Ext H H') : KI TT a n arcs B l d rs L ks σ H' :=
  ⟨I.S, I.e.trans e, I.d0, I.sl, I.sd, e.lst I.hl, tups_ext e I.pp, e.dT I.hd, I.nd, I.pm, I.sub, I.rst, I.out⟩
/-- within a turn of while: i rows done, of the next one j arcs -/
structure KJ (TT : List Addr) (a : Addr) (n : Int) (arcs : List Arc) (B : Hp) (l d m : Addr) (rs ns : List Addr) (L ks ms : List (List Int)) (done : List Int → Arc → Prop) (σ : L2.St) (H : Hp) : Prop where
  S : SW TT a n arcs σ B
  e : Ext B H
  d0 : B d = none
  m0 : B m = none
  ne : l ≠ m
  sl : σ[12]? = some (some (.ref l))
  sd : σ[13]? = some (some (.ref d))
  sm : σ[14]? = some (some (.ref m))
  hl : H l = some (.lst (rs.map V.ref))
  pp : Paired (TupAt H) rs L
  hd : H d = some (.dT (kt (ks ++ ms)))
  hm : H m = some (.lst (ns.map V.ref))
  pn : Paired (TupAt H) ns ms
  nd : (ks ++ ms).Nodup
  pm : people n ∈ ks
  sub : ∀ t ∈ L, t ∈ ks
  rst : ∀ t ∈ ks ++ ms, Rst n arcs t
  out : ∀ t ∈ ks, t ∉ L → ∀ x ∈ arcs, stepS t x ∈ ks
  dn : ∀ t x, done t x → stepS t x ∈ ks ++ ms
theorem KJ.ext {TT : List Addr} {a : Addr} {n : Int} {arcs : List Arc} {B : Hp} {l d m : Addr} {rs ns : List Addr} {L ks ms : List (List Int)} {done : List Int → Arc → Prop} {σ : L2.St} {H H' : Hp} (I : KJ TT a n arcs B l d m rs ns L ks ms done σ H) (e : Ext H H') : KJ TT a n arcs B l d m rs ns L ks ms done σ H' :=
  ⟨I.S, I.e.trans e, I.d0, I.m0, I.ne, I.sl, I.sd, I.sm, e.lst I.hl, tups_ext e I.pp, e.dT I.hd, e.lst I.hm, tups_ext e I.pn, I.nd, I.pm, I.sub, I.rst, I.out, I.dn⟩
theorem KJ.set {TT : List Addr} {a : Addr} {n : Int} {arcs : List Arc} {B : Hp} {l d m : Addr} {rs ns : List Addr} {L ks ms : List (List Int)} {done : List Int → Arc → Prop} {σ : L2.St} {H : Hp} (I : KJ TT a n arcs B l d m rs ns L ks ms done σ H) {i : Nat} {y : Option V} (h2 : i ≠ 2) (h12 : i ≠ 12) (h13 : i ≠ 13) (h14 : i ≠ 14) : KJ TT a n arcs B l d m rs ns L ks ms done (σ.set i y) H :=
  ⟨I.S.set h2, I.e, I.d0, I.m0, I.ne, st_ne h12 I.sl, st_ne h13 I.sd, st_ne h14 I.sm, I.hl, I.pp, I.hd, I.hm, I.pn, I.nd, I.pm, I.sub, I.rst, I.out, I.dn⟩
theorem KJ.to {TT : List Addr} {a : Addr} {n : Int} {arcs : List Arc} {B : Hp} {l d m : Addr} {rs ns : List Addr} {L ks ms : List (List Int)} {done done' : List Int → Arc → Prop} {σ : L2.St} {H : Hp} (I : KJ TT a n arcs B l d m rs ns L ks ms done σ H) (h : ∀ t x, done' t x → stepS t x ∈ ks ++ ms) : KJ TT a n arcs B l d m rs ns L ks ms done' σ H :=
  ⟨I.S, I.e, I.d0, I.m0, I.ne, I.sl, I.sd, I.sm, I.hl, I.pp, I.hd, I.hm, I.pn, I.nd, I.pm, I.sub, I.rst, I.out, h⟩
section
variable {P : Program} {w : World} {K : PySem.W.Frag} {mg : Str → Option Value} {base : Heap} {f : Addr} {cdv : Value} {A : Around} {outer : List Env} {s : Shared} {H0 : Hp} {E : XK} {TT : List Addr}
theorem kv_people (n : Int) : ((people n).map (Sum.inl : Int → Key)).map kV = ivs (people n) := kV_ints _
theorem st11 (hr : Room 5 (XL P w K mg base f cdv A outer s H0 E).A) (C : Callees P w K mg base TT) {a : Addr} {n : Int} {arcs : List Arc} : Stage (XL P w K mg base f cdv A outer s H0 E) (lst 11)
    (fun σ H => SW TT a n arcs σ H) (fun σ H => ∃ B l d rs L ks, KI TT a n arcs B l d rs L ks σ H) := by
  obtain ⟨f1, fd1, G1, c1⟩ := C.people
  refine ⟨_, ps_par (i := 12) (j := 13) rfl scLaw.nd rfl rfl (by decide) rfl rfl
    (pa_cons (pe_lst (pa_cons (pe_call G1 (hr.mono (by decide)) rfl c1.m c1.k c1.b .nil pass0 (pa_cons (pv 2) pa_nil)) pa_nil)) (pa_cons (pe_dispT (hu_of hr) (pe_call G1 (hr.mono (by decide)) rfl c1.m c1.k c1.b .nil pass0 (pa_cons (pv 2) pa_nil)) pe_bl) pa_nil)) rfl, ?_⟩
  rintro D σ H S k
  have L18 := S.len
  refine ⟨_, S.s2, a, n, arcs, rfl, S.web, S.W, fun q H1 e1 hq => ⟨by show 1 ≤ sizeLine; decide, fun l hl => ?_⟩⟩
  have e2 : Ext H1 (upd H1 l (.lst [.ref q])) := Ext.new hl
  refine fun d hd => ?_
  have e3 := Ext.new (o := .dT []) hd
  have e12 := e1.trans e2
  refine ⟨_, S.s2, a, n, arcs, rfl, S.web.ext (e12.trans e3), S.W, fun q2 H2 e4 hq2 => ?_⟩
  have hd2 : H2 d = some (.dT []) := e4.dT upd_same
  have e13 := e12.trans (e3.trans e4)
  have hq0 : TupAt H2 q (people n) := (e2.trans (e3.trans e4)).tup hq
  have hl0 : H2 l = some (.lst [.ref q]) := (e3.trans e4).lst upd_same
  refine ⟨hd2, q2, (people n).map Sum.inl, rfl, by rw [kv_people]; exact hq2, ?_⟩
  have hqd : q ≠ d := ne_of hq0 hd2 (by intro z; cases z)
  have hld : l ≠ d := ne_of hl0 hd2 (by intro z; cases z)
  refine ⟨_, _, rfl, k _ _ ⟨H, l, d, [q], [people n], [people n], (S.set (by decide)).set (by decide), e13.mut (e12.free hd), e12.free hd, st_ne (by decide) (st_eq (by rw [L18]; decide)), st_eq (by rw [List.length_set, L18]; decide), ?_, ?_, upd_same, by simp, by simp, by simp, ?_, ?_⟩⟩
  · rw [upd_ne hld]
    exact hl0
  · refine .cons ?_ .nil
    show upd H2 d _ q = _
    rw [upd_ne hqd]
    exact hq0
  · intro t ht
    rw [List.mem_singleton.mp ht]
    exact .start
  · intro t h1 h2
    exact absurd h1 h2

/-- behind while -/
def KZ (TT : List Addr) (a : Addr) (n : Int) (arcs : List Arc) (σ : L2.St) (H : Hp) : Prop := ∃ d ks, SW TT a n arcs σ H ∧ σ[13]? = some (some (.ref d)) ∧ H d = some (.dT (kt ks)) ∧ ks.Nodup ∧ people n ∈ ks ∧ (∀ t ∈ ks, Rst n arcs t) ∧ (n ≤ 4 → ∀ t, Rst n arcs t → t ∈ ks)
theorem st12 (hr : Room 5 (XL P w K mg base f cdv A outer s H0 E).A) (C : Callees P w K mg base TT) {a : Addr} {n : Int} {arcs : List Arc} : Stage (XL P w K mg base f cdv A outer s H0 E) (lst 12)
    (fun σ H => ∃ B l d rs L ks, KI TT a n arcs B l d rs L ks σ H) (fun σ H => KZ TT a n arcs σ H) := by
  obtain ⟨f1, fd1, G1, c1⟩ := C.over
  have T := C.T
  refine ⟨_, ps_while PassesOwn.never (PW.pt (pw_and (pt_cmpR (op_neD hr.units) (pv 12) (pe_lst pa_nil) (nomark _)) (pw_and1 (pt_cmpR op_le (pe_ix ix_tup (pv 2) pe_int (fun _ _ => rfl)) pe_int (nomark _)))))
    (pss_cons (ps_set (i := 14) scLaw.nd rfl (Or.inl rfl) (pe_lst pa_nil))
    (pss_cons (ps_for PassesOwn.never rfl (pi_list (pv 12)) (pg_name (i := 15) scLaw.nd rfl (Or.inl rfl))
      (pss_one (ps_for PassesOwn.never rfl (pi_range1 (by rfl) T.range (pa_cons (pe_callB call_len_seq (by rfl) T.len PySem.boot_len (pa_cons (pe_ix ix_tup (pv 2) pe_int (fun _ _ => rfl)) pa_nil)) pa_nil)) (pg_name (i := 16) scLaw.nd rfl (Or.inl rfl))
        (pss_cons (ps_set (i := 17) scLaw.nd rfl (Or.inl rfl) (pe_call G1 (hr.mono (by decide)) rfl c1.m c1.k c1.b .nil pass0 (pa_cons (pv 2) (pa_cons (pv 15) (pa_cons (pv 16) pa_nil)))))
        (pss_one (ps_if (pt_cmp (pc_dnotin (hu_of hr) (pv 17) (pv 13)))
          (pss_cons (ps_dput (hu_of hr) (pv 13) (pv 17) pe_bl rfl)
          (pss_one (ps_expr (pe_bm PySem.F.plainAttrs_list PySem.F.slot_list_append PySem.F.type_list_append mt_append (pv 14) (pa_cons (pv 17) pa_nil))))) pss_nil))))))
    (pss_one (ps_set (i := 12) scLaw.nd rfl (Or.inl rfl) (pv 14))))), ?_⟩
  rintro D σ H ⟨B, l, d, rs, L, ks, I⟩ k
  have W := I.S.W
  have done : ∀ {σ H l rs L ks}, KI TT a n arcs B l d rs L ks σ H → (n ≤ 4 → L = []) → D.nx σ H := fun {σ H l rs L ks} I h =>
    k _ _ ⟨d, ks, I.S.ext I.e, I.sd, I.hd, I.nd, I.pm, I.rst, fun h4 t ht => all_rst I.pm (fun t ht x hx => I.out t ht (by rw [h h4]; simp) x hx) ht⟩
  refine ⟨fun m σ H' => ∃ l rs L ks, KI TT a n arcs B l d rs L ks σ H' ∧ m = (256 - ks.length) * 2 + (if L = [] then 0 else 1), ⟨_, l, rs, L, ks, I, rfl⟩, ?_⟩
  rintro m σ H1 ⟨l, rs, L, ks, I, rfl⟩
  refine ⟨_, I.sl, by show 0 ≤ sizeLine; decide, fun p hp => ?_⟩
  have I1 := I.ext (Ext.new (o := .lst []) hp)
  refine ⟨.list (L.map dT), .list [], .lst (SqL.of I1.hl) (dp_tups I1.pp), .lst (SqL.of upd_same) .nil, shaped_tups _, shaped_l0, _, rfl, ?_⟩
  rw [eqv_l0, empty_map]
  clear I
  generalize upd H1 p (.lst []) = H2 at I1
  by_cases hL : L = []
  · rw [hL]
    refine iteF ?_
    refine iteF ?_
    exact done I1 fun _ => hL
  · have hLe : L.isEmpty = false := by
      cases L with
      | nil => exact absurd rfl hL
      | cons _ _ => rfl
    rw [hLe]
    refine iteT ?_
    obtain ⟨wb, wr, hwa, hwr, hwp⟩ := (I1.S.web.ext I1.e).ex
    refine ⟨_, I1.S.s2, a, _, _, _, rfl, rfl, SqT.of hwa, rfl, _, _, rfl, rfl, _, rfl, ?_⟩
    by_cases h4 : n ≤ 4
    · rw [decide_eq_true h4]
      refine iteT ?_
      refine ⟨fun σ' H' => ∃ m', m' < (256 - ks.length) * 2 + (if L = [] then 0 else 1) ∧ ∃ l rs L ks, KI TT a n arcs B l d rs L ks σ' H' ∧ m' = (256 - ks.length) * 2 + (if L = [] then 0 else 1), fun _ _ z => z, ?_⟩
      refine ⟨by show 0 ≤ sizeLine; decide, fun mm hmm => ?_⟩
      have L18 := I1.S.len
      have I2 := I1.ext (Ext.new (o := .lst []) hmm)
      have lm : l ≠ mm := ne_of_none I1.hl hmm
      have J0 : KJ TT a n arcs B l d mm rs [] L ks [] (fun t x => False) (σ.set 14 (some (.ref mm))) (upd H2 mm (.lst [])) :=
        ⟨I2.S.set (by decide), I2.e, I2.d0, I1.e.free hmm, lm, st_ne (by decide) I2.sl, st_ne (by decide) I2.sd, st_eq (by rw [L18]; decide), I2.hl, I2.pp, by rw [List.append_nil]; exact I2.hd, upd_same, .nil, by rw [List.append_nil]; exact I2.nd, I2.pm, I2.sub, by rw [List.append_nil]; exact I2.rst, I2.out, fun _ _ h => h.elim⟩
      refine ⟨_, J0.sl, l, rfl, ⟨_, SqL.of J0.hl⟩, ?_⟩
      have hrl : rs.length = L.length := paired_len J0.pp
      refine for_list (xs := rs.map V.ref) (fun i σ H' => ∃ ns ms, KJ TT a n arcs B l d mm rs ns L ks ms (fun t x => t ∈ L.take i ∧ x ∈ arcs) σ H') ⟨[], [], J0.to (by rintro t x ⟨h, _⟩; simp at h)⟩ (fun i σ H' _ z => by obtain ⟨_, _, J⟩ := z; exact SqL.of J.hl) ?_ ?_
      · rintro i x σ H3 hx ⟨ns, ms, J⟩
        obtain ⟨r, hr1, rfl⟩ := get_map hx
        obtain ⟨t, ht, hrt⟩ := paired_at J.pp hr1
        have htL : t ∈ L := List.mem_of_getElem? ht
        have J := J.set (i := 15) (y := some (V.ref r)) (by decide) (by decide) (by decide) (by decide)
        have s15 : (σ.set 15 (some (V.ref r)))[15]? = some (some (.ref r)) := by
          have := J.S.len
          rw [List.length_set] at this
          exact st_eq (by omega)
        obtain ⟨wb, wr, hwa, hwr, hwp⟩ := (J.S.web.ext J.e).ex
        have wl : wr.length = arcs.length := paired_len hwp
        have alen := W.len
        refine ⟨_, J.S.s2, a, _, _, _, rfl, rfl, SqT.of hwa, rfl, wb, _, rfl, .inr (SqT.of hwr), _, rfl, ?_, ?_, ?_⟩
        · rw [List.length_map]; omega
        · rw [List.length_map]; omega
        have hn : (((wr.map V.ref).length : Nat) : Int).toNat = arcs.length := by rw [List.length_map]; omega
        rw [hn]
        refine for_range (fun j σ H' => σ[15]? = some (some (.ref r)) ∧ TupAt H' r t ∧ ∃ ns ms, KJ TT a n arcs B l d mm rs ns L ks ms (fun u x => (u ∈ L.take i ∧ x ∈ arcs) ∨ (u = t ∧ x ∈ arcs.take j)) σ H') ⟨s15, hrt, ns, ms, J.to (by rintro u x (h | ⟨_, h⟩); exact J.dn u x h; simp at h)⟩ ?_ ?_
        · rintro j σ H4 hj ⟨s15, hrt, ns, ms, J⟩
          have L18 := J.S.len
          have hy : arcs[j]? = some arcs[j] := List.getElem?_eq_getElem hj
          have hmem : arcs[j] ∈ arcs := List.getElem_mem hj
          have htk : t ∈ ks := J.sub t htL
          have hts : Rst n arcs t := J.rst t (List.mem_append_left _ htk)
          have s16 : (σ.set 16 (some (V.int (0 + (j : Int)))))[16]? = some (some (.int ((j : Nat) : Int))) := by
            rw [show (0 + (j : Int)) = (j : Int) by omega]
            exact st_eq (by rw [L18]; decide)
          have J1 := J.set (i := 16) (y := some (V.int (0 + (j : Int)))) (by decide) (by decide) (by decide) (by decide)
          refine ⟨_, J1.S.s2, _, st_ne (by decide) s15, _, s16, a, r, j, n, arcs, t, arcs[j], rfl, J1.S.web.ext J1.e, W, hrt, hts.len, hy, fun q H5 e5 hq => ?_⟩
          have J2 := (J1.ext e5).set (i := 17) (y := some (V.ref q)) (by decide) (by decide) (by decide) (by decide)
          have s17 : ((σ.set 16 (some (V.int (0 + (j : Int))))).set 17 (some (V.ref q)))[17]? = some (some (.ref q)) := st_eq (by rw [List.length_set, L18]; decide)
          have s15' : ((σ.set 16 (some (V.int (0 + (j : Int))))).set 17 (some (V.ref q)))[15]? = some (some (.ref r)) := st_ne (by decide) (st_ne (by decide) s15)
          have hrt5 := e5.tup hrt
          refine ⟨_, s17, _, J2.sd, d, _, rfl, DGet.t (k := (stepS t arcs[j]).map Sum.inl) J2.hd (by rw [kV_ints]; exact hq), _, rfl, ?_⟩
          rw [kt_val]
          have tk1 : ∀ x, x ∈ arcs.take (j + 1) → x ∈ arcs.take j ∨ x = arcs[j] := fun x hx => by
            rw [List.take_add_one, hy] at hx
            rcases List.mem_append.mp hx with hx | hx
            · exact .inl hx
            · exact .inr (List.mem_singleton.mp hx)
          by_cases hm : stepS t arcs[j] ∈ ks ++ ms
          · rw [decide_eq_true hm]
            refine iteF ?_
            refine ⟨s15', hrt5, ns, ms, J2.to ?_⟩
            rintro u x (h | ⟨rfl, h⟩)
            · exact J2.dn u x (.inl h)
            · rcases tk1 x h with h | rfl
              · exact J2.dn _ x (.inr ⟨rfl, h⟩)
              · exact hm
          · rw [decide_eq_false hm]
            refine iteT ?_
            have hst : Rst n arcs (stepS t arcs[j]) := .step hts hmem
            have nd2 : (ks ++ (ms ++ [stepS t arcs[j]])).Nodup := by
              rw [← List.append_assoc]
              exact List.nodup_append.mpr ⟨J2.nd, by simp, fun x hx z hz e => hm (by rw [← List.mem_singleton.mp hz, ← e]; exact hx)⟩
            have rst2 : ∀ u ∈ ks ++ (ms ++ [stepS t arcs[j]]), Rst n arcs u := fun u hu => by
              rw [← List.append_assoc] at hu
              rcases List.mem_append.mp hu with hu | hu
              · exact J2.rst u hu
              · rw [List.mem_singleton.mp hu]
                exact hst
            have c1 := count_rst W h4 J2.nd J2.rst
            have nl : ns.length = ms.length := paired_len J2.pn
            have ml : ms.length ≤ 256 := by rw [List.length_append] at c1; omega
            refine ⟨_, J2.sd, _, s17, d, _, rfl, DPut.t (k := (stepS t arcs[j]).map Sum.inl) J2.hd (by rw [kV_ints]; exact hq) (by rw [List.length_map, sizeLine_eq]; omega), ?_⟩
            rw [kt_put, show addK (ks ++ ms) (stepS t arcs[j]) = ks ++ ms ++ [stepS t arcs[j]] from if_neg hm]
            have hdT : ∀ xs, HO.dT (kt (ks ++ ms)) ≠ .tup xs := fun xs e => nomatch e
            have md : mm ≠ d := ne_of J2.hm J2.hd (by intro z; cases z)
            have ld : l ≠ d := ne_of J2.hl J2.hd (by intro z; cases z)
            have J3hm : (upd H5 d (.dT (kt (ks ++ ms ++ [stepS t arcs[j]])))) mm = some (.lst (ns.map V.ref)) := by rw [upd_ne md]; exact J2.hm
            have hlT : ∀ xs, HO.lst (ns.map V.ref) ≠ .tup xs := fun xs e => nomatch e
            refine ⟨_, J2.sm, .inl ⟨rfl, _, SqL.of J3hm⟩, _, s17, mm, _, _, rfl, rfl, J3hm, by rw [List.length_map, sizeLine_eq]; omega, ?_⟩
            have keep : ∀ (b : Addr) (u : List Int), TupAt H5 b u → TupAt (upd (upd H5 d (.dT (kt (ks ++ ms ++ [stepS t arcs[j]])))) mm (.lst (ns.map V.ref ++ [V.ref q]))) b u := fun b u hb => by
              have hb : H5 b = some (.tup (ivs u)) := hb
              have h1 : b ≠ d := ne_of hb J2.hd (by intro z; cases z)
              have h2 : b ≠ mm := ne_of hb J2.hm (by intro z; cases z)
              show upd _ mm _ b = _
              rw [upd_ne h2, upd_ne h1]
              exact hb
            refine ⟨s15', keep r t hrt5, ns ++ [q], ms ++ [stepS t arcs[j]], J2.S, (J2.e.mut J2.d0).mut J2.m0, J2.d0, J2.m0, J2.ne, J2.sl, J2.sd, J2.sm, ?_, Paired.mapP J2.pp fun b u z => keep b u z, ?_, ?_, Paired.snoc (Paired.mapP J2.pn fun b u z => keep b u z) (keep q _ hq), nd2, J2.pm, J2.sub, rst2, J2.out, ?_⟩
            · rw [upd_ne J2.ne, upd_ne ld]
              exact J2.hl
            · rw [upd_ne md.symm, upd_same, List.append_assoc]
            · rw [upd_same, List.map_append]
              rfl
            · rw [← List.append_assoc]
              rintro u x (h | ⟨rfl, h⟩)
              · exact List.mem_append_left _ (J2.dn u x (.inl h))
              · rcases tk1 x h with h | rfl
                · exact List.mem_append_left _ (J2.dn _ x (.inr ⟨rfl, h⟩))
                · simp
        · rintro σ H4 ⟨s15, hrt, ns, ms, J⟩
          refine ⟨ns, ms, J.to ?_⟩
          rintro u x ⟨hu, hx⟩
          rw [List.take_add_one, ht] at hu
          rcases List.mem_append.mp hu with hu | hu
          · exact J.dn u x (.inl ⟨hu, hx⟩)
          · exact J.dn u x (.inr ⟨List.mem_singleton.mp hu, by rw [List.take_length]; exact hx⟩)
      · rintro σ H3 ⟨ns, ms, J⟩
        rw [List.length_map, hrl, List.take_length] at J
        have c1 := count_rst W h4 J.nd J.rst
        have L18 := J.S.len
        refine ⟨_, J.sm, _, ?_, mm, ns, ms, ks ++ ms, ⟨J.S.set (by decide), J.e, J.d0, st_eq (by rw [L18]; decide), st_ne (by decide) J.sd, J.hm, J.pn, J.hd, J.nd, List.mem_append_left _ J.pm, fun u hu => List.mem_append_right _ hu, J.rst, fun u h1 h2 x hx => ?_⟩, rfl⟩
        · rw [if_neg hL]
          rw [List.length_append] at c1 ⊢
          cases ms with
          | nil => rw [if_pos rfl]; simp
          | cons z zs => rw [if_neg (by simp), List.length_cons] at *; omega
        · rcases List.mem_append.mp h1 with h1 | h1
          · by_cases h3 : u ∈ L
            · exact J.dn u x ⟨h3, hx⟩
            · exact List.mem_append_left _ (J.out u h1 h3 x hx)
          · exact absurd h1 h2
    · rw [decide_eq_false h4]
      refine iteF ?_
      exact done I1 fun h => absurd h h4
end
end Bel
set_option Elab.async false
set_option linter.all false
set_option maxRecDepth 100000
set_option maxHeartbeats 4000000
namespace Bel
open PySem PySem.Spec L2 GxR GxA BM

theorem kLenSet {X : Cx} (K : PySem.W.Frag) (h : X.K = K) {a : Expr} {ta : TE} {p p2 q pos : Pos} (hc : X.calm = true) (hg : Gl X "len") (hm : X.mg "len" = none) (hg2 : Gl X "set") (hm2 : X.mg "set" = none) (ha : PE X a ta)
    (na : starEach [a] X.env = (false, eval a X.env) :: starEach [] X.env := by rfl) : PE X (.Call (.Name "len" p) [.Call (.Name "set" p2) [a] [] q] [] pos) (tLenSetT K ta) := h ▸ pe_lenSetT hc hg hm hg2 hm2 ha na
theorem Ext.frz {H H' : Hp} (e : Ext H H') {a : Addr} {o : Obj} {u : HO} (h : H a = some (.frz o u)) : H' a = some (.frz o u) := by
  rcases e a _ h with z | ⟨_, _, z, _⟩
  · exact z
  · cases z
/-- v counts the signs of t -/
def Ct (t : List Int) (v : Int) : Prop := ∃ D : List Int, D.Nodup ∧ (∀ k, k ∈ D ↔ k ∈ t) ∧ v = (D.length : Nat)
theorem paired_mem {α β : Type} {F : α → β → Prop} : ∀ {l : List α} {m : List β}, Paired F l m → ∀ y ∈ m, ∃ x ∈ l, F x y
  | _, _, .nil, _, h => nomatch h
  | _, _, .cons r t, y, h => by
    rcases List.mem_cons.mp h with rfl | h
    · exact ⟨_, List.mem_cons_self, r⟩
    · obtain ⟨x, hx, hf⟩ := paired_mem t y h
      exact ⟨x, List.mem_cons_of_mem _ hx, hf⟩
theorem paired_mem2 {α β : Type} {F : α → β → Prop} : ∀ {l : List α} {m : List β}, Paired F l m → ∀ x ∈ l, ∃ y ∈ m, F x y
  | _, _, .nil, _, h => nomatch h
  | _, _, .cons r t, y, h => by
    rcases List.mem_cons.mp h with rfl | h
    · exact ⟨_, List.mem_cons_self, r⟩
    · obtain ⟨x, hx, hf⟩ := paired_mem2 t y h
      exact ⟨x, List.mem_cons_of_mem _ hx, hf⟩
section
variable {P : Program} {w : World} {K : PySem.W.Frag} {mg : Str → Option Value} {base : Heap} {f : Addr} {cdv : Value} {A : Around} {outer : List Env} {s : Shared} {H0 : Hp} {E : XK} {TT : List Addr}
theorem st13 (hr : Room 5 (XL P w K mg base f cdv A outer s H0 E).A) (C : Callees P w K mg base TT) {a : Addr} {n : Int} {arcs : List Arc} : Last (XL P w K mg base f cdv A outer s H0 E) (lst 13)
    (fun σ H => KZ TT a n arcs σ H) (fun v => v = .bl true) := by
  obtain ⟨f1, fd1, G1, c1⟩ := C.least
  have T := C.T
  refine ⟨_, ps_ret (pe_or (pe_cmpR op_gt (pe_ix ix_tup (pv 2) pe_int (fun _ _ => rfl)) pe_int (nomark _)) (pe_one (pe_cmpR op_eq (pe_call G1 hr rfl c1.m c1.k c1.b .nil pass0 (pa_cons (pv 2) pa_nil))
    (pe_callB (cr_min rfl) (by rfl) T.min (by decide +kernel) (pa_cons (pe_lock (pe_lc (own := [("_law_here", 15)]) (g := gName 15) (tt := tYes) rfl scLaw.nd (pi_keys (pv 13)) (blkOk_by (own := [("_law_here", 15)]) (N := LN) (sc := defScope sLaw) (by decide +kernel))
      (fun _ _ _ _ _ => pg_name (i := 15) scLaw.nd rfl (Or.inl rfl)) (fun _ _ _ _ _ => pts_nil)
      (fun _ _ _ _ _ => kLenSet K rfl rfl (by rfl) T.len (by rfl) T.set (pv 15)))) pa_nil)) (nomark _)))), ?_⟩
  rintro D9 σ H ⟨d, ks, S, sd, hd, nd, pm, rst, all⟩ k
  have W := S.W
  have L18 := S.len
  obtain ⟨wb, rs, hwa, _, _⟩ := S.web.ex
  refine ⟨_, S.s2, a, _, _, _, rfl, rfl, SqT.of hwa, rfl, _, _, rfl, rfl, _, rfl, ?_⟩
  by_cases h4 : n ≤ 4
  · rw [decide_eq_false (show ¬ ((4 : Int) < n) by omega)]
    refine iteF ?_
    refine ⟨_, S.s2, a, n, arcs, rfl, S.web, W, S.tabs, fun H1 e1 => ?_⟩
    have hd1 := e1.dT hd
    refine ⟨d, .dT (kt ks), hd1, trivial, fun od => ?_⟩
    have hfz : (upd H1 d (.frz od (.dT (kt ks)))) d = some (.frz od (.dT (kt ks))) := upd_same
    generalize upd H1 d (.frz od (.dT (kt ks))) = H2 at hfz ⊢
    refine ⟨_, sd, d, od, rfl, .inr ⟨kt ks, hfz, fun D hD => ?_⟩⟩
    have hDd : D ≠ d := (ne_of_none hfz hD).symm
    have klen : ks.length ≤ 256 := count_rst W h4 nd rst
    refine turns_by (kt ks).length (fun i H' => Ext H2 H' ∧ ∃ vs : List Int, H' D = some (.lst (ivs vs)) ∧ vs.length ≤ i ∧ Paired Ct (ks.take i) vs) ⟨Ext.new hD, [], upd_same, Nat.le_refl _, .nil⟩ (fun i H' hi0 z => ⟨⟨z.1.frz hfz, hi0⟩, fun x9 H9 y9 => ?_⟩) (fun H' z => ⟨⟨z.1.frz hfz, Nat.le_refl _⟩, ?_⟩)
    · obtain ⟨rfl, kk, v, b, hk, rfl, hb⟩ := y9
      obtain ⟨e, vs, hv, hvl, pp⟩ := z
      obtain ⟨t, ht, hkv⟩ := get_map hk
      injection hkv with hk1 hk2
      subst hk1
      rw [kV_ints] at hb
      have hi : i < ks.length := (List.getElem?_eq_some_iff.mp ht).1
      have hts := rst t (List.mem_of_getElem? ht)
      have tl := hts.len
      have nhi := W.hi
      have s15 : ((wipe σ (List.map (fun x : Str × Nat => x.2) [("_law_here", 15)])).set 15 (some (V.ref b)))[15]? = some (some (.ref b)) := st_eq (by show 15 < (σ.set 15 none).length; rw [List.length_set, L18]; decide)
      refine ⟨by show ((σ.set 15 none).set 15 _).set 15 none = σ.set 15 none; rw [List.set_set, List.set_set], ?_⟩
      simp only [tYes, if_true]
      refine ⟨_, s15, b, t, rfl, SqT.of hb, by omega, fun Dd nD mD => ?_⟩
      refine ⟨_, hv, by rw [List.length_map, sizeLine_eq]; omega, e.mut hD, vs ++ [((Dd.length : Nat) : Int)], ?_, by rw [List.length_append]; simp; omega, ?_⟩
      · rw [upd_same]
        show some (HO.lst _) = some (HO.lst (ivs _))
        rw [show ivs (vs ++ [((Dd.length : Nat) : Int)]) = _ from List.map_append ..]
        rfl
      · rw [List.take_add_one, ht]
        exact Paired.snoc pp ⟨Dd, nD, mD, rfl⟩
    · obtain ⟨e, vs, hv, hvl, pp⟩ := z
      rw [List.length_map, List.take_length] at pp
      refine ⟨e.frz hfz, D, vs, rfl, SqL.of (by rw [upd_ne hDd]; exact hv), ?_, fun m hm hmin => ?_⟩
      · obtain ⟨y, hy, _⟩ := paired_mem2 pp _ pm
        exact List.length_pos_of_mem hy
      · refine ⟨rfl, ?_⟩
        refine k _ _ ?_
        rw [dec_int]
        obtain ⟨t, ht, D1, n1, m1, e9⟩ := paired_mem pp m hm
        have g1 := left_ge W (rst t ht) (D := D1) fun x hx => (m1 x).mpr hx
        obtain ⟨t2, r2, h2⟩ := left_le W
        obtain ⟨v2, hv2, D2, n2, m2, e8⟩ := paired_mem2 pp t2 (all h4 t2 r2)
        have g2 := h2 D2 n2 fun x hx => (m2 x).mp hx
        have g3 := hmin v2 hv2
        have : ((sprL n arcs).length : Int) = m := by omega
        rw [this]
        simp
  · rw [decide_eq_true (show (4 : Int) < n by omega)]
    refine iteT ?_
    exact k _ _ rfl

/-! #### the law -/
/-- whatever reading the statement has -/
def tAny (X : Cx) (st : Stmt) : TS := fun D σ H => ∃ t, PS X st t ∧ t D σ H
theorem any_ps {X : Cx} {st : Stmt} : PS X st (tAny X st) := ⟨fun pins s σ H D I h => by
  obtain ⟨t, p, q⟩ := h
  exact p.run pins s σ H D I q⟩
theorem Stage.any {X : Cx} {st : Stmt} {Pre Post : L2.St → Hp → Prop} (S : Stage X st Pre Post) {D : Ends} {σ : L2.St} {H : Hp} (h : Pre σ H) (k : ∀ σ' H', Post σ' H' → D.nx σ' H') : tAny X st D σ H := by
  obtain ⟨t, p, q⟩ := S
  exact ⟨t, p, q D σ H h k⟩
theorem Last.any {X : Cx} {st : Stmt} {Pre : L2.St → Hp → Prop} {R : V → Prop} (S : Last X st Pre R) {D : Ends} {σ : L2.St} {H : Hp} (h : Pre σ H) (k : ∀ v H', R v → D.rt v H') : tAny X st D σ H := by
  obtain ⟨t, p, q⟩ := S
  exact ⟨t, p, q D σ H h k⟩
def spLaw (K : PySem.W.Frag) (TT : List Addr) : Sp := fun vs H Q _ => ∃ (sc : Addr) (ns : List Int), vs = [.ref sc] ∧ SqL K H sc (ivs ns) ∧ Tabs TT H ∧ ∀ H', Q (.bl true) H'
theorem ok_law {f : Addr} {fd : FuncData} (F : Fun K "law" "law" sLaw f fd) (C : Callees P w K mg base TT) : FnOk P w K mg base CX0 6 f fd ["_law_script"] (spLaw K TT) := by
  refine F.ok scLaw (fun vs H Q E h => ?_) (fun cdv A outer s H vs Q E hr h => ?_)
  · obtain ⟨sc, ns, rfl, _⟩ := h
    rfl
  · obtain ⟨sc, ns, rfl, hs, hT, k⟩ := h
    have hr' : Room 5 (XL P w K mg base f cdv A outer s H E).A := hr
    have hb : defBody sLaw = [lst 0, lst 1, lst 2, lst 3, lst 4, lst 5, lst 6, lst 7, lst 8, lst 9, lst 10, lst 11, lst 12, lst 13] := rfl
    rw [hb]
    refine ⟨_, pss_cons any_ps (pss_cons any_ps (pss_cons any_ps (pss_cons any_ps (pss_cons any_ps (pss_cons any_ps (pss_cons any_ps (pss_cons any_ps (pss_cons any_ps (pss_cons any_ps (pss_cons any_ps (pss_cons any_ps (pss_cons any_ps (pss_one any_ps))))))))))))), ?_⟩
    refine (st0 C).any ⟨sc, ns, rfl, hs, hT⟩ fun σ H1 z => ?_
    refine (st1 hr' C).any z fun σ H1 z => ?_
    obtain ⟨a, n, arcs, z⟩ := z
    refine (st2 hr' C).any z fun σ H1 z => ?_
    refine (st3 hr' C).any z fun σ H1 z => ?_
    refine (st4 hr' C).any z fun σ H1 z => ?_
    refine st5.any z fun σ H1 z => ?_
    refine (st6 hr' C).any z fun σ H1 z => ?_
    refine st7.any z fun σ H1 z => ?_
    refine (st8 C).any z fun σ H1 z => ?_
    refine st9.any z fun σ H1 z => ?_
    refine (st10 hr' C).any z fun σ H1 z => ?_
    refine (st11 hr' C).any z fun σ H1 z => ?_
    refine (st12 hr' C).any z fun σ H1 z => ?_
    refine (st13 hr' C).any z fun v H1 z => ?_
    rw [z]
    exact k H1
end
end Bel
set_option Elab.async false
set_option linter.all false
set_option maxRecDepth 100000
set_option maxHeartbeats 4000000
namespace Bel
open PySem PySem.Spec L2 GxR GxA BM

/-! ### what the top has written -/
structure Dfn (K : PySem.W.Frag) (x : Str) (st : Stmt) : Prop where
  ex : ∃ (f : Addr) (oc : Value) (od : Option Addr) (kV dc pm : Value) (an : Option Addr) (cd ct : Value) (sl : Array (Option Value)), PySem.W.nsIn K mainGlobals x = some (some (.ref f)) ∧
    K.lookup f = some ⟨oc, od, .func (PySem.W.fnOf x x (defArgs st) (defBody st) (defScope st) .none kV dc pm an cd ct), sl⟩ ∧ PySem.W.codeIn K cd x = true ∧ PySem.W.keepIn K (.ref f) = true
theorem dfn_mk {K : PySem.W.Frag} {x : Str} {st : Stmt} {f : Addr} {oc : Value} {od : Option Addr} {kV dc pm : Value} {an : Option Addr} {cd ct : Value} {sl : Array (Option Value)} (a : PySem.W.nsIn K mainGlobals x = some (some (.ref f)))
    (l : K.lookup f = some ⟨oc, od, .func (PySem.W.fnOf x x (defArgs st) (defBody st) (defScope st) .none kV dc pm an cd ct), sl⟩) (c : PySem.W.codeIn K cd x = true) (k : PySem.W.keepIn K (.ref f) = true) : Dfn K x st := ⟨⟨f, oc, od, kV, dc, pm, an, cd, ct, sl, a, l, c, k⟩⟩
theorem Dfn.get {K : PySem.W.Frag} {x : Str} {st : Stmt} {h : Heap} {mg : Str → Option Value} (D : Dfn K x st) (X : K.In h) (G : h.Ns mainGlobals mg) : ∃ f fd, Fun K x x st f fd ∧ mg x = some (.ref f) ∧ PySem.W.keepIn K (.ref f) = true := by
  obtain ⟨f, oc, od, kV, dc, pm, an, cd, ct, sl, a, l, c, k⟩ := D.ex
  exact ⟨f, _, fun_mk l c k, PySem.W.mg_of X G a, k⟩
/-- a def with a table of code objects, empty as yet -/
structure DfnT (K : PySem.W.Frag) (x : Str) (st : Stmt) (c Q : Addr) : Prop where
  ex : ∃ (f : Addr) (oc : Value) (od : Option Addr) (kV dc pm : Value) (an : Option Addr) (ct : Value) (sl : Array (Option Value)), PySem.W.nsIn K mainGlobals x = some (some (.ref f)) ∧
    K.lookup f = some ⟨oc, od, .func (PySem.W.fnOf x x (defArgs st) (defBody st) (defScope st) .none kV dc pm an (.ref c) ct), sl⟩ ∧ PySem.W.codeIn K (.ref c) x = true ∧ PySem.W.keepIn K (.ref f) = true
  t : PySem.W.tabIn K x = some (c, Q)
  n : K.lookup Q = none
theorem dfnT_mk {K : PySem.W.Frag} {x : Str} {st : Stmt} {f c Q : Addr} {oc oc2 : Value} {od od2 : Option Addr} {kV dc pm : Value} {an : Option Addr} {ct : Value} {sl sl2 : Array (Option Value)} {vs : Array Value} (a : PySem.W.nsIn K mainGlobals x = some (some (.ref f)))
    (l : K.lookup f = some ⟨oc, od, .func (PySem.W.fnOf x x (defArgs st) (defBody st) (defScope st) .none kV dc pm an (.ref c) ct), sl⟩) (cc : PySem.W.codeIn K (.ref c) x = true) (k : PySem.W.keepIn K (.ref f) = true)
    (lc : K.lookup c = some ⟨oc2, od2, .fields vs, sl2⟩) (hv : vs[11]? = some (.ref Q)) (n : K.lookup Q = none) : DfnT K x st c Q := by
  refine ⟨⟨f, oc, od, kV, dc, pm, an, ct, sl, a, l, cc, k⟩, ?_, n⟩
  unfold PySem.W.tabIn
  simp only [a, l]
  simp only [PySem.W.fnOf, lc, hv]
theorem DfnT.get {K : PySem.W.Frag} {x : Str} {st : Stmt} {c Q : Addr} {h : Heap} {mg : Str → Option Value} (D : DfnT K x st c Q) (X : K.In h) (G : h.Ns mainGlobals mg) : ∃ f fd, Fun K x x st f fd ∧ mg x = some (.ref f) ∧ PySem.W.keepIn K (.ref f) = true ∧ fd.code = .ref c := by
  obtain ⟨f, oc, od, kV, dc, pm, an, ct, sl, a, l, cc, k⟩ := D.ex
  exact ⟨f, _, fun_mk l cc k, PySem.W.mg_of X G a, k, rfl⟩

theorem all_mk {l : PySem.W.OpenLaw} {w : World} {K : PySem.W.Frag} {h : Heap} {mg mb : Str → Option Value} {fa : Addr} {p : Program} {loose : List Str} {mean : ExcName → Option Value} (T0 : PyProof.Rows.Top p loose mean mg mb h) (X : K.In h) (hfa : mg "law" = some (.ref fa))
    {q1 r1 q8 r8 q10 r10 q12 r12 q13 r13 : Addr}
    (d0 : Dfn K "is_in" sIsIn) (d1 : DfnT K "is_arc" sIsArc q1 r1) (d2 : Dfn K "need_web" sNeed) (d3 : Dfn K "people" sPeople) (d4 : Dfn K "hearers" sHearers) (d5 : Dfn K "winners_of" sWinOf) (d6 : Dfn K "winners" sWinners) (d7 : Dfn K "sources" sSources) (d8 : DfnT K "springs_of" sSprings q8 r8) (d9 : Dfn K "least_left" sLeast) (d10 : DfnT K "is_closed" sClosed q10 r10) (d11 : Dfn K "parted" sParted) (d12 : DfnT K "is_group" sGroup q12 r12) (d13 : DfnT K "shows_parted" sShows q13 r13) (d14 : Dfn K "_law_taken" sTaken) (d15 : Dfn K "_law_alike" sAlike) (d16 : Dfn K "_law_web" sWeb) (d17 : Dfn K "_law_taken_over" sOver) (d18 : Dfn K "_law_people" sLPeople) (d19 : Dfn K "_law_heard" sHeard) (d20 : Dfn K "_law_is_group" sLGroup) (d21 : Dfn K "_law_is_parted" sLParted) (d22 : Dfn K "law" sLaw)
    (h1 : ((PyProof.Rows.recsOf p).find? (fun e => e.name == ("is_arc" : Str))).isSome = true) (h8 : ((PyProof.Rows.recsOf p).find? (fun e => e.name == ("springs_of" : Str))).isSome = true) (h10 : ((PyProof.Rows.recsOf p).find? (fun e => e.name == ("is_closed" : Str))).isSome = true) (h12 : ((PyProof.Rows.recsOf p).find? (fun e => e.name == ("is_group" : Str))).isSome = true) (h13 : ((PyProof.Rows.recsOf p).find? (fun e => e.name == ("shows_parted" : Str))).isSome = true)
    (z0 : PySem.W.nsIn K mainGlobals "isinstance" = some none) (z1 : PySem.W.nsIn K mainGlobals "int" = some none) (z2 : PySem.W.nsIn K mainGlobals "bool" = some none) (z3 : PySem.W.nsIn K mainGlobals "tuple" = some none) (z4 : PySem.W.nsIn K mainGlobals "list" = some none) (z5 : PySem.W.nsIn K mainGlobals "str" = some none) (z6 : PySem.W.nsIn K mainGlobals "len" = some none) (z7 : PySem.W.nsIn K mainGlobals "all" = some none) (z8 : PySem.W.nsIn K mainGlobals "any" = some none) (z9 : PySem.W.nsIn K mainGlobals "enumerate" = some none) (z10 : PySem.W.nsIn K mainGlobals "range" = some none) (z11 : PySem.W.nsIn K mainGlobals "sorted" = some none) (z12 : PySem.W.nsIn K mainGlobals "min" = some none) (z13 : PySem.W.nsIn K mainGlobals "set" = some none)
    {tp ta : Tok} (mp : PySem.W.nsIn K mainGlobals "MOST_PEOPLE" = some (some (.int 6 tp))) (ma : PySem.W.nsIn K mainGlobals "MOST_ARCS" = some (some (.int 12 ta))) :
    LamX.LawAtS l w K CX0 6 63 "_law_script" mg fa h := by
  have G : h.Ns mainGlobals mg := T0.g
  obtain ⟨e1, h1⟩ := Option.isSome_iff_exists.mp h1
  have g1 := PySem.W.tab_of T0 X h1 d1.t
  obtain ⟨e8, h8⟩ := Option.isSome_iff_exists.mp h8
  have g8 := PySem.W.tab_of T0 X h8 d8.t
  obtain ⟨e10, h10⟩ := Option.isSome_iff_exists.mp h10
  have g10 := PySem.W.tab_of T0 X h10 d10.t
  obtain ⟨e12, h12⟩ := Option.isSome_iff_exists.mp h12
  have g12 := PySem.W.tab_of T0 X h12 d12.t
  obtain ⟨e13, h13⟩ := Option.isSome_iff_exists.mp h13
  have g13 := PySem.W.tab_of T0 X h13 d13.t
  have T : Txt K mg := ⟨PySem.W.mg_none_of X G z0, PySem.W.mg_none_of X G z1, PySem.W.mg_none_of X G z2, PySem.W.mg_none_of X G z3, PySem.W.mg_none_of X G z4, PySem.W.mg_none_of X G z5, PySem.W.mg_none_of X G z6, PySem.W.mg_none_of X G z7, PySem.W.mg_none_of X G z8, PySem.W.mg_none_of X G z9, PySem.W.mg_none_of X G z10, PySem.W.mg_none_of X G z11, PySem.W.mg_none_of X G z12, PySem.W.mg_none_of X G z13, ⟨tp, PySem.W.mg_of X G mp⟩, ⟨ta, PySem.W.mg_of X G ma⟩⟩
  obtain ⟨f0, fd0, F0, m0, k0⟩ := d0.get X G
  have c0 : Cal K mg "is_in" ["value", "least", "most"] f0 fd0 := ⟨m0, k0, F0.binds (ps := ["value", "least", "most"]) fun _ _ _ _ _ _ us hl => match us, hl with | [_, _, _], _ => rfl⟩
  obtain ⟨f1, fd1, F1, m1, k1, hc1⟩ := d1.get X G
  have c1 : Cal K mg "is_arc" ["size", "value"] f1 fd1 := ⟨m1, k1, F1.binds (ps := ["size", "value"]) fun _ _ _ _ _ _ us hl => match us, hl with | [_, _], _ => rfl⟩
  obtain ⟨f2, fd2, F2, m2, k2⟩ := d2.get X G
  have c2 : Cal K mg "need_web" ["web"] f2 fd2 := ⟨m2, k2, F2.binds (ps := ["web"]) fun _ _ _ _ _ _ us hl => match us, hl with | [_], _ => rfl⟩
  obtain ⟨f3, fd3, F3, m3, k3⟩ := d3.get X G
  have c3 : Cal K mg "people" ["web"] f3 fd3 := ⟨m3, k3, F3.binds (ps := ["web"]) fun _ _ _ _ _ _ us hl => match us, hl with | [_], _ => rfl⟩
  obtain ⟨f4, fd4, F4, m4, k4⟩ := d4.get X G
  have c4 : Cal K mg "hearers" ["web", "begin"] f4 fd4 := ⟨m4, k4, F4.binds (ps := ["web", "begin"]) fun _ _ _ _ _ _ us hl => match us, hl with | [_, _], _ => rfl⟩
  obtain ⟨f5, fd5, F5, m5, k5⟩ := d5.get X G
  have c5 : Cal K mg "winners_of" ["web"] f5 fd5 := ⟨m5, k5, F5.binds (ps := ["web"]) fun _ _ _ _ _ _ us hl => match us, hl with | [_], _ => rfl⟩
  obtain ⟨f6, fd6, F6, m6, k6⟩ := d6.get X G
  have c6 : Cal K mg "winners" ["web"] f6 fd6 := ⟨m6, k6, F6.binds (ps := ["web"]) fun _ _ _ _ _ _ us hl => match us, hl with | [_], _ => rfl⟩
  obtain ⟨f7, fd7, F7, m7, k7⟩ := d7.get X G
  have c7 : Cal K mg "sources" ["web", "person"] f7 fd7 := ⟨m7, k7, F7.binds (ps := ["web", "person"]) fun _ _ _ _ _ _ us hl => match us, hl with | [_, _], _ => rfl⟩
  obtain ⟨f8, fd8, F8, m8, k8, hc8⟩ := d8.get X G
  have c8 : Cal K mg "springs_of" ["web"] f8 fd8 := ⟨m8, k8, F8.binds (ps := ["web"]) fun _ _ _ _ _ _ us hl => match us, hl with | [_], _ => rfl⟩
  obtain ⟨f9, fd9, F9, m9, k9⟩ := d9.get X G
  have c9 : Cal K mg "least_left" ["web"] f9 fd9 := ⟨m9, k9, F9.binds (ps := ["web"]) fun _ _ _ _ _ _ us hl => match us, hl with | [_], _ => rfl⟩
  obtain ⟨f10, fd10, F10, m10, k10, hc10⟩ := d10.get X G
  have c10 : Cal K mg "is_closed" ["web", "some"] f10 fd10 := ⟨m10, k10, F10.binds (ps := ["web", "some"]) fun _ _ _ _ _ _ us hl => match us, hl with | [_, _], _ => rfl⟩
  obtain ⟨f11, fd11, F11, m11, k11⟩ := d11.get X G
  have c11 : Cal K mg "parted" ["web"] f11 fd11 := ⟨m11, k11, F11.binds (ps := ["web"]) fun _ _ _ _ _ _ us hl => match us, hl with | [_], _ => rfl⟩
  obtain ⟨f12, fd12, F12, m12, k12, hc12⟩ := d12.get X G
  have c12 : Cal K mg "is_group" ["web", "value"] f12 fd12 := ⟨m12, k12, F12.binds (ps := ["web", "value"]) fun _ _ _ _ _ _ us hl => match us, hl with | [_, _], _ => rfl⟩
  obtain ⟨f13, fd13, F13, m13, k13, hc13⟩ := d13.get X G
  have c13 : Cal K mg "shows_parted" ["web", "value"] f13 fd13 := ⟨m13, k13, F13.binds (ps := ["web", "value"]) fun _ _ _ _ _ _ us hl => match us, hl with | [_, _], _ => rfl⟩
  obtain ⟨f14, fd14, F14, m14, k14⟩ := d14.get X G
  have c14 : Cal K mg "_law_taken" ["_law_row", "_law_many"] f14 fd14 := ⟨m14, k14, F14.binds (ps := ["_law_row", "_law_many"]) fun _ _ _ _ _ _ us hl => match us, hl with | [_, _], _ => rfl⟩
  obtain ⟨f15, fd15, F15, m15, k15⟩ := d15.get X G
  have c15 : Cal K mg "_law_alike" ["_law_found", "_law_due"] f15 fd15 := ⟨m15, k15, F15.binds (ps := ["_law_found", "_law_due"]) fun _ _ _ _ _ _ us hl => match us, hl with | [_, _], _ => rfl⟩
  obtain ⟨f16, fd16, F16, m16, k16⟩ := d16.get X G
  have c16 : Cal K mg "_law_web" ["_law_row", "_law_most"] f16 fd16 := ⟨m16, k16, F16.binds (ps := ["_law_row", "_law_most"]) fun _ _ _ _ _ _ us hl => match us, hl with | [_, _], _ => rfl⟩
  obtain ⟨f17, fd17, F17, m17, k17⟩ := d17.get X G
  have c17 : Cal K mg "_law_taken_over" ["_law_web_here", "_law_some", "_law_index"] f17 fd17 := ⟨m17, k17, F17.binds (ps := ["_law_web_here", "_law_some", "_law_index"]) fun _ _ _ _ _ _ us hl => match us, hl with | [_, _, _], _ => rfl⟩
  obtain ⟨f18, fd18, F18, m18, k18⟩ := d18.get X G
  have c18 : Cal K mg "_law_people" ["_law_web_here"] f18 fd18 := ⟨m18, k18, F18.binds (ps := ["_law_web_here"]) fun _ _ _ _ _ _ us hl => match us, hl with | [_], _ => rfl⟩
  obtain ⟨f19, fd19, F19, m19, k19⟩ := d19.get X G
  have c19 : Cal K mg "_law_heard" ["_law_web_here", "_law_person"] f19 fd19 := ⟨m19, k19, F19.binds (ps := ["_law_web_here", "_law_person"]) fun _ _ _ _ _ _ us hl => match us, hl with | [_, _], _ => rfl⟩
  obtain ⟨f20, fd20, F20, m20, k20⟩ := d20.get X G
  have c20 : Cal K mg "_law_is_group" ["_law_web_here", "_law_value"] f20 fd20 := ⟨m20, k20, F20.binds (ps := ["_law_web_here", "_law_value"]) fun _ _ _ _ _ _ us hl => match us, hl with | [_, _], _ => rfl⟩
  obtain ⟨f21, fd21, F21, m21, k21⟩ := d21.get X G
  have c21 : Cal K mg "_law_is_parted" ["_law_web_here", "_law_value"] f21 fd21 := ⟨m21, k21, F21.binds (ps := ["_law_web_here", "_law_value"]) fun _ _ _ _ _ _ us hl => match us, hl with | [_, _], _ => rfl⟩
  obtain ⟨f22, fd22, F22, m22, k22⟩ := d22.get X G
  have c22 : Cal K mg "law" ["_law_script"] f22 fd22 := ⟨m22, k22, F22.binds (ps := ["_law_script"]) fun _ _ _ _ _ _ us hl => match us, hl with | [_], _ => rfl⟩
  obtain rfl : fa = f22 := by
    rw [hfa] at m22
    injection m22 with e
    injection e
  refine ⟨fd22, [(q1, r1), (q8, r8), (q10, r10), (q12, r12), (q13, r13)], spLaw K [r1, r8, r10, r12, r13], ?_, ?_, ?_, ?_, ?_, ?_⟩
  · exact List.forall_mem_cons.mpr ⟨g1.2, List.forall_mem_cons.mpr ⟨g8.2, List.forall_mem_cons.mpr ⟨g10.2, List.forall_mem_cons.mpr ⟨g12.2, List.forall_mem_cons.mpr ⟨g13.2, fun _ h9 => nomatch h9⟩⟩⟩⟩⟩
  · exact List.forall_mem_cons.mpr ⟨d1.n, List.forall_mem_cons.mpr ⟨d8.n, List.forall_mem_cons.mpr ⟨d10.n, List.forall_mem_cons.mpr ⟨d12.n, List.forall_mem_cons.mpr ⟨d13.n, fun _ h9 => nomatch h9⟩⟩⟩⟩⟩
  · exact List.forall_mem_cons.mpr ⟨g1.1, List.forall_mem_cons.mpr ⟨g8.1, List.forall_mem_cons.mpr ⟨g10.1, List.forall_mem_cons.mpr ⟨g12.1, List.forall_mem_cons.mpr ⟨g13.1, fun _ h9 => nomatch h9⟩⟩⟩⟩⟩
  · intro s u
    have hb := c22.b
    obtain ⟨oc, od, kV, doc, pm, an, cdv, ct, osl, rfl, lk, hcd⟩ := F22.ex
    exact .of_eq rfl
  · intro H a ns hlen hbits hT hS
    refine ⟨a, ns, rfl, hS, fun Q9 hQ => ?_, fun _ => rfl⟩
    simp only [List.mem_cons, List.not_mem_nil, or_false] at hQ
    rcases hQ with h9 | h9 | h9 | h9 | h9
    · rw [h9]; exact ⟨#[], hT (q1, r1) (by simp), trivial⟩
    · rw [h9]; exact ⟨#[], hT (q8, r8) (by simp), trivial⟩
    · rw [h9]; exact ⟨#[], hT (q10, r10) (by simp), trivial⟩
    · rw [h9]; exact ⟨#[], hT (q12, r12) (by simp), trivial⟩
    · rw [h9]; exact ⟨#[], hT (q13, r13) (by simp), trivial⟩
  · intro base hB hN hTB
    have b1 : GxR.TabB base mg q1 r1 := let t9 := hTB (q1, r1) (by simp); ⟨t9.code, t9.bm, t9.gP⟩
    have b8 : GxR.TabB base mg q8 r8 := let t9 := hTB (q8, r8) (by simp); ⟨t9.code, t9.bm, t9.gP⟩
    have b10 : GxR.TabB base mg q10 r10 := let t9 := hTB (q10, r10) (by simp); ⟨t9.code, t9.bm, t9.gP⟩
    have b12 : GxR.TabB base mg q12 r12 := let t9 := hTB (q12, r12) (by simp); ⟨t9.code, t9.bm, t9.gP⟩
    have b13 : GxR.TabB base mg q13 r13 := let t9 := hTB (q13, r13) (by simp); ⟨t9.code, t9.bm, t9.gP⟩
    generalize hTT : [r1, r8, r10, r12, r13] = TT
    have i1 : r1 ∈ TT := by rw [← hTT]; simp
    have i8 : r8 ∈ TT := by rw [← hTT]; simp
    have i10 : r10 ∈ TT := by rw [← hTT]; simp
    have i12 : r12 ∈ TT := by rw [← hTT]; simp
    have i13 : r13 ∈ TT := by rw [← hTT]; simp
    have o0 := ok_isIn (P := l.prog) (w := w) (base := base) F0 T
    have o1 := ok_isArc (P := l.prog) (w := w) (base := base) F1 hc1 b1 i1 T o0 m0 k0 c0.b
    have o2 := ok_need (P := l.prog) (w := w) (base := base) F2 T o0 c0 o1 c1
    have o3 := ok_people (P := l.prog) (w := w) (base := base) F3 T
    have o4 := ok_hearers (P := l.prog) (w := w) (base := base) F4 T
    have o5 := ok_winOf (P := l.prog) (w := w) (base := base) F5 T o3 c3 o4 c4
    have o6 := ok_winners (P := l.prog) (w := w) (base := base) F6 T o2 c2 o5 c5
    have o7 := ok_sources (P := l.prog) (w := w) (base := base) F7 T o3 c3 o4 c4
    have o8 := ok_springs (P := l.prog) (w := w) (base := base) F8 hc8 b8 i8 T o3 c3 o7 c7
    have o9 := ok_least (P := l.prog) (w := w) (base := base) F9 T o2 c2 o8 c8
    have o10 := ok_closed (P := l.prog) (w := w) (base := base) F10 hc10 b10 i10 T
    have o11 := ok_parted (P := l.prog) (w := w) (base := base) F11 T o2 c2 o8 c8
    have o12 := ok_group (P := l.prog) (w := w) (base := base) F12 hc12 b12 i12 T o0 c0 o10 c10
    have o13 := ok_shows (P := l.prog) (w := w) (base := base) F13 hc13 b13 i13 T o2 c2 o8 c8 o12 c12
    have o14 := ok_taken (P := l.prog) (w := w) (base := base) F14 T
    have o15 := ok_alike (P := l.prog) (w := w) (base := base) F15 T
    have o16 := ok_web (P := l.prog) (w := w) (base := base) F16 T o14 c14
    have o17 := ok_over (P := l.prog) (w := w) (base := base) F17 T
    have o18 := ok_lpeople (P := l.prog) (w := w) (base := base) F18 T
    have o19 := ok_heard (P := l.prog) (w := w) (base := base) F19 T
    have o20 := ok_lgroup (P := l.prog) (w := w) (base := base) F20 T
    have o21 := ok_lparted (P := l.prog) (w := w) (base := base) F21 T o20 c20
    have C : Callees l.prog w K mg base TT := ⟨T, ⟨_, _, o16, c16⟩, ⟨_, _, o18, c18⟩, ⟨_, _, o19, c19⟩, ⟨_, _, o11, c11⟩, ⟨_, _, o6, c6⟩, ⟨_, _, o21, c21⟩, ⟨_, _, o15, c15⟩, ⟨_, _, o13, c13⟩, ⟨_, _, o17, c17⟩, ⟨_, _, o9, c9⟩⟩
    exact ok_law F22 C

theorem walkL {l : PySem.W.OpenLaw} {q : Program} {loose : List Str} {XP : (Str → Option Value) → Heap → Prop} {YP : World → Heap → Prop} {d : DefRec} {K : Params → PySem.W.Frag} (hn : l.most = some 63) (hdf : d.params.defaults = [])
    (hY : ∀ (w : World) (h : Heap), YP w h → (K w.params).In h)
    (F : ∀ (w : World) (s₀ : Shared) (mg mb : Str → Option Value) (fa : Addr) (h : Heap), PySem.W.Ground q loose [] XP w s₀ mg mb h → (K w.params).In h → mg d.name = some (.ref fa) → LamX.LawAtS l w (K w.params) CX0 6 63 "_law_script" mg fa h) :
    PySem.W.WalkO q loose XP YP l.row.toRowW d [] (fun f vs => PySem.call f vs) := by
  refine Att.attach_callB hn hdf fun w s₀ s₁ mg mb fa o pm cd doc a vs ns G Y ho hd hcd hmg hobj hints hlen hbits hg => ?_
  have KX := hY w _ Y
  obtain ⟨fd, cs, sp, hT, nT, C, hb, hsp, hF⟩ := F w s₀ mg mb fa _ G KX hmg
  exact LamX.law_callTs KX G.T.g G.T.b G.T.builtins G.T.nolimit hg hT nT C G.T.bmain hobj hints (Nat.le_trans hlen (by decide)) ⟨rfl, by decide, by decide⟩ hF hb (fun H hH hS => hsp H a ns hlen hbits hH hS) fun H e s' z => z
end Bel

open PySem PySem.W PyProof.Rows
set_option maxRecDepth 100000 in
set_option maxHeartbeats 0 in
theorem PySem.Challenge.cw_bellcopies_k19_whole_parted_webs_holds : PySem.Challenge.rw_bellcopies_k19_whole_parted_webs.Holds := by
  w_on; o_law; k_head; (case hw => w_witness2)
  k_fill
  refine Bel.walkL (l := PySem.Challenge.rw_bellcopies_k19_whole_parted_webs) rfl rfl (fun w h Y => PySem.W.kIn_of Y) ?F
  case F =>
    intro w s0 mg mb fa h G KX hmg
    refine' Bel.all_mk G.T KX hmg (Bel.dfn_mk ?a0 ?l0 ?c0 ?k0) (Bel.dfnT_mk ?a1 ?l1 ?c1 ?k1 ?s1 ?v1 ?n1) (Bel.dfn_mk ?a2 ?l2 ?c2 ?k2) (Bel.dfn_mk ?a3 ?l3 ?c3 ?k3) (Bel.dfn_mk ?a4 ?l4 ?c4 ?k4) (Bel.dfn_mk ?a5 ?l5 ?c5 ?k5) (Bel.dfn_mk ?a6 ?l6 ?c6 ?k6) (Bel.dfn_mk ?a7 ?l7 ?c7 ?k7) (Bel.dfnT_mk ?a8 ?l8 ?c8 ?k8 ?s8 ?v8 ?n8) (Bel.dfn_mk ?a9 ?l9 ?c9 ?k9) (Bel.dfnT_mk ?a10 ?l10 ?c10 ?k10 ?s10 ?v10 ?n10) (Bel.dfn_mk ?a11 ?l11 ?c11 ?k11) (Bel.dfnT_mk ?a12 ?l12 ?c12 ?k12 ?s12 ?v12 ?n12) (Bel.dfnT_mk ?a13 ?l13 ?c13 ?k13 ?s13 ?v13 ?n13) (Bel.dfn_mk ?a14 ?l14 ?c14 ?k14) (Bel.dfn_mk ?a15 ?l15 ?c15 ?k15) (Bel.dfn_mk ?a16 ?l16 ?c16 ?k16) (Bel.dfn_mk ?a17 ?l17 ?c17 ?k17) (Bel.dfn_mk ?a18 ?l18 ?c18 ?k18) (Bel.dfn_mk ?a19 ?l19 ?c19 ?k19) (Bel.dfn_mk ?a20 ?l20 ?c20 ?k20) (Bel.dfn_mk ?a21 ?l21 ?c21 ?k21) (Bel.dfn_mk ?a22 ?l22 ?c22 ?k22) ?h1 ?h8 ?h10 ?h12 ?h13 ?z0 ?z1 ?z2 ?z3 ?z4 ?z5 ?z6 ?z7 ?z8 ?z9 ?z10 ?z11 ?z12 ?z13 ?mp ?ma
    (case a0 => k_is); (case l0 => k_is); (case c0 => k_is); (case k0 => k_is)
    (case a1 => k_is); (case l1 => k_is); (case c1 => k_is); (case k1 => k_is)
    (case s1 => k_is); (case v1 => rfl); (case n1 => kernel_rfl)
    (case a2 => k_is); (case l2 => k_is); (case c2 => k_is); (case k2 => k_is)
    (case a3 => k_is); (case l3 => k_is); (case c3 => k_is); (case k3 => k_is)
    (case a4 => k_is); (case l4 => k_is); (case c4 => k_is); (case k4 => k_is)
    (case a5 => k_is); (case l5 => k_is); (case c5 => k_is); (case k5 => k_is)
    (case a6 => k_is); (case l6 => k_is); (case c6 => k_is); (case k6 => k_is)
    (case a7 => k_is); (case l7 => k_is); (case c7 => k_is); (case k7 => k_is)
    (case a8 => k_is); (case l8 => k_is); (case c8 => k_is); (case k8 => k_is)
    (case s8 => k_is); (case v8 => rfl); (case n8 => kernel_rfl)
    (case a9 => k_is); (case l9 => k_is); (case c9 => k_is); (case k9 => k_is)
    (case a10 => k_is); (case l10 => k_is); (case c10 => k_is); (case k10 => k_is)
    (case s10 => k_is); (case v10 => rfl); (case n10 => kernel_rfl)
    (case a11 => k_is); (case l11 => k_is); (case c11 => k_is); (case k11 => k_is)
    (case a12 => k_is); (case l12 => k_is); (case c12 => k_is); (case k12 => k_is)
    (case s12 => k_is); (case v12 => rfl); (case n12 => kernel_rfl)
    (case a13 => k_is); (case l13 => k_is); (case c13 => k_is); (case k13 => k_is)
    (case s13 => k_is); (case v13 => rfl); (case n13 => kernel_rfl)
    (case a14 => k_is); (case l14 => k_is); (case c14 => k_is); (case k14 => k_is)
    (case a15 => k_is); (case l15 => k_is); (case c15 => k_is); (case k15 => k_is)
    (case a16 => k_is); (case l16 => k_is); (case c16 => k_is); (case k16 => k_is)
    (case a17 => k_is); (case l17 => k_is); (case c17 => k_is); (case k17 => k_is)
    (case a18 => k_is); (case l18 => k_is); (case c18 => k_is); (case k18 => k_is)
    (case a19 => k_is); (case l19 => k_is); (case c19 => k_is); (case k19 => k_is)
    (case a20 => k_is); (case l20 => k_is); (case c20 => k_is); (case k20 => k_is)
    (case a21 => k_is); (case l21 => k_is); (case c21 => k_is); (case k21 => k_is)
    (case a22 => k_is); (case l22 => k_is); (case c22 => k_is); (case k22 => k_is)
    (case h1 => kernel_rfl)
    (case h8 => kernel_rfl)
    (case h10 => kernel_rfl)
    (case h12 => kernel_rfl)
    (case h13 => kernel_rfl)
    (case z0 => k_is)
    (case z1 => k_is)
    (case z2 => k_is)
    (case z3 => k_is)
    (case z4 => k_is)
    (case z5 => k_is)
    (case z6 => k_is)
    (case z7 => k_is)
    (case z8 => k_is)
    (case z9 => k_is)
    (case z10 => k_is)
    (case z11 => k_is)
    (case z12 => k_is)
    (case z13 => k_is)
    (case mp => k_is); (case ma => k_is)
