import PyProof.Rows.All
import Wide.All
import OpenK.AllK
import Wide.FinOn
import HandS.ForMost
import HandS.IsInst
import HandS.Evl
import HandS.TupAny
import HandS.Style
import HandS.Strs
import HandS.SetFor
import HandS.SortRule
import HandS.TupSets
import HandS.Conv
import HandS.Deep
import HandS.SortInts
import HandS.Walk
import PySem.Challenge.RW_unpartedrows_k35_whole_more_sets
set_option Elab.async false
set_option linter.all false
namespace PQ

inductive T where
  | th (i : Int)
  | nd (row : Bool) (ps : List T)

mutual
def lst : T → List Int
  | .th i => [i]
  | .nd _ ps => lstL ps
def lstL : List T → List Int
  | [] => []
  | p :: ps => lst p ++ lstL ps
end
mutual
def wf : T → Prop
  | .th _ => True
  | .nd b ps => 2 ≤ ps.length ∧ (b = true → 3 ≤ ps.length) ∧ wfL ps
def wfL : List T → Prop
  | [] => True
  | p :: ps => wf p ∧ wfL ps
end

mutual
theorem T.ind {P : T → Prop} (h1 : ∀ i, P (.th i)) (h2 : ∀ b ps, (∀ p ∈ ps, P p) → P (.nd b ps)) : ∀ t, P t
  | .th i => h1 i
  | .nd b ps => h2 b ps (T.indL h1 h2 ps)
theorem T.indL {P : T → Prop} (h1 : ∀ i, P (.th i)) (h2 : ∀ b ps, (∀ p ∈ ps, P p) → P (.nd b ps)) : ∀ ps : List T, ∀ p ∈ ps, P p
  | [], _, h => nomatch h
  | q :: r, p, h => by
    cases h with
    | head => exact T.ind h1 h2 q
    | tail _ h => exact T.indL h1 h2 r p h
end

theorem lstL_eq : ∀ ps : List T, lstL ps = ps.flatMap lst
  | [] => rfl
  | p :: r => by simp [lstL, lstL_eq r]
theorem lst_nd (b : Bool) (ps : List T) : lst (.nd b ps) = lstL ps := by simp [lst]
theorem lst_th (i : Int) : lst (.th i) = [i] := by simp [lst]
theorem lstL_append (xs ys : List T) : lstL (xs ++ ys) = lstL xs ++ lstL ys := by
  simp [lstL_eq]
theorem lstL_nil : lstL [] = [] := rfl
theorem lstL_cons (p : T) (r : List T) : lstL (p :: r) = lst p ++ lstL r := by simp [lstL]
theorem lstL_single (p : T) : lstL [p] = lst p := by simp [lstL]
theorem lstL_perm {xs ys : List T} (h : xs.Perm ys) : (lstL xs).Perm (lstL ys) := by
  induction h with
  | nil => exact .refl _
  | cons x _ ih => simp only [lstL]; exact ih.append_left _
  | swap x y l => 
    simp only [lstL]
    rw [← List.append_assoc, ← List.append_assoc]
    exact List.Perm.append_right _ List.perm_append_comm
  | trans _ _ a b => exact a.trans b
theorem mem_lstL {x : Int} {ps : List T} : x ∈ lstL ps ↔ ∃ p ∈ ps, x ∈ lst p := by
  rw [lstL_eq, List.mem_flatMap]

theorem wfL_iff : ∀ ps : List T, wfL ps ↔ ∀ p ∈ ps, wf p
  | [] => by simp [wfL]
  | p :: r => by simp [wfL, wfL_iff r]
theorem wf_th (i : Int) : wf (.th i) := by simp [wf]
theorem wf_nd {b : Bool} {ps : List T} : wf (.nd b ps) ↔ 2 ≤ ps.length ∧ (b = true → 3 ≤ ps.length) ∧ ∀ p ∈ ps, wf p := by
  simp [wf, wfL_iff]

theorem lst_ne : ∀ t : T, wf t → lst t ≠ [] := by
  intro t
  induction t using T.ind with
  | h1 i => intro _; simp [lst]
  | h2 b ps ih =>
    intro h
    rw [wf_nd] at h
    obtain ⟨h2, _, h3⟩ := h
    cases ps with
    | nil => simp at h2
    | cons p r =>
      rw [lst_nd, lstL_cons]
      intro e
      have := List.append_eq_nil_iff.mp e
      exact ih p (by simp) (h3 p (by simp)) this.1

/-! ### the orders that a tree tells -/
mutual
inductive Fr : T → List Int → Prop
  | th (i : Int) : Fr (.th i) [i]
  | any {ps qs : List T} {o : List Int} : qs.Perm ps → FrL qs o → Fr (.nd false ps) o
  | row {ps : List T} {o : List Int} : FrL ps o → Fr (.nd true ps) o
  | wor {ps : List T} {o : List Int} : FrL ps.reverse o → Fr (.nd true ps) o
inductive FrL : List T → List Int → Prop
  | nil : FrL [] []
  | cons {p : T} {r : List T} {a b : List Int} : Fr p a → FrL r b → FrL (p :: r) (a ++ b)
end

theorem Fr_th {i : Int} {o : List Int} : Fr (.th i) o ↔ o = [i] := by
  constructor
  · intro h; cases h; rfl
  · rintro rfl; exact .th i
theorem Fr_any {ps : List T} {o : List Int} : Fr (.nd false ps) o ↔ ∃ qs, qs.Perm ps ∧ FrL qs o := by
  constructor
  · intro h
    cases h with
    | any h1 h2 => exact ⟨_, h1, h2⟩
  · rintro ⟨qs, h1, h2⟩; exact .any h1 h2
theorem Fr_row {ps : List T} {o : List Int} : Fr (.nd true ps) o ↔ FrL ps o ∨ FrL ps.reverse o := by
  constructor
  · intro h
    cases h with
    | row h => exact .inl h
    | wor h => exact .inr h
  · rintro (h | h)
    · exact .row h
    · exact .wor h
theorem FrL_nil {o : List Int} : FrL [] o ↔ o = [] := by
  constructor
  · intro h; cases h; rfl
  · rintro rfl; exact .nil
theorem FrL_cons {p : T} {r : List T} {o : List Int} : FrL (p :: r) o ↔ ∃ a b, o = a ++ b ∧ Fr p a ∧ FrL r b := by
  constructor
  · intro h
    cases h with
    | cons h1 h2 => exact ⟨_, _, rfl, h1, h2⟩
  · rintro ⟨a, b, rfl, h1, h2⟩; exact .cons h1 h2
theorem FrL_append {xs ys : List T} {o : List Int} : FrL (xs ++ ys) o ↔ ∃ a b, o = a ++ b ∧ FrL xs a ∧ FrL ys b := by
  induction xs generalizing o with
  | nil =>
    constructor
    · intro h; exact ⟨[], o, rfl, .nil, h⟩
    · rintro ⟨a, b, rfl, h1, h2⟩
      rw [FrL_nil] at h1; subst h1; exact h2
  | cons p r ih =>
    rw [List.cons_append, FrL_cons]
    constructor
    · rintro ⟨a, b, rfl, h1, h2⟩
      obtain ⟨c, d, rfl, h3, h4⟩ := ih.mp h2
      exact ⟨a ++ c, d, by simp, .cons h1 h3, h4⟩
    · rintro ⟨a, b, rfl, h1, h2⟩
      obtain ⟨c, d, rfl, h3, h4⟩ := FrL_cons.mp h1
      exact ⟨c, d ++ b, by simp, h3, ih.mpr ⟨d, b, rfl, h4, h2⟩⟩
theorem FrL_single {p : T} {o : List Int} : FrL [p] o ↔ Fr p o := by
  rw [FrL_cons]
  constructor
  · rintro ⟨a, b, rfl, h1, h2⟩
    rw [FrL_nil] at h2; subst h2; simpa using h1
  · intro h; exact ⟨o, [], by simp, h, .nil⟩

theorem FrL_perm_of {ps : List T} (ih : ∀ p ∈ ps, ∀ o, Fr p o → o.Perm (lst p)) : ∀ o, FrL ps o → o.Perm (lstL ps) := by
  induction ps with
  | nil => intro o h; rw [FrL_nil] at h; subst h; exact .refl _
  | cons p r ih2 =>
    intro o h
    obtain ⟨a, b, rfl, h1, h2⟩ := FrL_cons.mp h
    rw [lstL_cons]
    exact (ih p (by simp) a h1).append (ih2 (fun q hq => ih q (by simp [hq])) b h2)
theorem Fr_perm : ∀ (t : T) (o : List Int), Fr t o → o.Perm (lst t) := by
  intro t
  induction t using T.ind with
  | h1 i => intro o h; rw [Fr_th] at h; subst h; rw [lst_th]
  | h2 b ps ih =>
    intro o h
    rw [lst_nd]
    cases b with
    | false =>
      obtain ⟨qs, hp, h⟩ := Fr_any.mp h
      exact (FrL_perm_of (fun p hm => ih p (hp.mem_iff.mp hm)) o h).trans (lstL_perm hp)
    | true =>
      rcases Fr_row.mp h with h | h
      · exact FrL_perm_of ih o h
      · exact (FrL_perm_of (fun p hm => ih p (List.mem_reverse.mp hm)) o h).trans (lstL_perm (List.reverse_perm _))
theorem FrL_perm {ps : List T} {o : List Int} (h : FrL ps o) : o.Perm (lstL ps) := FrL_perm_of (fun p _ o h => Fr_perm p o h) o h

theorem FrL_some_of {ps : List T} (ih : ∀ p ∈ ps, Fr p (lst p)) : FrL ps (lstL ps) := by
  induction ps with
  | nil => exact .nil
  | cons p r ih2 =>
    rw [lstL_cons]
    exact .cons (ih p (by simp)) (ih2 fun q hq => ih q (by simp [hq]))
theorem Fr_some : ∀ t : T, Fr t (lst t) := by
  intro t
  induction t using T.ind with
  | h1 i => rw [lst_th]; exact .th i
  | h2 b ps ih =>
    rw [lst_nd]
    cases b with
    | false => exact .any (.refl _) (FrL_some_of ih)
    | true => exact .row (FrL_some_of ih)
theorem FrL_some (ps : List T) : FrL ps (lstL ps) := FrL_some_of fun p _ => Fr_some p

theorem FrL_rev_of {ps : List T} (ih : ∀ p ∈ ps, ∀ o, Fr p o → Fr p o.reverse) : ∀ o, FrL ps o → FrL ps.reverse o.reverse := by
  induction ps with
  | nil => intro o h; rw [FrL_nil] at h; subst h; exact .nil
  | cons p r ih2 =>
    intro o h
    obtain ⟨a, b, rfl, h1, h2⟩ := FrL_cons.mp h
    rw [List.reverse_cons, List.reverse_append, FrL_append]
    exact ⟨_, _, rfl, ih2 (fun q hq => ih q (by simp [hq])) b h2, FrL_single.mpr (ih p (by simp) a h1)⟩
theorem Fr_rev : ∀ (t : T) (o : List Int), Fr t o → Fr t o.reverse := by
  intro t
  induction t using T.ind with
  | h1 i => intro o h; rw [Fr_th] at h; subst h; exact .th i
  | h2 b ps ih =>
    intro o h
    cases b with
    | false =>
      obtain ⟨qs, hp, h⟩ := Fr_any.mp h
      exact .any ((List.reverse_perm _).trans hp) (FrL_rev_of (fun p hm => ih p (hp.mem_iff.mp hm)) o h)
    | true =>
      rcases Fr_row.mp h with h | h
      · exact .wor (FrL_rev_of ih o h)
      · have := FrL_rev_of (fun p hm => ih p (List.mem_reverse.mp hm)) o h
        rw [List.reverse_reverse] at this
        exact .row this
theorem Fr_rev_iff {t : T} {o : List Int} : Fr t o.reverse ↔ Fr t o :=
  ⟨fun h => by have := Fr_rev t _ h; rwa [List.reverse_reverse] at this, Fr_rev t o⟩
theorem FrL_rev {ps : List T} {o : List Int} (h : FrL ps o) : FrL ps.reverse o.reverse := FrL_rev_of (fun p _ o h => Fr_rev p o h) o h
theorem FrL_rev_iff {ps : List T} {o : List Int} : FrL ps.reverse o.reverse ↔ FrL ps o :=
  ⟨fun h => by have := FrL_rev h; rwa [List.reverse_reverse, List.reverse_reverse] at this, FrL_rev⟩
theorem FrL_rev_iff' {ps : List T} {o : List Int} : FrL ps.reverse o ↔ FrL ps o.reverse := by
  rw [← FrL_rev_iff (ps := ps), List.reverse_reverse]

/-! ### kids in any sequence, kids in a row -/
def FrA (ps : List T) (o : List Int) : Prop := ∃ qs, qs.Perm ps ∧ FrL qs o
def FrR (ps : List T) (o : List Int) : Prop := FrL ps o ∨ FrL ps.reverse o

def mkAny : List T → T
  | [p] => p
  | ps => .nd false ps
def mkRow (ps : List T) : T := if ps.length < 3 then mkAny ps else .nd true ps

theorem Fr_mkAny {ps : List T} {o : List Int} : Fr (mkAny ps) o ↔ FrA ps o := by
  unfold mkAny FrA
  split
  · rename_i p
    constructor
    · intro h; exact ⟨[p], .refl _, FrL_single.mpr h⟩
    · rintro ⟨qs, hp, h⟩
      have : qs = [p] := List.perm_singleton.mp hp
      subst this
      exact FrL_single.mp h
  · exact Fr_any
theorem FrA_of_FrR {ps : List T} {o : List Int} (h : FrR ps o) : FrA ps o := by
  rcases h with h | h
  · exact ⟨ps, .refl _, h⟩
  · exact ⟨ps.reverse, List.reverse_perm _, h⟩
theorem perm_pair {α : Type} {a b : α} {qs : List α} (h : qs.Perm [a, b]) : qs = [a, b] ∨ qs = [b, a] := by
  have hl := h.length_eq
  match qs, hl with
  | [x, y], _ =>
    have hx : x ∈ [a, b] := h.mem_iff.mp (by simp)
    rcases List.mem_cons.mp hx with rfl | hx
    · left
      have := List.Perm.cons_inv h
      rw [List.perm_singleton] at this
      rw [this]
    · have : x = b := by simpa using hx
      subst this
      right
      have h2 : ([x, y] : List α).Perm [x, a] := h.trans (.swap _ _ _)
      have := List.Perm.cons_inv h2
      rw [List.perm_singleton] at this
      rw [this]
theorem Fr_mkRow {ps : List T} {o : List Int} : Fr (mkRow ps) o ↔ FrR ps o := by
  unfold mkRow
  split
  · rename_i hl
    rw [Fr_mkAny]
    refine ⟨?_, FrA_of_FrR⟩
    rintro ⟨qs, hp, h⟩
    match ps, hl with
    | [], _ =>
      have : qs = [] := hp.eq_nil
      subst this; exact .inl h
    | [p], _ =>
      have : qs = [p] := List.perm_singleton.mp hp
      subst this; exact .inl h
    | [a, b], _ =>
      rcases perm_pair hp with rfl | rfl
      · exact .inl h
      · exact .inr h
  · exact Fr_row
theorem lst_mkAny (ps : List T) : lst (mkAny ps) = lstL ps := by
  unfold mkAny
  split
  · rw [lstL_single]
  · rw [lst_nd]
theorem lst_mkRow (ps : List T) : lst (mkRow ps) = lstL ps := by
  unfold mkRow
  split
  · exact lst_mkAny ps
  · rw [lst_nd]
theorem wf_mkAny {ps : List T} (h0 : ps ≠ []) (h : ∀ p ∈ ps, wf p) : wf (mkAny ps) := by
  unfold mkAny
  split
  · exact h _ (by simp)
  · rename_i hx
    rw [wf_nd]
    refine ⟨?_, by simp, h⟩
    match ps, h0, hx with
    | [p], _, hx => exact absurd rfl (hx p)
    | a :: b :: r, _, _ => simp
theorem wf_mkRow {ps : List T} (h0 : ps ≠ []) (h : ∀ p ∈ ps, wf p) : wf (mkRow ps) := by
  unfold mkRow
  split
  · exact wf_mkAny h0 h
  · rename_i hl
    rw [wf_nd]
    exact ⟨by omega, fun _ => by omega, h⟩
end PQ
namespace PQ
/-! ### sets that stand together -/
def NoS (S o : List Int) : Prop := ∀ x ∈ o, x ∉ S
def AllS (S o : List Int) : Prop := ∀ x ∈ o, x ∈ S
def stp (S : List Int) (s : Nat) (x : Int) : Nat :=
  if x ∈ S then (if s ≤ 1 then 1 else 3) else (if s = 0 then 0 else if s ≤ 2 then 2 else 3)
def run (S : List Int) (s : Nat) (o : List Int) : Nat := o.foldl (stp S) s
def Tog (S o : List Int) : Prop := ∃ a b c, o = a ++ (b ++ c) ∧ NoS S a ∧ AllS S b ∧ NoS S c

theorem run_nil (S : List Int) (s : Nat) : run S s [] = s := rfl
theorem run_cons (S : List Int) (s : Nat) (x : Int) (o : List Int) : run S s (x :: o) = run S (stp S s x) o := rfl
theorem run_append (S : List Int) (s : Nat) (a b : List Int) : run S s (a ++ b) = run S (run S s a) b := by
  unfold run; rw [List.foldl_append]
theorem stp_in {S : List Int} {x : Int} (h : x ∈ S) (s : Nat) : stp S s x = if s ≤ 1 then 1 else 3 := by
  unfold stp; rw [if_pos h]
theorem stp_out {S : List Int} {x : Int} (h : x ∉ S) (s : Nat) : stp S s x = if s = 0 then 0 else if s ≤ 2 then 2 else 3 := by
  unfold stp; rw [if_neg h]
theorem stp_mono (S : List Int) (x : Int) (s : Nat) (hs : s ≤ 3) : s ≤ stp S s x ∧ stp S s x ≤ 3 := by
  by_cases h : x ∈ S
  · rw [stp_in h]; split <;> omega
  · rw [stp_out h]; split <;> (try split) <;> omega
theorem run_mono (S : List Int) : ∀ (o : List Int) (s : Nat), s ≤ 3 → s ≤ run S s o ∧ run S s o ≤ 3
  | [], s, h => ⟨Nat.le_refl _, h⟩
  | x :: o, s, h => by
    have h1 := stp_mono S x s h
    have h2 := run_mono S o _ h1.2
    rw [run_cons]; omega
theorem run3 (S o : List Int) : run S 3 o = 3 := by
  have := run_mono S o 3 (by omega); omega
theorem run0_no {S : List Int} : ∀ {o : List Int}, NoS S o → run S 0 o = 0
  | [], _ => rfl
  | x :: o, h => by
    rw [run_cons, stp_out (h x (by simp)), if_pos rfl]
    exact run0_no fun y hy => h y (by simp [hy])
theorem run2_no {S : List Int} : ∀ {o : List Int}, NoS S o → run S 2 o = 2
  | [], _ => rfl
  | x :: o, h => by
    rw [run_cons, stp_out (h x (by simp))]
    exact run2_no fun y hy => h y (by simp [hy])
theorem run1_all {S : List Int} : ∀ {o : List Int}, AllS S o → run S 1 o = 1
  | [], _ => rfl
  | x :: o, h => by
    rw [run_cons, stp_in (h x (by simp))]
    exact run1_all fun y hy => h y (by simp [hy])
theorem run0_all {S o : List Int} (h : AllS S o) (h0 : o ≠ []) : run S 0 o = 1 := by
  match o, h0 with
  | x :: o, _ =>
    rw [run_cons, stp_in (h x (by simp))]
    exact run1_all fun y hy => h y (by simp [hy])
theorem run1_no {S o : List Int} (h : NoS S o) (h0 : o ≠ []) : run S 1 o = 2 := by
  match o, h0 with
  | x :: o, _ =>
    rw [run_cons, stp_out (h x (by simp))]
    exact run2_no fun y hy => h y (by simp [hy])
theorem run1_no' {S o : List Int} (h : NoS S o) : run S 1 o ≤ 2 := by
  by_cases h0 : o = []
  · subst h0; rw [run_nil]; omega
  · rw [run1_no h h0]; omega
theorem no_of_run0 {S : List Int} : ∀ {o : List Int}, run S 0 o = 0 → NoS S o
  | [], _ => fun x hx => by simp at hx
  | x :: o, h => by
    rw [run_cons] at h
    by_cases hx : x ∈ S
    · rw [stp_in hx] at h
      have := (run_mono S o 1 (by omega)).1
      simp at h; omega
    · rw [stp_out hx, if_pos rfl] at h
      intro y hy
      rcases List.mem_cons.mp hy with rfl | hy
      · exact hx
      · exact no_of_run0 h y hy
theorem no_of_run2 {S : List Int} : ∀ {o : List Int}, run S 2 o ≤ 2 → NoS S o
  | [], _ => fun x hx => by simp at hx
  | x :: o, h => by
    rw [run_cons] at h
    by_cases hx : x ∈ S
    · rw [stp_in hx, if_neg (by omega), run3] at h; omega
    · rw [stp_out hx] at h
      intro y hy
      rcases List.mem_cons.mp hy with rfl | hy
      · exact hx
      · exact no_of_run2 (by simpa using h) y hy
theorem all_of_run1 {S : List Int} : ∀ {o : List Int}, run S 1 o = 1 → AllS S o
  | [], _ => fun x hx => by simp at hx
  | x :: o, h => by
    rw [run_cons] at h
    by_cases hx : x ∈ S
    · rw [stp_in hx] at h
      intro y hy
      rcases List.mem_cons.mp hy with rfl | hy
      · exact hx
      · exact all_of_run1 (by simpa using h) y hy
    · rw [stp_out hx] at h
      have := (run_mono S o 2 (by omega)).1
      simp at h; omega
theorem run1_pre {S : List Int} : ∀ {o : List Int}, run S 1 o ≤ 2 → ∃ b a, o = b ++ a ∧ AllS S b ∧ NoS S a
  | [], _ => ⟨[], [], rfl, fun x hx => by simp at hx, fun x hx => by simp at hx⟩
  | x :: o, h => by
    by_cases hx : x ∈ S
    · rw [run_cons, stp_in hx] at h
      obtain ⟨b, a, rfl, h1, h2⟩ := run1_pre (o := o) (by simpa using h)
      refine ⟨x :: b, a, rfl, fun y hy => ?_, h2⟩
      rcases List.mem_cons.mp hy with rfl | hy
      · exact hx
      · exact h1 y hy
    · rw [run_cons, stp_out hx] at h
      have h2 := no_of_run2 (S := S) (o := o) (by simpa using h)
      refine ⟨[], x :: o, rfl, fun y hy => by simp at hy, fun y hy => ?_⟩
      rcases List.mem_cons.mp hy with rfl | hy
      · exact hx
      · exact h2 y hy
theorem run0_suf {S : List Int} : ∀ {o : List Int}, run S 0 o = 1 → ∃ a b, o = a ++ b ∧ NoS S a ∧ AllS S b ∧ b ≠ []
  | [], h => by simp [run_nil] at h
  | x :: o, h => by
    by_cases hx : x ∈ S
    · rw [run_cons, stp_in hx] at h
      have h1 := all_of_run1 (S := S) (o := o) (by simpa using h)
      refine ⟨[], x :: o, rfl, fun y hy => by simp at hy, fun y hy => ?_, by simp⟩
      rcases List.mem_cons.mp hy with rfl | hy
      · exact hx
      · exact h1 y hy
    · rw [run_cons, stp_out hx, if_pos rfl] at h
      obtain ⟨a, b, rfl, h1, h2, h3⟩ := run0_suf (o := o) h
      refine ⟨x :: a, b, rfl, fun y hy => ?_, h2, h3⟩
      rcases List.mem_cons.mp hy with rfl | hy
      · exact hx
      · exact h1 y hy
theorem tog_of_run {S : List Int} : ∀ {o : List Int}, run S 0 o ≤ 2 → Tog S o
  | [], h => ⟨[], [], [], rfl, fun x hx => by simp at hx, fun x hx => by simp at hx, fun x hx => by simp at hx⟩
  | x :: o, h => by
    by_cases hx : x ∈ S
    · rw [run_cons, stp_in hx] at h
      obtain ⟨b, a, rfl, h1, h2⟩ := run1_pre (S := S) (o := o) (by simpa using h)
      refine ⟨[], x :: b, a, rfl, fun y hy => by simp at hy, fun y hy => ?_, h2⟩
      rcases List.mem_cons.mp hy with rfl | hy
      · exact hx
      · exact h1 y hy
    · rw [run_cons, stp_out hx, if_pos rfl] at h
      obtain ⟨a, b, c, rfl, h1, h2, h3⟩ := tog_of_run (o := o) h
      refine ⟨x :: a, b, c, rfl, fun y hy => ?_, h2, h3⟩
      rcases List.mem_cons.mp hy with rfl | hy
      · exact hx
      · exact h1 y hy
theorem run_of_tog {S o : List Int} (h : Tog S o) : run S 0 o ≤ 2 := by
  obtain ⟨a, b, c, rfl, h1, h2, h3⟩ := h
  rw [run_append, run0_no h1, run_append]
  by_cases h0 : b = []
  · subst h0; rw [run_nil, run0_no h3]; omega
  · rw [run0_all h2 h0]; exact run1_no' h3
theorem tog_iff {S o : List Int} : Tog S o ↔ run S 0 o ≤ 2 := ⟨run_of_tog, tog_of_run⟩
theorem NoS.rev {S o : List Int} (h : NoS S o) : NoS S o.reverse := fun x hx => h x (List.mem_reverse.mp hx)
theorem AllS.rev {S o : List Int} (h : AllS S o) : AllS S o.reverse := fun x hx => h x (List.mem_reverse.mp hx)
theorem NoS.app {S a b : List Int} (h : NoS S a) (h2 : NoS S b) : NoS S (a ++ b) := fun x hx => by
  rcases List.mem_append.mp hx with hx | hx
  · exact h x hx
  · exact h2 x hx
theorem AllS.app {S a b : List Int} (h : AllS S a) (h2 : AllS S b) : AllS S (a ++ b) := fun x hx => by
  rcases List.mem_append.mp hx with hx | hx
  · exact h x hx
  · exact h2 x hx
theorem Tog.rev {S o : List Int} (h : Tog S o) : Tog S o.reverse := by
  obtain ⟨a, b, c, rfl, h1, h2, h3⟩ := h
  exact ⟨c.reverse, b.reverse, a.reverse, by simp, h3.rev, h2.rev, h1.rev⟩
theorem run_rev {S o : List Int} : run S 0 o.reverse ≤ 2 ↔ run S 0 o ≤ 2 := by
  rw [← tog_iff, ← tog_iff]
  exact ⟨fun h => by have := h.rev; rwa [List.reverse_reverse] at this, Tog.rev⟩
def Has (S o : List Int) : Prop := ∃ x ∈ o, x ∈ S
theorem run0_has {S o : List Int} (h : Has S o) : 1 ≤ run S 0 o := by
  cases hr : run S 0 o with
  | zero =>
    obtain ⟨x, hx, hs⟩ := h
    exact absurd hs (no_of_run0 hr x hx)
  | succ n => omega
theorem run2_has {S o : List Int} (h : Has S o) : run S 2 o = 3 := by
  have := run_mono S o 2 (by omega)
  by_cases hr : run S 2 o ≤ 2
  · obtain ⟨x, hx, hs⟩ := h
    exact absurd hs (no_of_run2 hr x hx)
  · omega
def Lacks (S o : List Int) : Prop := ∃ x ∈ o, x ∉ S
theorem run1_lacks {S o : List Int} (h : Lacks S o) : 2 ≤ run S 1 o := by
  have := run_mono S o 1 (by omega)
  by_cases hr : run S 1 o = 1
  · obtain ⟨x, hx, hs⟩ := h
    exact absurd (all_of_run1 hr x hx) hs
  · omega
/-- the end of an order, read backwards, is its beginning -/
theorem run_suf_rev {S o : List Int} (h : Has S o) : run S 0 o.reverse = 1 ↔ run S 1 o ≤ 2 := by
  constructor
  · intro e
    obtain ⟨a, b, e2, h1, h2, h3⟩ := run0_suf e
    have : o = b.reverse ++ a.reverse := by rw [← List.reverse_append, ← e2, List.reverse_reverse]
    subst this
    rw [run_append, run1_all h2.rev]
    exact run1_no' h1.rev
  · intro e
    obtain ⟨b, a, rfl, h1, h2⟩ := run1_pre e
    rw [List.reverse_append, run_append, run0_no h2.rev]
    refine run0_all h1.rev ?_
    rintro e3
    have : b = [] := List.reverse_eq_nil_iff.mp e3
    subst this
    obtain ⟨x, hx, hs⟩ := h
    exact h2 x (by simpa using hx) hs
theorem Has.perm {S o o' : List Int} (h : Has S o) (p : o.Perm o') : Has S o' := by
  obtain ⟨x, hx, hs⟩ := h
  exact ⟨x, p.mem_iff.mp hx, hs⟩
theorem Lacks.perm {S o o' : List Int} (h : Lacks S o) (p : o.Perm o') : Lacks S o' := by
  obtain ⟨x, hx, hs⟩ := h
  exact ⟨x, p.mem_iff.mp hx, hs⟩
theorem NoS.perm {S o o' : List Int} (h : NoS S o) (p : o.Perm o') : NoS S o' := fun x hx => h x (p.mem_iff.mpr hx)
theorem AllS.perm {S o o' : List Int} (h : AllS S o) (p : o.Perm o') : AllS S o' := fun x hx => h x (p.mem_iff.mpr hx)

/-! ### shares -/
inductive Sh where
  | none | some | all
deriving DecidableEq
def cntIn (S : List Int) (t : T) : Nat := ((lst t).filter fun x => decide (x ∈ S)).length
def share (S : List Int) (t : T) : Sh :=
  if cntIn S t = 0 then .none else if cntIn S t = (lst t).length then .all else .some
theorem cnt0 {S : List Int} {t : T} : cntIn S t = 0 ↔ NoS S (lst t) := by
  unfold cntIn NoS
  rw [List.length_eq_zero_iff, List.filter_eq_nil_iff]
  simp
theorem cntA {S : List Int} {t : T} : cntIn S t = (lst t).length ↔ AllS S (lst t) := by
  unfold cntIn AllS
  rw [List.length_filter_eq_length_iff]
  simp
theorem share_none {S : List Int} {t : T} : share S t = .none ↔ NoS S (lst t) := by
  unfold share
  rw [← cnt0]
  split
  · rename_i h1
    exact ⟨fun _ => h1, fun _ => rfl⟩
  · rename_i h1
    split
    · exact ⟨fun e => (nomatch e), fun e => absurd e h1⟩
    · exact ⟨fun e => (nomatch e), fun e => absurd e h1⟩
theorem share_all {S : List Int} {t : T} (h : lst t ≠ []) : share S t = .all ↔ AllS S (lst t) := by
  unfold share
  rw [← cntA]
  have hl : (lst t).length ≠ 0 := fun e => h (List.length_eq_zero_iff.mp e)
  split
  · constructor
    · intro e; cases e
    · intro e; omega
  · split
    · rename_i h1
      exact ⟨fun _ => h1, fun _ => rfl⟩
    · rename_i h1
      exact ⟨fun e => (nomatch e), fun e => absurd e h1⟩
theorem not_all {S o : List Int} : ¬ AllS S o ↔ Lacks S o := by
  unfold AllS Lacks; simp
theorem not_no {S o : List Int} : ¬ NoS S o ↔ Has S o := by
  unfold NoS Has; simp
theorem share_some {S : List Int} {t : T} (h : lst t ≠ []) : share S t = .some ↔ Has S (lst t) ∧ Lacks S (lst t) := by
  rw [← not_no, ← not_all, ← share_none, ← share_all h]
  cases share S t <;> simp
theorem share_tch {S : List Int} {t : T} : share S t ≠ .none ↔ Has S (lst t) := by
  rw [← not_no, ← share_none]
theorem share_th {S : List Int} {i : Int} : share S (.th i) ≠ .some := by
  intro h
  rw [share_some (by simp [lst])] at h
  obtain ⟨⟨x, hx, h1⟩, y, hy, h2⟩ := h
  rw [lst_th] at hx hy
  simp at hx hy
  subst hx; subst hy; exact h2 h1
end PQ
namespace PQ
/-! ### a tree split into the list of its parts without and with chosen things -/
def withSh (S : List Int) (w : Sh) (ps : List T) : List T := ps.filter fun p => decide (share S p = w)
def opt : List T → List T
  | [] => []
  | p :: r => [mkAny (p :: r)]
def rank : Sh → Nat
  | .none => 0
  | .some => 1
  | .all => 2
def asc (S : List Int) (ps : List T) : Prop := (ps.map fun p => rank (share S p)).Pairwise (· ≤ ·) ∧ (withSh S .some ps).length < 2
def cat : Option (List T) → Option (List T) → Option (List T)
  | some a, some b => some (a ++ b)
  | _, _ => none
def splitAny (S : List Int) (f : T → Option (List T)) (ps : List T) : Option (List T) :=
  match withSh S .some ps with
  | [] => some (opt (withSh S .none ps) ++ opt (withSh S .all ps))
  | [m] => (f m).map fun inner => opt (withSh S .none ps) ++ (inner ++ opt (withSh S .all ps))
  | _ => none
def exp1 (S : List Int) (f : T → Option (List T)) (p : T) : Option (List T) := if share S p = .some then f p else some [p]
def expand (S : List Int) (f : T → Option (List T)) : List T → Option (List T)
  | [] => some []
  | p :: r => cat (exp1 S f p) (expand S f r)
open Classical in
noncomputable def splitRow (S : List Int) (f : T → Option (List T)) (ps : List T) : Option (List T) :=
  if asc S ps then expand S f ps else if asc S ps.reverse then expand S f ps.reverse else none
open Classical in
noncomputable def split (S : List Int) : T → Option (List T)
  | .th _ => none
  | .nd true ps => splitRow S (fun p => if h : p ∈ ps then split S p else none) ps
  | .nd false ps => splitAny S (fun p => if h : p ∈ ps then split S p else none) ps
termination_by t => sizeOf t
decreasing_by
  all_goals
    have := List.sizeOf_lt_of_mem h
    simp
    omega

theorem mem_withSh {S : List Int} {w : Sh} {ps : List T} {p : T} : p ∈ withSh S w ps ↔ p ∈ ps ∧ share S p = w := by
  unfold withSh; simp
theorem splitAny_congr {S : List Int} {f g : T → Option (List T)} {ps : List T} (h : ∀ p ∈ ps, f p = g p) : splitAny S f ps = splitAny S g ps := by
  unfold splitAny
  split
  · rfl
  · rename_i m e
    have : m ∈ withSh S .some ps := by rw [e]; simp
    rw [h m (mem_withSh.mp this).1]
  · rfl
theorem exp1_congr {S : List Int} {f g : T → Option (List T)} {p : T} (h : f p = g p) : exp1 S f p = exp1 S g p := by
  unfold exp1; rw [h]
theorem expand_congr {S : List Int} {f g : T → Option (List T)} : ∀ {ps : List T}, (∀ p ∈ ps, f p = g p) → expand S f ps = expand S g ps
  | [], _ => rfl
  | p :: r, h => by
    unfold expand
    rw [exp1_congr (h p (by simp)), expand_congr fun q hq => h q (by simp [hq])]
theorem splitRow_congr {S : List Int} {f g : T → Option (List T)} {ps : List T} (h : ∀ p ∈ ps, f p = g p) : splitRow S f ps = splitRow S g ps := by
  unfold splitRow
  rw [expand_congr h, expand_congr (ps := ps.reverse) fun p hp => h p (List.mem_reverse.mp hp)]
theorem split_any (S : List Int) (ps : List T) : split S (.nd false ps) = splitAny S (split S) ps := by
  rw [split]
  exact splitAny_congr fun p hp => by rw [dif_pos hp]
theorem split_row (S : List Int) (ps : List T) : split S (.nd true ps) = splitRow S (split S) ps := by
  rw [split]
  exact splitRow_congr fun p hp => by rw [dif_pos hp]

/-! ### what a list of trees in a fixed sequence tells -/
def Is (r : Option (List T)) (P : List Int → Prop) : Prop :=
  match r with
  | some L => ∀ o, FrL L o ↔ P o
  | none => ∀ o, ¬ P o
theorem Is.congr {r : Option (List T)} {P Q : List Int → Prop} (h : Is r P) (e : ∀ o, P o ↔ Q o) : Is r Q := by
  unfold Is at *
  split
  · intro o; rw [← e]; exact h o
  · intro o; rw [← e]; exact h o
theorem Is.pure (L : List T) : Is (some L) (FrL L) := fun _ => Iff.rfl
def Then (P Q : List Int → Prop) : List Int → Prop := fun o => ∃ a b, o = a ++ b ∧ P a ∧ Q b
theorem Is.cat {r s : Option (List T)} {P Q : List Int → Prop} (h : Is r P) (h2 : Is s Q) : Is (cat r s) (Then P Q) := by
  cases r with
  | none =>
    have h' : ∀ o, ¬ P o := h
    have : PQ.cat none s = none := by cases s <;> rfl
    rw [this]
    rintro o ⟨a, b, _, ha, _⟩
    exact h' a ha
  | some L =>
    cases s with
    | none =>
      have h' : ∀ o, ¬ Q o := h2
      rintro o ⟨a, b, _, _, hb⟩
      exact h' b hb
    | some M =>
      have h1' : ∀ o, FrL L o ↔ P o := h
      have h2' : ∀ o, FrL M o ↔ Q o := h2
      intro o
      rw [FrL_append]
      constructor
      · rintro ⟨a, b, e, ha, hb⟩; exact ⟨a, b, e, (h1' a).mp ha, (h2' b).mp hb⟩
      · rintro ⟨a, b, e, ha, hb⟩; exact ⟨a, b, e, (h1' a).mpr ha, (h2' b).mpr hb⟩
theorem FrL_opt {ps : List T} {o : List Int} : FrL (opt ps) o ↔ FrA ps o := by
  cases ps with
  | nil =>
    unfold opt
    rw [FrL_nil]
    constructor
    · rintro rfl; exact ⟨[], .refl _, .nil⟩
    · rintro ⟨qs, hp, h⟩
      rw [hp.eq_nil, FrL_nil] at h; exact h
  | cons p r =>
    unfold opt
    rw [FrL_single, Fr_mkAny]
/-! ### kids by their shares -/
def WfL (ps : List T) : Prop := ∀ p ∈ ps, wf p
theorem WfL.ne {ps : List T} (h : WfL ps) {p : T} (hp : p ∈ ps) : lst p ≠ [] := lst_ne p (h p hp)
theorem Fr_ne {p : T} (h : wf p) {o : List Int} (ho : Fr p o) : o ≠ [] := by
  intro e
  subst e
  exact lst_ne p h (Fr_perm p _ ho).symm.eq_nil
theorem FrL_ne {ps : List T} (h : WfL ps) {o : List Int} (ho : FrL ps o) (h0 : ps ≠ []) : o ≠ [] := by
  match ps, h0 with
  | p :: r, _ =>
    obtain ⟨a, b, rfl, h1, _⟩ := FrL_cons.mp ho
    intro e
    exact Fr_ne (h p (by simp)) h1 (List.append_eq_nil_iff.mp e).1
theorem Fr_no {S : List Int} {p : T} (h : share S p = .none) {o : List Int} (ho : Fr p o) : NoS S o :=
  (share_none.mp h).perm (Fr_perm p o ho).symm
theorem Fr_all {S : List Int} {p : T} (hw : wf p) (h : share S p = .all) {o : List Int} (ho : Fr p o) : AllS S o :=
  ((share_all (lst_ne p hw)).mp h).perm (Fr_perm p o ho).symm
theorem Fr_has {S : List Int} {p : T} (h : share S p ≠ .none) {o : List Int} (ho : Fr p o) : Has S o :=
  (share_tch.mp h).perm (Fr_perm p o ho).symm
theorem share_all_of {S : List Int} {p : T} (hw : wf p) {o : List Int} (ho : Fr p o) (h : AllS S o) : share S p = .all :=
  (share_all (lst_ne p hw)).mpr (h.perm (Fr_perm p o ho))
theorem share_none_of {S : List Int} {p : T} {o : List Int} (ho : Fr p o) (h : NoS S o) : share S p = .none :=
  share_none.mpr (h.perm (Fr_perm p o ho))
theorem Fr_lacks {S : List Int} {p : T} (hw : wf p) (h : share S p ≠ .all) {o : List Int} (ho : Fr p o) : Lacks S o := by
  rw [← not_all]
  exact fun a => h (share_all_of hw ho a)
theorem FrL_no {S : List Int} {ps : List T} (h : ∀ p ∈ ps, share S p = .none) {o : List Int} (ho : FrL ps o) : NoS S o := by
  intro x hx
  obtain ⟨p, hp, hx⟩ := mem_lstL.mp ((FrL_perm ho).mem_iff.mp hx)
  exact share_none.mp (h p hp) x hx
theorem FrL_all {S : List Int} {ps : List T} (hw : WfL ps) (h : ∀ p ∈ ps, share S p = .all) {o : List Int} (ho : FrL ps o) : AllS S o := by
  intro x hx
  obtain ⟨p, hp, hx⟩ := mem_lstL.mp ((FrL_perm ho).mem_iff.mp hx)
  exact (share_all (hw.ne hp)).mp (h p hp) x hx
theorem FrL_has {S : List Int} {ps : List T} {p : T} (hp : p ∈ ps) (h : share S p ≠ .none) {o : List Int} (ho : FrL ps o) : Has S o := by
  obtain ⟨x, hx, hs⟩ := share_tch.mp h
  exact ⟨x, (FrL_perm ho).mem_iff.mpr (mem_lstL.mpr ⟨p, hp, hx⟩), hs⟩
theorem none_of_FrL {S : List Int} {ps : List T} {o : List Int} (ho : FrL ps o) (h : NoS S o) : ∀ p ∈ ps, share S p = .none := by
  intro p hp
  rw [share_none]
  exact fun x hx => h x ((FrL_perm ho).mem_iff.mpr (mem_lstL.mpr ⟨p, hp, hx⟩))
theorem all_of_FrL {S : List Int} {ps : List T} (hw : WfL ps) {o : List Int} (ho : FrL ps o) (h : AllS S o) : ∀ p ∈ ps, share S p = .all := by
  intro p hp
  rw [share_all (hw.ne hp)]
  exact fun x hx => h x ((FrL_perm ho).mem_iff.mpr (mem_lstL.mpr ⟨p, hp, hx⟩))

/-! ### ascending shares -/
theorem asc_nil (S : List Int) : asc S [] := ⟨.nil, by simp [withSh]⟩
theorem withSh_cons_eq {S : List Int} {w : Sh} {p : T} {r : List T} (h : share S p = w) : withSh S w (p :: r) = p :: withSh S w r := by
  unfold withSh; rw [List.filter_cons_of_pos (by simpa using h)]
theorem withSh_cons_ne {S : List Int} {w : Sh} {p : T} {r : List T} (h : share S p ≠ w) : withSh S w (p :: r) = withSh S w r := by
  unfold withSh; rw [List.filter_cons_of_neg (by simpa using h)]
theorem asc_none {S : List Int} {p : T} {r : List T} (h : share S p = .none) : asc S (p :: r) ↔ asc S r := by
  unfold asc
  rw [List.map_cons, List.pairwise_cons, withSh_cons_ne (by rw [h]; simp), h]
  simp [rank]
theorem all_withSh {S : List Int} {r : List T} (h : ∀ q ∈ r, share S q = .all) : withSh S .some r = [] ∧ withSh S .none r = [] ∧ withSh S .all r = r := by
  unfold withSh
  refine ⟨?_, ?_, ?_⟩
  · rw [List.filter_eq_nil_iff]; intro q hq; rw [h q hq]; simp
  · rw [List.filter_eq_nil_iff]; intro q hq; rw [h q hq]; simp
  · rw [List.filter_eq_self]; intro q hq; rw [h q hq]; simp
theorem none_withSh {S : List Int} {r : List T} (h : ∀ q ∈ r, share S q = .none) : withSh S .some r = [] ∧ withSh S .none r = r ∧ withSh S .all r = [] := by
  unfold withSh
  refine ⟨?_, ?_, ?_⟩
  · rw [List.filter_eq_nil_iff]; intro q hq; rw [h q hq]; simp
  · rw [List.filter_eq_self]; intro q hq; rw [h q hq]; simp
  · rw [List.filter_eq_nil_iff]; intro q hq; rw [h q hq]; simp
theorem rank_le (s : Sh) : rank s ≤ 2 := by cases s <;> simp [rank]
theorem rank_all {s : Sh} (h : 2 ≤ rank s) : s = .all := by cases s <;> simp [rank] at *
theorem pw_of {α : Type} {R : α → α → Prop} : ∀ {l : List α}, (∀ a ∈ l, ∀ b ∈ l, R a b) → l.Pairwise R
  | [], _ => .nil
  | a :: l, h => .cons (fun b hb => h a (by simp) b (by simp [hb])) (pw_of fun b hb c hc => h b (by simp [hb]) c (by simp [hc]))
theorem asc_tch {S : List Int} {p : T} {r : List T} (h : share S p ≠ .none) : asc S (p :: r) ↔ ∀ q ∈ r, share S q = .all := by
  unfold asc
  rw [List.map_cons, List.pairwise_cons]
  constructor
  · rintro ⟨⟨h1, h2⟩, h3⟩ q hq
    have h4 := h1 (rank (share S q)) (List.mem_map.mpr ⟨q, hq, rfl⟩)
    cases hp : share S p with
    | none => exact absurd hp h
    | all => rw [hp] at h4; exact rank_all h4
    | some =>
      rw [hp] at h4
      cases hs : share S q with
      | none => rw [hs] at h4; simp [rank] at h4
      | all => rfl
      | some =>
        rw [withSh_cons_eq hp] at h3
        have : q ∈ withSh S .some r := mem_withSh.mpr ⟨hq, hs⟩
        have := List.length_pos_of_mem this
        simp at h3; omega
  · intro ha
    refine ⟨⟨?_, ?_⟩, ?_⟩
    · intro k hk
      obtain ⟨q, hq, rfl⟩ := List.mem_map.mp hk
      rw [ha q hq]; exact rank_le _
    · rw [List.pairwise_map]
      refine pw_of ?_
      intro a haa b hb
      rw [ha a haa, ha b hb]; exact Nat.le_refl _
    · by_cases hp : share S p = .some
      · rw [withSh_cons_eq hp, (all_withSh ha).1]; simp
      · rw [withSh_cons_ne hp, (all_withSh ha).1]; simp
theorem asc_shape {S : List Int} : ∀ {ps : List T}, asc S ps → ps = withSh S .none ps ++ (withSh S .some ps ++ withSh S .all ps)
  | [], _ => rfl
  | p :: r, h => by
    by_cases hp : share S p = .none
    · have := asc_shape ((asc_none hp).mp h)
      rw [withSh_cons_eq hp, withSh_cons_ne (w := .some) (by rw [hp]; simp), withSh_cons_ne (w := .all) (by rw [hp]; simp), List.cons_append, ← this]
    · have ha := (asc_tch hp).mp h
      obtain ⟨h1, h2, h3⟩ := all_withSh ha
      rw [withSh_cons_ne (w := .none) hp, h2]
      by_cases hq : share S p = .some
      · rw [withSh_cons_eq hq, withSh_cons_ne (w := .all) (by rw [hq]; simp), h1, h3]; rfl
      · have hall : share S p = .all := by
          cases hs : share S p <;> simp [hs] at hp hq ⊢
        rw [withSh_cons_ne (w := .some) hq, withSh_cons_eq hall, h1, h3]; rfl
theorem part_perm (S : List Int) : ∀ ps : List T, (withSh S .none ps ++ (withSh S .some ps ++ withSh S .all ps)).Perm ps
  | [] => .refl _
  | p :: r => by
    have ih := part_perm S r
    cases hs : share S p with
    | none =>
      rw [withSh_cons_eq hs, withSh_cons_ne (w := .some) (by rw [hs]; simp), withSh_cons_ne (w := .all) (by rw [hs]; simp)]
      exact ih.cons p
    | some =>
      rw [withSh_cons_eq hs, withSh_cons_ne (w := .none) (by rw [hs]; simp), withSh_cons_ne (w := .all) (by rw [hs]; simp)]
      exact (List.perm_middle (l₁ := withSh S .none r)).trans (ih.cons p)
    | all =>
      rw [withSh_cons_eq hs, withSh_cons_ne (w := .none) (by rw [hs]; simp), withSh_cons_ne (w := .some) (by rw [hs]; simp)]
      rw [← List.append_assoc]
      refine List.perm_middle.trans ?_
      rw [List.append_assoc]
      exact ih.cons p
/-- an order whose chosen things stand at its end shows ascending shares -/
theorem asc_of_run {S : List Int} : ∀ {ps : List T} {o : List Int}, WfL ps → FrL ps o → run S 0 o = 1 → asc S ps
  | [], _, _, _, _ => asc_nil S
  | p :: r, o, hw, ho, hr => by
    obtain ⟨a, b, rfl, ha, hb⟩ := FrL_cons.mp ho
    have hwr : WfL r := fun q hq => hw q (by simp [hq])
    rw [run_append] at hr
    by_cases hp : share S p = .none
    · rw [run0_no (Fr_no hp ha)] at hr
      rw [asc_none hp]
      exact asc_of_run hwr hb hr
    · rw [asc_tch hp]
      have h1 := run0_has (Fr_has hp ha)
      have h2 := (run_mono S a 0 (by omega)).2
      have h3 := (run_mono S b _ h2).1
      have h4 : run S 0 a = 1 := by omega
      rw [h4] at hr
      exact all_of_FrL hwr hb (all_of_run1 hr)
theorem expand_all {S : List Int} {f : T → Option (List T)} : ∀ {ps : List T}, (∀ p ∈ ps, share S p ≠ .some) → expand S f ps = some ps
  | [], _ => rfl
  | p :: r, h => by
    unfold expand exp1
    rw [if_neg (h p (by simp)), expand_all fun q hq => h q (by simp [hq])]
    rfl
/-- what the split of a part must be -/
def SpOk (S : List Int) (f : T → Option (List T)) (p : T) : Prop := share S p = .some → Is (f p) fun o => Fr p o ∧ run S 0 o = 1
theorem exp1_is {S : List Int} {f : T → Option (List T)} {p : T} (hw : wf p) (hf : SpOk S f p) (ht : share S p ≠ .none) : Is (exp1 S f p) fun o => Fr p o ∧ run S 0 o = 1 := by
  unfold exp1
  split
  · rename_i h; exact hf h
  · rename_i h
    have hall : share S p = .all := by
      cases hs : share S p <;> simp [hs] at ht h ⊢
    refine (Is.pure [p]).congr fun o => ?_
    rw [FrL_single]
    exact ⟨fun ho => ⟨ho, run0_all (Fr_all hw hall ho) (Fr_ne hw ho)⟩, fun h => h.1⟩
theorem expand_is {S : List Int} {f : T → Option (List T)} : ∀ {ps : List T}, WfL ps → (∀ p ∈ ps, SpOk S f p) → asc S ps → (∃ p ∈ ps, share S p ≠ .none) →
    Is (expand S f ps) fun o => FrL ps o ∧ run S 0 o = 1
  | [], _, _, _, h => by obtain ⟨p, hp, _⟩ := h; simp at hp
  | p :: r, hw, hf, ha, ht => by
    have hwr : WfL r := fun q hq => hw q (by simp [hq])
    unfold expand
    by_cases hp : share S p = .none
    · have e1 : exp1 S f p = some [p] := by unfold exp1; rw [if_neg (by rw [hp]; simp)]
      rw [e1]
      have ht' : ∃ p ∈ r, share S p ≠ .none := by
        obtain ⟨q, hq, h⟩ := ht
        rcases List.mem_cons.mp hq with rfl | hq
        · exact absurd hp h
        · exact ⟨q, hq, h⟩
      refine ((Is.pure [p]).cat (expand_is hwr (fun q hq => hf q (by simp [hq])) ((asc_none hp).mp ha) ht')).congr fun o => ?_
      rw [FrL_cons]
      constructor
      · rintro ⟨a, b, rfl, h1, h2, h3⟩
        have h1 := FrL_single.mp h1
        refine ⟨⟨a, b, rfl, h1, h2⟩, ?_⟩
        rw [run_append, run0_no (Fr_no hp h1)]; exact h3
      · rintro ⟨⟨a, b, rfl, h1, h2⟩, h3⟩
        rw [run_append, run0_no (Fr_no hp h1)] at h3
        exact ⟨a, b, rfl, FrL_single.mpr h1, h2, h3⟩
    · have hall := (asc_tch hp).mp ha
      rw [expand_all (ps := r) fun q hq => by rw [hall q hq]; simp]
      refine ((exp1_is (hw p (by simp)) (hf p (by simp)) hp).cat (Is.pure r)).congr fun o => ?_
      rw [FrL_cons]
      constructor
      · rintro ⟨a, b, rfl, ⟨h1, h2⟩, h3⟩
        refine ⟨⟨a, b, rfl, h1, h3⟩, ?_⟩
        rw [run_append, h2, run1_all (FrL_all hwr hall h3)]
      · rintro ⟨⟨a, b, rfl, h1, h2⟩, h3⟩
        rw [run_append] at h3
        have q1 := run0_has (Fr_has hp h1)
        have q2 := (run_mono S a 0 (by omega)).2
        have q3 := (run_mono S b _ q2).1
        exact ⟨a, b, rfl, ⟨h1, by omega⟩, h2⟩
theorem asc_not_both {S : List Int} {ps : List T} (h3 : 3 ≤ ps.length) (h : asc S ps) (hr : asc S ps.reverse) (ht : ∃ p ∈ ps, share S p ≠ .none) (hn : ∃ p ∈ ps, share S p ≠ .all) : False := by
  match ps, h3 with
  | a :: b :: r, h3 =>
    have e1 := h.1
    have e2 := hr.1
    rw [List.map_reverse, List.pairwise_reverse] at e2
    simp only [List.map_cons] at e1 e2
    have f1 := (List.pairwise_cons.mp e1).1
    have f2 := (List.pairwise_cons.mp e2).1
    have same : ∀ q ∈ b :: r, rank (share S q) = rank (share S a) := fun q hq => by
      have hm : rank (share S q) ∈ rank (share S b) :: r.map (fun p => rank (share S p)) := by
        rw [← List.map_cons (f := fun p => rank (share S p))]; exact List.mem_map.mpr ⟨q, hq, rfl⟩
      have := f1 _ hm
      have := f2 _ hm
      omega
    have inj : ∀ s t : Sh, rank s = rank t → s = t := by
      intro s t; cases s <;> cases t <;> simp [rank]
    have same2 : ∀ q ∈ a :: b :: r, share S q = share S a := fun q hq => by
      rcases List.mem_cons.mp hq with rfl | hq
      · rfl
      · exact inj _ _ (same q hq)
    obtain ⟨p, hp, h1⟩ := ht
    obtain ⟨q, hq, h2⟩ := hn
    rw [same2 p hp] at h1
    rw [same2 q hq] at h2
    have hs : share S a = .some := by
      cases hs : share S a <;> simp [hs] at h1 h2 ⊢
    have := h.2
    rw [withSh_cons_eq hs, withSh_cons_eq ((same2 b (by simp)).trans hs)] at this
    simp at this
    omega
theorem some_kids {S : List Int} {b : Bool} {ps : List T} (hw : WfL ps) (h0 : ps ≠ []) (h : share S (.nd b ps) = .some) : (∃ p ∈ ps, share S p ≠ .none) ∧ ∃ p ∈ ps, share S p ≠ .all := by
  have hne : lst (.nd b ps) ≠ [] := by
    rw [lst_nd]
    exact FrL_ne hw (FrL_some ps) h0
  rw [share_some hne, lst_nd] at h
  obtain ⟨⟨x, hx, h1⟩, y, hy, h2⟩ := h
  obtain ⟨p, hp, hx⟩ := mem_lstL.mp hx
  obtain ⟨q, hq, hy⟩ := mem_lstL.mp hy
  refine ⟨⟨p, hp, share_tch.mpr ⟨x, hx, h1⟩⟩, q, hq, fun e => ?_⟩
  exact h2 ((share_all (hw.ne hq)).mp e y hy)
theorem splitRow_is {S : List Int} {f : T → Option (List T)} {ps : List T} (hw : WfL ps) (h3 : 3 ≤ ps.length) (hf : ∀ p ∈ ps, SpOk S f p) (ht : ∃ p ∈ ps, share S p ≠ .none) (hn : ∃ p ∈ ps, share S p ≠ .all) :
    Is (splitRow S f ps) fun o => FrR ps o ∧ run S 0 o = 1 := by
  have hwr : WfL ps.reverse := fun p hp => hw p (List.mem_reverse.mp hp)
  unfold splitRow
  split
  · rename_i ha
    refine (expand_is hw hf ha ht).congr fun o => ?_
    constructor
    · rintro ⟨h1, h2⟩; exact ⟨.inl h1, h2⟩
    · rintro ⟨h1 | h1, h2⟩
      · exact ⟨h1, h2⟩
      · exact (asc_not_both h3 ha (asc_of_run hwr h1 h2) ht hn).elim
  · rename_i ha
    split
    · rename_i hb
      have ht' : ∃ p ∈ ps.reverse, share S p ≠ .none := by
        obtain ⟨p, hp, h⟩ := ht; exact ⟨p, List.mem_reverse.mpr hp, h⟩
      refine (expand_is hwr (fun p hp => hf p (List.mem_reverse.mp hp)) hb ht').congr fun o => ?_
      constructor
      · rintro ⟨h1, h2⟩; exact ⟨.inr h1, h2⟩
      · rintro ⟨h1 | h1, h2⟩
        · exact absurd (asc_of_run hw h1 h2) ha
        · exact ⟨h1, h2⟩
    · rename_i hb
      rintro o ⟨h1 | h1, h2⟩
      · exact ha (asc_of_run hw h1 h2)
      · exact hb (asc_of_run hwr h1 h2)
theorem withSh_perm {S : List Int} {w : Sh} {qs ps : List T} (h : qs.Perm ps) : (withSh S w qs).Perm (withSh S w ps) := h.filter _
theorem Wf_perm {qs ps : List T} (h : qs.Perm ps) (hw : WfL ps) : WfL qs := fun p hp => hw p (h.mem_iff.mp hp)
theorem Wf_with {S : List Int} {w : Sh} {ps : List T} (hw : WfL ps) : WfL (withSh S w ps) := fun p hp => hw p (mem_withSh.mp hp).1
theorem share_of_perm {S : List Int} {w : Sh} {qs ps : List T} (h : qs.Perm (withSh S w ps)) : ∀ q ∈ qs, share S q = w := fun q hq => (mem_withSh.mp (h.mem_iff.mp hq)).2
theorem splitAny_is {S : List Int} {f : T → Option (List T)} {ps : List T} (hw : WfL ps) (hf : ∀ p ∈ ps, SpOk S f p) (ht : ∃ p ∈ ps, share S p ≠ .none) :
    Is (splitAny S f ps) fun o => FrA ps o ∧ run S 0 o = 1 := by
  unfold splitAny
  split
  · rename_i hm
    have hF : withSh S .all ps ≠ [] := by
      intro e
      obtain ⟨p, hp, h⟩ := ht
      have : p ∈ withSh S .none ps ++ (withSh S .some ps ++ withSh S .all ps) := (part_perm S ps).mem_iff.mpr hp
      rw [hm, e, List.append_nil, List.append_nil] at this
      exact h (mem_withSh.mp this).2
    show Is (some _) _
    intro o
    rw [FrL_append]
    constructor
    · rintro ⟨a, b, rfl, h1, h2⟩
      obtain ⟨es, he, h1⟩ := FrL_opt.mp h1
      obtain ⟨fs, hfs, h2⟩ := FrL_opt.mp h2
      refine ⟨⟨es ++ fs, ?_, FrL_append.mpr ⟨a, b, rfl, h1, h2⟩⟩, ?_⟩
      · refine (he.append hfs).trans ?_
        have := part_perm S ps
        rw [hm] at this
        exact this
      · rw [run_append, run0_no (FrL_no (share_of_perm he) h1)]
        refine run0_all (FrL_all (Wf_perm hfs (Wf_with hw)) (share_of_perm hfs) h2) ?_
        refine FrL_ne (Wf_perm hfs (Wf_with hw)) h2 ?_
        intro e
        subst e
        exact hF hfs.symm.eq_nil
    · rintro ⟨⟨qs, hq, ho⟩, hr⟩
      have ha := asc_of_run (Wf_perm hq hw) ho hr
      have sh := asc_shape ha
      have hm2 : withSh S .some qs = [] := by
        have := withSh_perm (S := S) (w := .some) hq
        rw [hm] at this
        exact this.eq_nil
      rw [hm2, List.nil_append] at sh
      rw [sh] at ho
      obtain ⟨a, b, rfl, h1, h2⟩ := FrL_append.mp ho
      exact ⟨a, b, rfl, FrL_opt.mpr ⟨_, withSh_perm hq, h1⟩, FrL_opt.mpr ⟨_, withSh_perm hq, h2⟩⟩
  · rename_i m hm
    have hmm : m ∈ withSh S .some ps := by rw [hm]; simp
    have hmp := (mem_withSh.mp hmm).1
    have hms := (mem_withSh.mp hmm).2
    have key : ∀ o, (FrA ps o ∧ run S 0 o = 1) ↔ Then (FrL (opt (withSh S .none ps))) (Then (fun o => Fr m o ∧ run S 0 o = 1) (FrL (opt (withSh S .all ps)))) o := by
      intro o
      constructor
      · rintro ⟨⟨qs, hq, ho⟩, hr⟩
        have ha := asc_of_run (Wf_perm hq hw) ho hr
        have sh := asc_shape ha
        have hm2 : withSh S .some qs = [m] := by
          have := withSh_perm (S := S) (w := .some) hq
          rw [hm] at this
          exact List.perm_singleton.mp this
        rw [hm2] at sh
        rw [sh] at ho
        obtain ⟨a, b, rfl, h1, h2⟩ := FrL_append.mp ho
        obtain ⟨c, d, rfl, h3, h4⟩ := FrL_append.mp h2
        refine ⟨a, c ++ d, rfl, FrL_opt.mpr ⟨_, withSh_perm hq, h1⟩, c, d, rfl, ⟨FrL_single.mp h3, ?_⟩, FrL_opt.mpr ⟨_, withSh_perm hq, h4⟩⟩
        rw [run_append, run0_no (FrL_no (fun p hp => (mem_withSh.mp hp).2) h1), run_append] at hr
        have q1 := run0_has (Fr_has (by rw [hms]; simp) (FrL_single.mp h3))
        have q2 := (run_mono S c 0 (by omega)).2
        have q3 := (run_mono S d _ q2).1
        omega
      · rintro ⟨a, b, rfl, h1, c, d, rfl, ⟨h3, h5⟩, h4⟩
        obtain ⟨es, he, h1⟩ := FrL_opt.mp h1
        obtain ⟨fs, hfs, h4⟩ := FrL_opt.mp h4
        refine ⟨⟨es ++ ([m] ++ fs), ?_, FrL_append.mpr ⟨a, c ++ d, rfl, h1, FrL_append.mpr ⟨c, d, rfl, FrL_single.mpr h3, h4⟩⟩⟩, ?_⟩
        · refine (he.append (hfs.append_left _)).trans ?_
          have := part_perm S ps
          rw [hm] at this
          exact this
        · rw [run_append, run0_no (FrL_no (share_of_perm he) h1), run_append, h5]
          exact run1_all (FrL_all (Wf_perm hfs (Wf_with hw)) (share_of_perm hfs) h4)
    have hfm := hf m hmp hms
    have e : (f m).map (fun inner => opt (withSh S .none ps) ++ (inner ++ opt (withSh S .all ps))) = cat (some (opt (withSh S .none ps))) (cat (f m) (some (opt (withSh S .all ps)))) := by
      cases f m <;> rfl
    rw [e]
    exact ((Is.pure _).cat (hfm.cat (Is.pure _))).congr fun o => (key o).symm
  · rename_i h0 h1
    rintro o ⟨⟨qs, hq, ho⟩, hr⟩
    have ha := (asc_of_run (Wf_perm hq hw) ho hr).2
    rw [(withSh_perm (S := S) (w := .some) hq).length_eq] at ha
    rcases hmm : withSh S .some ps with _ | ⟨a, _ | ⟨b, r⟩⟩
    · exact h0 hmm
    · exact h1 a hmm
    · rw [hmm] at ha; simp at ha; omega
theorem split_is (S : List Int) : ∀ t : T, wf t → SpOk S (split S) t := by
  intro t
  induction t using T.ind with
  | h1 i => intro _ h; exact absurd h share_th
  | h2 b ps ih =>
    intro hw hs
    rw [wf_nd] at hw
    obtain ⟨h2, h3, hw⟩ := hw
    have h0 : ps ≠ [] := by intro e; subst e; simp at h2
    obtain ⟨ht, hn⟩ := some_kids hw h0 hs
    cases b with
    | false =>
      rw [split_any]
      refine (splitAny_is hw (fun p hp => ih p hp (hw p hp)) ht).congr fun o => ?_
      rw [Fr_any]; exact Iff.rfl
    | true =>
      rw [split_row]
      refine (splitRow_is hw (h3 rfl) (fun p hp => ih p hp (hw p hp)) ht hn).congr fun o => ?_
      rw [Fr_row]; exact Iff.rfl
end PQ
namespace PQ
/-! ### the tree in which the chosen things stand together -/
def lead (S : List Int) (ps : List T) : List T := ps.takeWhile fun p => decide (share S p = .none)
def rest (S : List Int) (ps : List T) : List T := ps.dropWhile fun p => decide (share S p = .none)
def trail (S : List Int) (ps : List T) : List T := ((rest S ps).reverse.takeWhile fun p => decide (share S p = .none)).reverse
def core (S : List Int) (ps : List T) : List T := ((rest S ps).reverse.dropWhile fun p => decide (share S p = .none)).reverse
def rowSeg (S : List Int) (f : T → Option (List T)) : List T → Option (List T)
  | [] => some []
  | [p] => (exp1 S f p).map List.reverse
  | p :: q :: r => cat (exp1 S f p) (rowSeg S f (q :: r))
open Classical in
noncomputable def joinedRow (S : List Int) (f : T → Option (List T)) (ps : List T) : Option T :=
  if ∀ p ∈ (core S ps).tail.dropLast, share S p = .all then (rowSeg S f (core S ps)).map fun L => mkRow (lead S ps ++ (L ++ trail S ps)) else none
def joinedAny (S : List Int) (f : T → Option (List T)) (ps : List T) : Option T :=
  match withSh S .some ps with
  | [] => some (mkAny (withSh S .none ps ++ [mkAny (withSh S .all ps)]))
  | [m] => (f m).map fun l => mkAny (withSh S .none ps ++ [mkRow (l ++ opt (withSh S .all ps))])
  | [m, m'] => (cat (f m) (cat (some (opt (withSh S .all ps))) ((f m').map List.reverse))).map fun l => mkAny (withSh S .none ps ++ [mkRow l])
  | _ => none
open Classical in
noncomputable def joined (S : List Int) : T → Option T
  | .th i => some (.th i)
  | .nd b ps =>
    if share S (.nd b ps) = .all then some (.nd b ps)
    else match core S ps with
      | [m] => (if h : m ∈ ps then joined S m else none).map fun t => .nd b (lead S ps ++ t :: trail S ps)
      | _ => if b = true then joinedRow S (split S) ps else joinedAny S (split S) ps
termination_by t => sizeOf t
decreasing_by
  have := List.sizeOf_lt_of_mem h
  simp
  omega

theorem parts_eq (S : List Int) (ps : List T) : ps = lead S ps ++ (core S ps ++ trail S ps) := by
  have h1 : rest S ps = core S ps ++ trail S ps := by
    unfold core trail
    rw [← List.reverse_append, List.takeWhile_append_dropWhile, List.reverse_reverse]
  rw [← h1]
  exact (List.takeWhile_append_dropWhile).symm
theorem mem_takeW {p : T → Bool} : ∀ {l : List T} {x : T}, x ∈ l.takeWhile p → p x = true
  | [], _, h => by simp at h
  | a :: l, x, h => by
    rw [List.takeWhile_cons] at h
    split at h
    · rename_i ha
      rcases List.mem_cons.mp h with rfl | h
      · exact ha
      · exact mem_takeW h
    · simp at h
theorem lead_none {S : List Int} {ps : List T} : ∀ p ∈ lead S ps, share S p = .none := fun p hp => by
  simpa using mem_takeW hp
theorem trail_none {S : List Int} {ps : List T} : ∀ p ∈ trail S ps, share S p = .none := fun p hp => by
  simpa using mem_takeW (List.mem_reverse.mp hp)
theorem dropW_head {p : T → Bool} : ∀ {l : List T} {x : T} {r : List T}, l.dropWhile p = x :: r → p x = false
  | [], _, _, h => by simp at h
  | a :: l, x, r, h => by
    rw [List.dropWhile_cons] at h
    split at h
    · exact dropW_head h
    · rename_i ha
      cases h
      simpa using ha
theorem core_shape {S : List Int} {ps : List T} (ht : ∃ p ∈ ps, share S p ≠ .none) :
    (∃ m, core S ps = [m] ∧ share S m ≠ .none) ∨ ∃ f mid l, core S ps = f :: (mid ++ [l]) ∧ share S f ≠ .none ∧ share S l ≠ .none := by
  have hc : core S ps ≠ [] := by
    intro e
    obtain ⟨p, hp, h⟩ := ht
    have h1 := parts_eq S ps
    rw [e, List.nil_append] at h1
    rw [h1] at hp
    rcases List.mem_append.mp hp with hp | hp
    · exact h (lead_none p hp)
    · exact h (trail_none p hp)
  obtain ⟨x, r, hx⟩ : ∃ x r, core S ps = x :: r := by
    cases hc' : core S ps with
    | nil => exact absurd hc' hc
    | cons x r => exact ⟨x, r, rfl⟩
  have hlast : ∀ l mid, core S ps = mid ++ [l] → share S l ≠ .none := by
    intro l mid e
    unfold core at e
    have e2 : (List.dropWhile (fun p => decide (share S p = .none)) (rest S ps).reverse) = l :: mid.reverse := by
      have := congrArg List.reverse e
      rw [List.reverse_reverse] at this
      rw [this]; simp
    simpa using dropW_head e2
  have hrest : rest S ps = core S ps ++ trail S ps := by
    unfold core trail
    rw [← List.reverse_append, List.takeWhile_append_dropWhile, List.reverse_reverse]
  have hfirst : share S x ≠ .none := by
    rw [hx] at hrest
    unfold rest at hrest
    simpa using dropW_head hrest
  rcases List.eq_nil_or_concat r with rfl | ⟨mid, l, rfl⟩
  · exact .inl ⟨x, hx, hfirst⟩
  · rw [List.concat_eq_append] at hx
    refine .inr ⟨x, mid, l, hx, hfirst, hlast l (x :: mid) (by rw [hx]; simp)⟩

theorem run_tail_no {S c : List Int} (h : NoS S c) {s : Nat} (hs : s ≤ 3) : run S s c ≤ 2 ↔ s ≤ 2 := by
  have hm := run_mono S c s hs
  constructor
  · intro; omega
  · intro h2
    have : s = 0 ∨ s = 1 ∨ s = 2 := by omega
    rcases this with rfl | rfl | rfl
    · rw [run0_no h]; omega
    · exact run1_no' h
    · rw [run2_no h]; omega
theorem pad {S : List Int} {e1 e2 X : List T} (h1 : ∀ p ∈ e1, share S p = .none) (h2 : ∀ p ∈ e2, share S p = .none) (o : List Int) :
    (FrL (e1 ++ (X ++ e2)) o ∧ run S 0 o ≤ 2) ↔ Then (FrL e1) (Then (fun b => FrL X b ∧ run S 0 b ≤ 2) (FrL e2)) o := by
  constructor
  · rintro ⟨h, hr⟩
    obtain ⟨a, b, rfl, ha, hb⟩ := FrL_append.mp h
    obtain ⟨c, d, rfl, hc, hd⟩ := FrL_append.mp hb
    rw [run_append, run0_no (FrL_no h1 ha), run_append, run_tail_no (FrL_no h2 hd) (run_mono S c 0 (by omega)).2] at hr
    exact ⟨a, c ++ d, rfl, ha, c, d, rfl, ⟨hc, hr⟩, hd⟩
  · rintro ⟨a, b, rfl, ha, c, d, rfl, ⟨hc, hr⟩, hd⟩
    refine ⟨FrL_append.mpr ⟨a, c ++ d, rfl, ha, FrL_append.mpr ⟨c, d, rfl, hc, hd⟩⟩, ?_⟩
    rw [run_append, run0_no (FrL_no h1 ha), run_append, run_tail_no (FrL_no h2 hd) (run_mono S c 0 (by omega)).2]
    exact hr
theorem core_is {S : List Int} {f l : T} {mid : List T} (hw : WfL (f :: (mid ++ [l]))) (hf : share S f ≠ .none) (hl : share S l ≠ .none) (o : List Int) :
    (FrL (f :: (mid ++ [l])) o ∧ run S 0 o ≤ 2) ↔ (∀ p ∈ mid, share S p = .all) ∧ Then (fun a => Fr f a ∧ run S 0 a = 1) (Then (FrL mid) (fun c => Fr l c ∧ run S 1 c ≤ 2)) o := by
  have hwm : WfL mid := fun p hp => hw p (by simp [hp])
  constructor
  · rintro ⟨h, hr⟩
    obtain ⟨a, b, rfl, ha, hb⟩ := FrL_cons.mp h
    obtain ⟨c, d, rfl, hc, hd⟩ := FrL_append.mp hb
    have hd := FrL_single.mp hd
    rw [run_append, run_append] at hr
    have q1 := run0_has (Fr_has hf ha)
    have q2 := (run_mono S a 0 (by omega)).2
    have q3 := run_mono S c _ q2
    have hdh := Fr_has hl hd
    have no2 : ¬ 2 ≤ run S (run S 0 a) c := by
      intro h2
      have : run S (run S 0 a) c = 2 ∨ run S (run S 0 a) c = 3 := by omega
      rcases this with e | e
      · rw [e, run2_has hdh] at hr; omega
      · rw [e, run3] at hr; omega
    have e1 : run S 0 a = 1 := by omega
    have e2 : run S (run S 0 a) c = 1 := by omega
    rw [e2] at hr
    rw [e1] at e2
    exact ⟨all_of_FrL hwm hc (all_of_run1 e2), a, c ++ d, rfl, ⟨ha, e1⟩, c, d, rfl, hc, hd, hr⟩
  · rintro ⟨hall, a, b, rfl, ⟨ha, e1⟩, c, d, rfl, hc, hd, hr⟩
    refine ⟨FrL_cons.mpr ⟨a, c ++ d, rfl, ha, FrL_append.mpr ⟨c, d, rfl, hc, FrL_single.mpr hd⟩⟩, ?_⟩
    rw [run_append, e1, run_append, run1_all (FrL_all hwm hall hc)]
    exact hr
theorem exp1rev_is {S : List Int} {f : T → Option (List T)} {p : T} (hw : wf p) (hf : SpOk S f p) (ht : share S p ≠ .none) : Is ((exp1 S f p).map List.reverse) fun o => Fr p o ∧ run S 1 o ≤ 2 := by
  have h := exp1_is hw hf ht
  have back : ∀ o, (Fr p o.reverse ∧ run S 0 o.reverse = 1) ↔ (Fr p o ∧ run S 1 o ≤ 2) := fun o => by
    rw [Fr_rev_iff]
    constructor
    · rintro ⟨h1, h2⟩; exact ⟨h1, (run_suf_rev (Fr_has ht h1)).mp h2⟩
    · rintro ⟨h1, h2⟩; exact ⟨h1, (run_suf_rev (Fr_has ht h1)).mpr h2⟩
  cases e : exp1 S f p with
  | none =>
    rw [e] at h
    have h' : ∀ o, ¬ (Fr p o ∧ run S 0 o = 1) := h
    intro o ho
    exact h' o.reverse ((back o).mpr ho)
  | some L =>
    rw [e] at h
    have h' : ∀ o, FrL L o ↔ (Fr p o ∧ run S 0 o = 1) := h
    intro o
    rw [FrL_rev_iff', h', back]
theorem rowSeg_mid {S : List Int} {f : T → Option (List T)} {l : T} : ∀ {mid : List T}, (∀ p ∈ mid, share S p = .all) → rowSeg S f (mid ++ [l]) = cat (some mid) ((exp1 S f l).map List.reverse)
  | [], _ => by
    show (exp1 S f l).map List.reverse = _
    cases exp1 S f l <;> rfl
  | p :: r, h => by
    have ih := rowSeg_mid (f := f) (l := l) (mid := r) fun q hq => h q (by simp [hq])
    have e1 : exp1 S f p = some [p] := by unfold exp1; rw [if_neg (by rw [h p (by simp)]; simp)]
    have e : rowSeg S f (p :: (r ++ [l])) = cat (exp1 S f p) (rowSeg S f (r ++ [l])) := by
      cases r <;> rfl
    rw [List.cons_append, e, ih, e1]
    cases exp1 S f l <;> rfl
theorem rowSeg_is {S : List Int} {f : T → Option (List T)} {a l : T} {mid : List T} (hw : WfL (a :: (mid ++ [l]))) (hf : ∀ p ∈ a :: (mid ++ [l]), SpOk S f p) (ha : share S a ≠ .none) (hl : share S l ≠ .none) (hm : ∀ p ∈ mid, share S p = .all) :
    Is (rowSeg S f (a :: (mid ++ [l]))) fun o => FrL (a :: (mid ++ [l])) o ∧ run S 0 o ≤ 2 := by
  have e : rowSeg S f (a :: (mid ++ [l])) = cat (exp1 S f a) (cat (some mid) ((exp1 S f l).map List.reverse)) := by
    rw [← rowSeg_mid hm]
    cases mid <;> rfl
  rw [e]
  refine ((exp1_is (hw a (by simp)) (hf a (by simp)) ha).cat ((Is.pure mid).cat (exp1rev_is (hw l (by simp)) (hf l (by simp)) hl))).congr fun o => ?_
  rw [core_is hw ha hl]
  exact ⟨fun h => ⟨hm, h⟩, fun h => h.2⟩
def JIs (r : Option T) (P : List Int → Prop) : Prop :=
  match r with
  | some t => ∀ o, Fr t o ↔ P o
  | none => ∀ o, ¬ P o
theorem core_sub {S : List Int} {ps : List T} {p : T} (h : p ∈ core S ps) : p ∈ ps := by
  rw [parts_eq S ps]; simp [h]
theorem joinedRow_is {S : List Int} {f : T → Option (List T)} {ps : List T} {a l : T} {mid : List T} (hw : WfL ps) (hf : ∀ p ∈ ps, SpOk S f p) (hc : core S ps = a :: (mid ++ [l])) (ha : share S a ≠ .none) (hl : share S l ≠ .none) :
    JIs (joinedRow S f ps) fun o => FrR ps o ∧ run S 0 o ≤ 2 := by
  have hwc : WfL (a :: (mid ++ [l])) := fun p hp => hw p (core_sub (by rw [hc]; exact hp))
  have hpe := parts_eq S ps
  rw [hc] at hpe
  have em : (a :: (mid ++ [l])).tail.dropLast = mid := by simp
  -- one direction is enough
  have two : ∀ (P : List Int → Prop), (∀ o, P o ↔ FrL ps o ∧ run S 0 o ≤ 2) → ∀ o, (P o ∨ P o.reverse) ↔ (FrR ps o ∧ run S 0 o ≤ 2) := by
    intro P hP o
    rw [hP, hP, run_rev, ← FrL_rev_iff']
    unfold FrR
    constructor
    · rintro (⟨h1, h2⟩ | ⟨h1, h2⟩)
      · exact ⟨.inl h1, h2⟩
      · exact ⟨.inr h1, h2⟩
    · rintro ⟨h1 | h1, h2⟩
      · exact .inl ⟨h1, h2⟩
      · exact .inr ⟨h1, h2⟩
  unfold joinedRow
  split
  · rename_i hm
    rw [hc, em] at hm
    have hr := rowSeg_is hwc (fun p hp => hf p (core_sub (by rw [hc]; exact hp))) ha hl hm
    rw [hc]
    cases e : rowSeg S f (a :: (mid ++ [l])) with
    | none =>
      rw [e] at hr
      have hr' : ∀ o, ¬ (FrL (a :: (mid ++ [l])) o ∧ run S 0 o ≤ 2) := hr
      intro o ho
      have := (two (fun _ => False) (fun o => ?_) o).mpr ho
      · rcases this with h | h <;> exact h
      · refine ⟨False.elim, fun h => ?_⟩
        rw [hpe, pad lead_none trail_none] at h
        obtain ⟨_, _, _, _, b, _, _, hb, _⟩ := h
        exact hr' b hb
    | some L =>
      rw [e] at hr
      have hr' : ∀ o, FrL L o ↔ (FrL (a :: (mid ++ [l])) o ∧ run S 0 o ≤ 2) := hr
      intro o
      rw [Fr_mkRow]
      show FrR (lead S ps ++ (L ++ trail S ps)) o ↔ (FrR ps o ∧ run S 0 o ≤ 2)
      rw [← two (FrL (lead S ps ++ (L ++ trail S ps))) ?_ o]
      · unfold FrR
        rw [← FrL_rev_iff']
      · intro o
        have hpad := pad (S := S) (X := a :: (mid ++ [l])) (lead_none (S := S) (ps := ps)) (trail_none (S := S) (ps := ps)) o
        rw [← hpe] at hpad
        rw [hpad, FrL_append]
        constructor
        · rintro ⟨x, y, rfl, h1, h2⟩
          obtain ⟨u, v, rfl, h3, h4⟩ := FrL_append.mp h2
          exact ⟨x, u ++ v, rfl, h1, u, v, rfl, (hr' u).mp h3, h4⟩
        · rintro ⟨x, y, rfl, h1, u, v, rfl, h3, h4⟩
          exact ⟨x, u ++ v, rfl, h1, FrL_append.mpr ⟨u, v, rfl, (hr' u).mpr h3, h4⟩⟩
  · rename_i hm
    rw [hc, em] at hm
    intro o ho
    have := (two (fun _ => False) (fun o => ?_) o).mpr ho
    · rcases this with h | h <;> exact h
    · refine ⟨False.elim, fun h => ?_⟩
      rw [hpe, pad lead_none trail_none] at h
      obtain ⟨_, _, _, _, b, _, _, hb, _⟩ := h
      exact hm ((core_is hwc ha hl b).mp hb).1
end PQ
namespace PQ
theorem perm_ins {α : Type} {qs a b : List α} {m : α} : qs.Perm (a ++ m :: b) ↔ ∃ x y, qs = x ++ m :: y ∧ (x ++ y).Perm (a ++ b) := by
  constructor
  · intro h
    have hm : m ∈ qs := h.mem_iff.mpr (by simp)
    obtain ⟨x, y, rfl⟩ := List.append_of_mem hm
    exact ⟨x, y, rfl, List.Perm.cons_inv ((List.perm_middle.symm.trans h).trans List.perm_middle)⟩
  · rintro ⟨x, y, rfl, h⟩
    exact (List.perm_middle.trans (h.cons m)).trans List.perm_middle.symm
theorem withSh_append {S : List Int} {w : Sh} {a b : List T} : withSh S w (a ++ b) = withSh S w a ++ withSh S w b := by
  unfold withSh; rw [List.filter_append]
theorem FrL_rev_perm {C : List T} {o : List Int} : FrA C o.reverse ↔ FrA C o := by
  constructor
  · rintro ⟨qs, hq, h⟩
    exact ⟨qs.reverse, (List.reverse_perm _).trans hq, FrL_rev_iff'.mpr h⟩
  · rintro ⟨qs, hq, h⟩
    exact ⟨qs.reverse, (List.reverse_perm _).trans hq, FrL_rev h⟩
/-- within an order in which the set stands together -/
theorem core_tch {S : List Int} {qs : List T} {b : List Int} (hw : WfL qs) (ht : ∃ p ∈ qs, share S p ≠ .none) (h : FrL (core S qs) b) (hr : run S 0 b ≤ 2) :
    (∀ p ∈ core S qs, share S p ≠ .none) ∧ (withSh S .some (core S qs)).length ≤ 2 := by
  rcases core_shape ht with ⟨m, hm, h1⟩ | ⟨f, mid, l, hm, h1, h2⟩
  · rw [hm]
    refine ⟨fun p hp => ?_, ?_⟩
    · rw [List.mem_singleton.mp hp]; exact h1
    · exact Nat.le_trans (List.length_filter_le _ _) (by simp)
  · rw [hm] at h ⊢
    have hwc : WfL (f :: (mid ++ [l])) := fun p hp => hw p (core_sub (by rw [hm]; exact hp))
    have hmid := ((core_is hwc h1 h2 b).mp ⟨h, hr⟩).1
    refine ⟨fun p hp => ?_, ?_⟩
    · rcases List.mem_cons.mp hp with rfl | hp
      · exact h1
      · rcases List.mem_append.mp hp with hp | hp
        · rw [hmid p hp]; simp
        · rw [List.mem_singleton.mp hp]; exact h2
    · have e : f :: (mid ++ [l]) = [f] ++ (mid ++ [l]) := rfl
      rw [e, withSh_append, withSh_append, (all_withSh hmid).1]
      have q1 : (withSh S .some [f]).length ≤ 1 := List.length_filter_le _ [f]
      have q2 : (withSh S .some [l]).length ≤ 1 := List.length_filter_le _ [l]
      simp only [List.length_append, List.length_nil]; omega
theorem any_shape {S : List Int} {ps : List T} (hw : WfL ps) (ht : ∃ p ∈ ps, share S p ≠ .none) (o : List Int) :
    (FrA ps o ∧ run S 0 o ≤ 2) ↔ ∃ x y, (x ++ y).Perm (withSh S .none ps) ∧ Then (FrL x) (Then (fun b => FrA (withSh S .some ps ++ withSh S .all ps) b ∧ run S 0 b ≤ 2) (FrL y)) o := by
  constructor
  · rintro ⟨⟨qs, hq, h⟩, hr⟩
    have hwq := Wf_perm hq hw
    have htq : ∃ p ∈ qs, share S p ≠ .none := by
      obtain ⟨p, hp, h⟩ := ht; exact ⟨p, hq.mem_iff.mpr hp, h⟩
    have hpe := parts_eq S qs
    rw [hpe] at h
    obtain ⟨a, b, rfl, ha, c, d, rfl, ⟨hc, hr2⟩, hd⟩ := (pad lead_none trail_none _).mp ⟨h, hr⟩
    have hct := (core_tch hwq htq hc hr2).1
    have cn : withSh S .none (core S qs) = [] := by
      unfold withSh
      rw [List.filter_eq_nil_iff]
      intro p hp
      simpa using hct p hp
    have e0 : withSh S .none qs = lead S qs ++ trail S qs := by
      conv => lhs; rw [hpe]
      rw [withSh_append, withSh_append, cn, (none_withSh lead_none).2.1, (none_withSh trail_none).2.1]; rfl
    have e1 : withSh S .some qs = withSh S .some (core S qs) := by
      conv => lhs; rw [hpe]
      rw [withSh_append, withSh_append, (none_withSh lead_none).1, (none_withSh trail_none).1]; simp
    have e2 : withSh S .all qs = withSh S .all (core S qs) := by
      conv => lhs; rw [hpe]
      rw [withSh_append, withSh_append, (none_withSh lead_none).2.2, (none_withSh trail_none).2.2]; simp
    refine ⟨lead S qs, trail S qs, by rw [← e0]; exact withSh_perm hq, a, c ++ d, rfl, ha, c, d, rfl, ⟨⟨core S qs, ?_, hc⟩, hr2⟩, hd⟩
    have hp := part_perm S (core S qs)
    rw [cn, List.nil_append] at hp
    refine hp.symm.trans ?_
    rw [← e1, ← e2]
    exact (withSh_perm hq).append (withSh_perm hq)
  · rintro ⟨x, y, hxy, a, b, rfl, ha, c, d, rfl, ⟨⟨cs, hcs, hc⟩, hr2⟩, hd⟩
    have hx : ∀ p ∈ x, share S p = .none := fun p hp => share_of_perm hxy p (by simp [hp])
    have hy : ∀ p ∈ y, share S p = .none := fun p hp => share_of_perm hxy p (by simp [hp])
    have := (pad (X := cs) hx hy (a ++ (c ++ d))).mpr ⟨a, c ++ d, rfl, ha, c, d, rfl, ⟨hc, hr2⟩, hd⟩
    refine ⟨⟨x ++ (cs ++ y), ?_, this.1⟩, this.2⟩
    have h1 : (x ++ (cs ++ y)).Perm ((x ++ y) ++ cs) := by
      rw [List.append_assoc]
      exact List.perm_append_comm.append_left x
    exact (h1.trans (hxy.append hcs)).trans (part_perm S ps)
theorem end_of_some {S : List Int} {x y : List T} {m : T} {b : List Int} (hwm : wf m) (hm : share S m ≠ .all) (hx : ∀ p ∈ x, share S p ≠ .none) (hy : ∀ p ∈ y, share S p ≠ .none) (h : FrL (x ++ m :: y) b) (hr : run S 0 b ≤ 2) : x = [] ∨ y = [] := by
  cases x with
  | nil => exact .inl rfl
  | cons p x =>
    cases y with
    | nil => exact .inr rfl
    | cons q y =>
      obtain ⟨c, d, rfl, hc, hd⟩ := FrL_append.mp h
      obtain ⟨e, g, rfl, he, hg⟩ := FrL_cons.mp hd
      rw [run_append, run_append] at hr
      have q1 := run0_has (FrL_has (by simp) (hx p (by simp)) hc)
      have q2 := (run_mono S c 0 (by omega)).2
      have q3 := run1_lacks (Fr_lacks hwm hm he)
      have q4 := run_mono S e _ q2
      have q5 : 2 ≤ run S (run S 0 c) e := by
        by_cases e1 : run S 0 c = 1
        · rw [e1]; exact q3
        · omega
      have hg' := FrL_has (S := S) (p := q) (by simp) (hy q (by simp)) hg
      have q6 : run S (run S 0 c) e = 2 ∨ run S (run S 0 c) e = 3 := by omega
      rcases q6 with q6 | q6
      · rw [q6, run2_has hg'] at hr; omega
      · rw [q6, run3] at hr; omega
theorem head_of {S : List Int} {y : List T} {m : T} {b : List Int} (hm : share S m ≠ .none) (hy : ∀ p ∈ y, share S p ≠ .none) (h0 : y ≠ []) (h : FrL (m :: y) b) (hr : run S 0 b ≤ 2) :
    Then (fun o => Fr m o ∧ run S 0 o = 1) (fun o => FrL y o ∧ run S 1 o ≤ 2) b := by
  obtain ⟨c, d, rfl, hc, hd⟩ := FrL_cons.mp h
  rw [run_append] at hr
  have q1 := run0_has (Fr_has hm hc)
  have q2 := (run_mono S c 0 (by omega)).2
  have hdh : Has S d := by
    cases y with
    | nil => exact absurd rfl h0
    | cons q y => exact FrL_has (by simp) (hy q (by simp)) hd
  have q3 : run S 0 c = 1 ∨ run S 0 c = 2 ∨ run S 0 c = 3 := by omega
  rcases q3 with q3 | q3 | q3
  · rw [q3] at hr
    exact ⟨c, d, rfl, ⟨hc, q3⟩, hd, hr⟩
  · rw [q3, run2_has hdh] at hr; omega
  · rw [q3, run3] at hr; omega
theorem both_ways {S : List Int} {C L : List T} (h1 : ∀ b, FrL L b → FrA C b ∧ run S 0 b ≤ 2) (h2 : ∀ b, FrA C b → run S 0 b ≤ 2 → FrL L b ∨ FrL L b.reverse) (b : List Int) : Fr (mkRow L) b ↔ FrA C b ∧ run S 0 b ≤ 2 := by
  rw [Fr_mkRow]
  unfold FrR
  rw [FrL_rev_iff']
  constructor
  · rintro (h | h)
    · exact h1 b h
    · have := h1 _ h
      rw [FrL_rev_perm, run_rev] at this; exact this
  · rintro ⟨h, hr⟩; exact h2 b h hr
/-- the row of the touched parts -/
def rowOf (S : List Int) (f : T → Option (List T)) (ps : List T) : Option T :=
  match withSh S .some ps with
  | [] => some (mkAny (withSh S .all ps))
  | [m] => (f m).map fun l => mkRow (l ++ opt (withSh S .all ps))
  | [m, m'] => (cat (f m) (cat (some (opt (withSh S .all ps))) ((f m').map List.reverse))).map mkRow
  | _ => none
theorem joinedAny_eq {S : List Int} {f : T → Option (List T)} {ps : List T} : joinedAny S f ps = (rowOf S f ps).map fun X => mkAny (withSh S .none ps ++ [X]) := by
  unfold joinedAny rowOf
  rcases withSh S .some ps with _ | ⟨a, _ | ⟨b, _ | ⟨c, r⟩⟩⟩
  · rfl
  · simp only [Option.map_map]; rfl
  · simp only [Option.map_map]; rfl
  · rfl
theorem rowOf_is {S : List Int} {f : T → Option (List T)} {ps : List T} (hw : WfL ps) (hf : ∀ p ∈ ps, SpOk S f p) (h2 : 2 ≤ (withSh S .some ps ++ withSh S .all ps).length) :
    JIs (rowOf S f ps) fun b => FrA (withSh S .some ps ++ withSh S .all ps) b ∧ run S 0 b ≤ 2 := by
  have hallF : ∀ qs : List T, qs.Perm (withSh S .all ps) → ∀ o, FrL qs o → AllS S o := fun qs hq o ho => FrL_all (Wf_perm hq (Wf_with hw)) (share_of_perm hq) ho
  have tchF : ∀ q ∈ withSh S .all ps, share S q ≠ .none := fun q hq => by rw [(mem_withSh.mp hq).2]; simp
  unfold rowOf
  split
  · rename_i hm
    rw [hm, List.nil_append]
    show JIs (some _) _
    intro o
    rw [Fr_mkAny]
    refine ⟨fun h => ⟨h, ?_⟩, fun h => h.1⟩
    obtain ⟨qs, hq, h⟩ := h
    by_cases h0 : o = []
    · subst h0; rw [run_nil]; omega
    · rw [run0_all (hallF qs hq o h) h0]; omega
  · rename_i m hm
    have hmm : m ∈ withSh S .some ps := by rw [hm]; simp
    have hmp := (mem_withSh.mp hmm).1
    have hms := (mem_withSh.mp hmm).2
    have hF : withSh S .all ps ≠ [] := by
      intro e
      rw [hm, e] at h2; simp at h2
    rw [hm]
    have hfm := (hf m hmp hms).cat (Is.pure (opt (withSh S .all ps)))
    have dir : ∀ y b, y.Perm (withSh S .all ps) → FrL (m :: y) b → run S 0 b ≤ 2 → Then (fun o => Fr m o ∧ run S 0 o = 1) (FrL (opt (withSh S .all ps))) b := by
      intro y b hy h hr
      have hy0 : y ≠ [] := by rintro rfl; exact hF hy.symm.eq_nil
      obtain ⟨c, d, rfl, hc, hd, _⟩ := head_of (by rw [hms]; simp) (fun p hp => tchF p (hy.mem_iff.mp hp)) hy0 h hr
      exact ⟨c, d, rfl, hc, FrL_opt.mpr ⟨y, hy, hd⟩⟩
    have main : ∀ b, FrA ([m] ++ withSh S .all ps) b → run S 0 b ≤ 2 → Then (fun o => Fr m o ∧ run S 0 o = 1) (FrL (opt (withSh S .all ps))) b ∨ Then (fun o => Fr m o ∧ run S 0 o = 1) (FrL (opt (withSh S .all ps))) b.reverse := by
      rintro b ⟨cs, hcs, h⟩ hr
      obtain ⟨x, y, rfl, hxy⟩ := (perm_ins (a := [])).mp hcs
      rw [List.nil_append] at hxy
      have tx : ∀ p ∈ x, share S p ≠ .none := fun p hp => tchF p (hxy.mem_iff.mp (by simp [hp]))
      have ty : ∀ p ∈ y, share S p ≠ .none := fun p hp => tchF p (hxy.mem_iff.mp (by simp [hp]))
      rcases end_of_some (hw m hmp) (by rw [hms]; simp) tx ty h hr with rfl | rfl
      · exact .inl (dir y b hxy h hr)
      · right
        have h' := FrL_rev h
        rw [List.reverse_append, List.reverse_singleton] at h'
        rw [List.append_nil] at hxy
        exact dir x.reverse b.reverse ((List.reverse_perm _).trans hxy) h' (run_rev.mpr hr)
    cases e : f m with
    | none =>
      rw [e] at hfm
      have hfm' : ∀ o, ¬ Then (fun o => Fr m o ∧ run S 0 o = 1) (FrL (opt (withSh S .all ps))) o := hfm
      rintro b ⟨h, hr⟩
      rcases main b h hr with h | h
      · exact hfm' _ h
      · exact hfm' _ h
    | some l =>
      rw [e] at hfm
      have hfm' : ∀ o, FrL (l ++ opt (withSh S .all ps)) o ↔ Then (fun o => Fr m o ∧ run S 0 o = 1) (FrL (opt (withSh S .all ps))) o := hfm
      refine both_ways (S := S) (C := [m] ++ withSh S .all ps) (L := l ++ opt (withSh S .all ps)) (fun b hb => ?_) (fun b hb hr => ?_)
      · obtain ⟨c, d, rfl, ⟨hc, h1⟩, hd⟩ := (hfm' b).mp hb
        obtain ⟨fs, hfs, hd⟩ := FrL_opt.mp hd
        refine ⟨⟨m :: fs, hfs.cons m, FrL_cons.mpr ⟨c, d, rfl, hc, hd⟩⟩, ?_⟩
        rw [run_append, h1, run1_all (hallF fs hfs d hd)]; omega
      · rw [hfm', hfm']
        exact main b hb hr
  · rename_i m m' hm
    have hmm : m ∈ withSh S .some ps := by rw [hm]; simp
    have hmm' : m' ∈ withSh S .some ps := by rw [hm]; simp
    have hmp := (mem_withSh.mp hmm).1
    have hms := (mem_withSh.mp hmm).2
    have hmp' := (mem_withSh.mp hmm').1
    have hms' := (mem_withSh.mp hmm').2
    rw [hm]
    have hrev : Is ((f m').map List.reverse) fun o => Fr m' o ∧ run S 1 o ≤ 2 := by
      have := exp1rev_is (f := f) (hw m' hmp') (hf m' hmp') (by rw [hms']; simp)
      unfold exp1 at this
      rw [if_pos hms'] at this
      exact this
    have hfm := (hf m hmp hms).cat ((Is.pure (opt (withSh S .all ps))).cat hrev)
    have tchC : ∀ q ∈ m' :: withSh S .all ps, share S q ≠ .none := fun q hq => by
      rcases List.mem_cons.mp hq with rfl | hq
      · rw [hms']; simp
      · exact tchF q hq
    have dir : ∀ y b, y.Perm (m' :: withSh S .all ps) → FrL (m :: y) b → run S 0 b ≤ 2 → Then (fun o => Fr m o ∧ run S 0 o = 1) (Then (FrL (opt (withSh S .all ps))) (fun o => Fr m' o ∧ run S 1 o ≤ 2)) b := by
      intro y b hy h hr
      have hy0 : y ≠ [] := by rintro rfl; simpa using hy.symm.eq_nil
      obtain ⟨c, d, rfl, hc, hd, hr1⟩ := head_of (by rw [hms]; simp) (fun p hp => tchC p (hy.mem_iff.mp hp)) hy0 h hr
      obtain ⟨u, v, rfl, huv⟩ := (perm_ins (a := [])).mp hy
      rw [List.nil_append] at huv
      obtain ⟨bu, e, rfl, hbu, he⟩ := FrL_append.mp hd
      obtain ⟨bm, bv, rfl, hbm, hbv⟩ := FrL_cons.mp he
      have wu : WfL u := fun p hp => Wf_with hw p (huv.mem_iff.mp (by simp [hp]))
      have au : ∀ p ∈ u, share S p = .all := fun p hp => (mem_withSh.mp (huv.mem_iff.mp (by simp [hp]))).2
      rw [run_append, run1_all (FrL_all wu au hbu), run_append] at hr1
      have q1 := run1_lacks (Fr_lacks (hw m' hmp') (by rw [hms']; simp) hbm)
      have q2 := run_mono S bm 1 (by omega)
      have hv : v = [] := by
        cases v with
        | nil => rfl
        | cons q v =>
          have hh := FrL_has (S := S) (p := q) (by simp) (tchF q (huv.mem_iff.mp (by simp))) hbv
          have q3 : run S 1 bm = 2 ∨ run S 1 bm = 3 := by omega
          rcases q3 with q3 | q3
          · rw [q3, run2_has hh] at hr1; omega
          · rw [q3, run3] at hr1; omega
      subst hv
      rw [FrL_nil] at hbv
      subst hbv
      rw [List.append_nil] at huv
      rw [List.append_nil]
      exact ⟨c, bu ++ bm, rfl, hc, bu, bm, rfl, FrL_opt.mpr ⟨u, huv, hbu⟩, hbm, hr1⟩
    have main : ∀ b, FrA ([m, m'] ++ withSh S .all ps) b → run S 0 b ≤ 2 → Then (fun o => Fr m o ∧ run S 0 o = 1) (Then (FrL (opt (withSh S .all ps))) (fun o => Fr m' o ∧ run S 1 o ≤ 2)) b ∨ Then (fun o => Fr m o ∧ run S 0 o = 1) (Then (FrL (opt (withSh S .all ps))) (fun o => Fr m' o ∧ run S 1 o ≤ 2)) b.reverse := by
      rintro b ⟨cs, hcs, h⟩ hr
      obtain ⟨x, y, rfl, hxy⟩ := (perm_ins (a := [])).mp hcs
      rw [List.nil_append] at hxy
      have tx : ∀ p ∈ x, share S p ≠ .none := fun p hp => tchC p (hxy.mem_iff.mp (by simp [hp]))
      have ty : ∀ p ∈ y, share S p ≠ .none := fun p hp => tchC p (hxy.mem_iff.mp (by simp [hp]))
      rcases end_of_some (hw m hmp) (by rw [hms]; simp) tx ty h hr with rfl | rfl
      · exact .inl (dir y b hxy h hr)
      · right
        have h' := FrL_rev h
        rw [List.reverse_append, List.reverse_singleton] at h'
        rw [List.append_nil] at hxy
        exact dir x.reverse b.reverse ((List.reverse_perm _).trans hxy) h' (run_rev.mpr hr)
    generalize hg : cat (f m) (cat (some (opt (withSh S .all ps))) ((f m').map List.reverse)) = g at hfm
    cases g with
    | none =>
      have hfm' : ∀ o, ¬ Then (fun o => Fr m o ∧ run S 0 o = 1) (Then (FrL (opt (withSh S .all ps))) (fun o => Fr m' o ∧ run S 1 o ≤ 2)) o := hfm
      rintro b ⟨h, hr⟩
      rcases main b h hr with h | h
      · exact hfm' _ h
      · exact hfm' _ h
    | some l =>
      have hfm' : ∀ o, FrL l o ↔ Then (fun o => Fr m o ∧ run S 0 o = 1) (Then (FrL (opt (withSh S .all ps))) (fun o => Fr m' o ∧ run S 1 o ≤ 2)) o := hfm
      refine both_ways (S := S) (C := [m, m'] ++ withSh S .all ps) (L := l) (fun b hb => ?_) (fun b hb hr => ?_)
      · obtain ⟨c, d, rfl, ⟨hc, h1⟩, e, g, rfl, he, hg, hr1⟩ := (hfm' b).mp hb
        obtain ⟨fs, hfs, he⟩ := FrL_opt.mp he
        refine ⟨⟨m :: (fs ++ [m']), ?_, FrL_cons.mpr ⟨c, e ++ g, rfl, hc, FrL_append.mpr ⟨e, g, rfl, he, FrL_single.mpr hg⟩⟩⟩, ?_⟩
        · refine List.Perm.cons m ?_
          exact (List.perm_append_comm.trans (hfs.cons m'))
        · rw [run_append, h1, run_append, run1_all (hallF fs hfs e he)]; exact hr1
      · rw [hfm', hfm']
        exact main b hb hr
  · rename_i h0 h1 h2'
    rintro b ⟨⟨cs, hcs, h⟩, hr⟩
    have tC : ∀ p ∈ cs, share S p ≠ .none := fun p hp => by
      rcases List.mem_append.mp (hcs.mem_iff.mp hp) with hp | hp
      · rw [(mem_withSh.mp hp).2]; simp
      · exact tchF p hp
    have wC : WfL cs := fun p hp => by
      rcases List.mem_append.mp (hcs.mem_iff.mp hp) with hp | hp
      · exact Wf_with hw p hp
      · exact Wf_with hw p hp
    have ht : ∃ p ∈ cs, share S p ≠ .none := by
      match cs, hcs with
      | [], hcs => rw [hcs.symm.eq_nil] at h2; simp at h2
      | p :: cs, _ => exact ⟨p, by simp, tC p (by simp)⟩
    have hl : lead S cs = [] := by
      cases hl : lead S cs with
      | nil => rfl
      | cons p r =>
        have hp : p ∈ lead S cs := by rw [hl]; simp
        refine absurd (lead_none p hp) (tC p ?_)
        rw [parts_eq S cs]; simp [hp]
    have htr : trail S cs = [] := by
      cases hl : trail S cs with
      | nil => rfl
      | cons p r =>
        have hp : p ∈ trail S cs := by rw [hl]; simp
        refine absurd (trail_none p hp) (tC p ?_)
        rw [parts_eq S cs]; simp [hp]
    have hpe := parts_eq S cs
    rw [hl, htr, List.nil_append, List.append_nil] at hpe
    rw [hpe] at h
    have := (core_tch wC ht h hr).2
    rw [← hpe] at this
    have e : (withSh S .some cs).length = (withSh S .some ps).length := by
      rw [(withSh_perm (S := S) (w := .some) hcs).length_eq, withSh_append]
      have i1 : withSh S .some (withSh S .some ps) = withSh S .some ps := by
        unfold withSh; simp
      have i2 : withSh S .some (withSh S .all ps) = [] := by
        exact (all_withSh fun q hq => (mem_withSh.mp hq).2).1
      rw [i1, i2, List.append_nil]
    rw [e] at this
    rcases hmm : withSh S .some ps with _ | ⟨a, _ | ⟨b, _ | ⟨c, r⟩⟩⟩
    · exact h0 hmm
    · exact h1 a hmm
    · exact h2' a b hmm
    · rw [hmm] at this; simp at this
theorem joinedAny_is {S : List Int} {f : T → Option (List T)} {ps : List T} (hw : WfL ps) (hf : ∀ p ∈ ps, SpOk S f p) (h2 : 2 ≤ (withSh S .some ps ++ withSh S .all ps).length) (ht : ∃ p ∈ ps, share S p ≠ .none) :
    JIs (joinedAny S f ps) fun o => FrA ps o ∧ run S 0 o ≤ 2 := by
  have hX := rowOf_is hw hf h2
  rw [joinedAny_eq]
  cases e : rowOf S f ps with
  | none =>
    rw [e] at hX
    have hX' : ∀ b, ¬ (FrA (withSh S .some ps ++ withSh S .all ps) b ∧ run S 0 b ≤ 2) := hX
    intro o ho
    obtain ⟨x, y, _, _, _, _, _, b, _, _, hb, _⟩ := (any_shape hw ht o).mp ho
    exact hX' b hb
  | some X =>
    rw [e] at hX
    have hX' : ∀ b, Fr X b ↔ (FrA (withSh S .some ps ++ withSh S .all ps) b ∧ run S 0 b ≤ 2) := hX
    intro o
    show Fr (mkAny _) o ↔ _
    rw [Fr_mkAny]
    show _ ↔ (FrA ps o ∧ run S 0 o ≤ 2)
    rw [any_shape hw ht o]
    constructor
    · rintro ⟨qs, hq, h⟩
      obtain ⟨x, y, rfl, hxy⟩ := perm_ins.mp hq
      rw [List.append_nil] at hxy
      obtain ⟨a, b, rfl, ha, hb⟩ := FrL_append.mp h
      obtain ⟨c, d, rfl, hc, hd⟩ := FrL_cons.mp hb
      exact ⟨x, y, hxy, a, c ++ d, rfl, ha, c, d, rfl, (hX' c).mp hc, hd⟩
    · rintro ⟨x, y, hxy, a, b, rfl, ha, c, d, rfl, hc, hd⟩
      refine ⟨x ++ X :: y, perm_ins.mpr ⟨x, y, rfl, by rw [List.append_nil]; exact hxy⟩, ?_⟩
      exact FrL_append.mpr ⟨a, c ++ d, rfl, ha, FrL_cons.mpr ⟨c, d, rfl, (hX' c).mpr hc, hd⟩⟩
/-! ### the joined tree -/
theorem joined_th (S : List Int) (i : Int) : joined S (.th i) = some (.th i) := by rw [joined]
theorem joined_all {S : List Int} {b : Bool} {ps : List T} (h : share S (.nd b ps) = .all) : joined S (.nd b ps) = some (.nd b ps) := by
  rw [joined, if_pos h]
theorem joined_one {S : List Int} {b : Bool} {ps : List T} {m : T} (h : share S (.nd b ps) ≠ .all) (hc : core S ps = [m]) :
    joined S (.nd b ps) = (joined S m).map fun t => .nd b (lead S ps ++ t :: trail S ps) := by
  have hm : m ∈ ps := core_sub (by rw [hc]; simp)
  rw [joined, if_neg h]
  split
  · rename_i m' hm'
    rw [hc] at hm'
    cases hm'
    rw [dif_pos hm]
  · rename_i hx
    exact absurd hc (hx m)
theorem joined_more {S : List Int} {b : Bool} {ps mid : List T} {f l : T} (h : share S (.nd b ps) ≠ .all) (hc : core S ps = f :: (mid ++ [l])) :
    joined S (.nd b ps) = if b = true then joinedRow S (split S) ps else joinedAny S (split S) ps := by
  rw [joined, if_neg h]
  split
  · rename_i m' hm'
    rw [hc] at hm'
    cases mid <;> simp at hm'
  · rfl
theorem one_is {S : List Int} {m m' : T} {e1 e2 : List T} (h1 : ∀ p ∈ e1, share S p = .none) (h2 : ∀ p ∈ e2, share S p = .none) (hm : ∀ o, Fr m' o ↔ Fr m o ∧ run S 0 o ≤ 2) (o : List Int) :
    FrL (e1 ++ m' :: e2) o ↔ FrL (e1 ++ m :: e2) o ∧ run S 0 o ≤ 2 := by
  have := pad (S := S) (X := [m]) h1 h2 o
  show FrL (e1 ++ ([m'] ++ e2)) o ↔ FrL (e1 ++ ([m] ++ e2)) o ∧ run S 0 o ≤ 2
  rw [this, FrL_append]
  constructor
  · rintro ⟨a, b, rfl, ha, hb⟩
    obtain ⟨c, d, rfl, hc, hd⟩ := FrL_append.mp hb
    have := (hm c).mp (FrL_single.mp hc)
    exact ⟨a, c ++ d, rfl, ha, c, d, rfl, ⟨FrL_single.mpr this.1, this.2⟩, hd⟩
  · rintro ⟨a, b, rfl, ha, c, d, rfl, ⟨hc, hr⟩, hd⟩
    exact ⟨a, c ++ d, rfl, ha, FrL_append.mpr ⟨c, d, rfl, FrL_single.mpr ((hm c).mpr ⟨FrL_single.mp hc, hr⟩), hd⟩⟩
theorem one_any {S : List Int} {m m' : T} {e1 e2 : List T} (h1 : ∀ p ∈ e1, share S p = .none) (h2 : ∀ p ∈ e2, share S p = .none) (hm : ∀ o, Fr m' o ↔ Fr m o ∧ run S 0 o ≤ 2) (b : Bool) (o : List Int) :
    Fr (.nd b (e1 ++ m' :: e2)) o ↔ Fr (.nd b (e1 ++ m :: e2)) o ∧ run S 0 o ≤ 2 := by
  cases b with
  | true =>
    rw [Fr_row, Fr_row, FrL_rev_iff', FrL_rev_iff', one_is h1 h2 hm, one_is h1 h2 hm, run_rev]
    constructor
    · rintro (⟨h, hr⟩ | ⟨h, hr⟩)
      · exact ⟨.inl h, hr⟩
      · exact ⟨.inr h, hr⟩
    · rintro ⟨h | h, hr⟩
      · exact .inl ⟨h, hr⟩
      · exact .inr ⟨h, hr⟩
  | false =>
    rw [Fr_any, Fr_any]
    have hx : ∀ x y : List T, (x ++ y).Perm (e1 ++ e2) → (∀ p ∈ x, share S p = .none) ∧ (∀ p ∈ y, share S p = .none) := fun x y hp => by
      have : ∀ p ∈ x ++ y, share S p = .none := fun p h => by
        rcases List.mem_append.mp (hp.mem_iff.mp h) with h | h
        · exact h1 p h
        · exact h2 p h
      exact ⟨fun p h => this p (by simp [h]), fun p h => this p (by simp [h])⟩
    constructor
    · rintro ⟨qs, hq, h⟩
      obtain ⟨x, y, rfl, hxy⟩ := perm_ins.mp hq
      have := (one_is (hx x y hxy).1 (hx x y hxy).2 hm o).mp h
      exact ⟨⟨x ++ m :: y, perm_ins.mpr ⟨x, y, rfl, hxy⟩, this.1⟩, this.2⟩
    · rintro ⟨⟨qs, hq, h⟩, hr⟩
      obtain ⟨x, y, rfl, hxy⟩ := perm_ins.mp hq
      exact ⟨x ++ m' :: y, perm_ins.mpr ⟨x, y, rfl, hxy⟩, (one_is (hx x y hxy).1 (hx x y hxy).2 hm o).mpr ⟨h, hr⟩⟩
theorem joined_is (S : List Int) : ∀ t : T, wf t → Has S (lst t) → JIs (joined S t) fun o => Fr t o ∧ run S 0 o ≤ 2 := by
  intro t
  induction t using T.ind with
  | h1 i =>
    intro _ h
    rw [joined_th]
    intro o
    refine ⟨fun ho => ⟨ho, ?_⟩, fun h => h.1⟩
    rw [Fr_th] at ho
    subst ho
    rw [run0_all ?_ (by simp)]
    · omega
    · obtain ⟨x, hx, hs⟩ := h
      rw [lst_th] at hx
      intro y hy
      rw [List.mem_singleton.mp hy, ← List.mem_singleton.mp hx]; exact hs
  | h2 b ps ih =>
    intro hw0 h
    have hw := hw0
    rw [wf_nd] at hw
    obtain ⟨h2, h3, hw⟩ := hw
    by_cases hall : share S (.nd b ps) = .all
    · rw [joined_all hall]
      intro o
      refine ⟨fun ho => ⟨ho, ?_⟩, fun h => h.1⟩
      rw [run0_all (Fr_all hw0 hall ho) (Fr_ne hw0 ho)]; omega
    · have ht : ∃ p ∈ ps, share S p ≠ .none := by
        obtain ⟨x, hx, hs⟩ := h
        rw [lst_nd] at hx
        obtain ⟨p, hp, hx⟩ := mem_lstL.mp hx
        exact ⟨p, hp, share_tch.mpr ⟨x, hx, hs⟩⟩
      rcases core_shape ht with ⟨m, hm, h1⟩ | ⟨f, mid, l, hm, h1, h2'⟩
      · have hmp : m ∈ ps := core_sub (by rw [hm]; simp)
        rw [joined_one hall hm]
        have hi := ih m hmp (hw m hmp) (share_tch.mp h1)
        have hpe := parts_eq S ps
        rw [hm] at hpe
        have hpe' : ps = lead S ps ++ m :: trail S ps := hpe
        cases e : joined S m with
        | none =>
          rw [e] at hi
          have hi' : ∀ o, ¬ (Fr m o ∧ run S 0 o ≤ 2) := hi
          rintro o ⟨ho, hr⟩
          -- the part's own stretch
          have key : ∀ qs : List T, qs.Perm ps → FrL qs o → False := by
            intro qs hq h
            rw [hpe'] at hq
            obtain ⟨x, y, rfl, hxy⟩ := perm_ins.mp hq
            have hn : ∀ p ∈ x ++ y, share S p = .none := fun p h => by
              rcases List.mem_append.mp (hxy.mem_iff.mp h) with h | h
              · exact lead_none p h
              · exact trail_none p h
            have := (pad (S := S) (X := [m]) (fun p h => hn p (by simp [h])) (fun p h => hn p (by simp [h])) o).mp ⟨h, hr⟩
            obtain ⟨_, _, _, _, c, _, _, ⟨hc, hr⟩, _⟩ := this
            exact hi' c ⟨FrL_single.mp hc, hr⟩
          cases b with
          | false =>
            obtain ⟨qs, hq, h⟩ := Fr_any.mp ho
            exact key qs hq h
          | true =>
            rcases Fr_row.mp ho with h | h
            · exact key ps (.refl _) h
            · exact key _ (List.reverse_perm _) h
        | some m' =>
          rw [e] at hi
          have hi' : ∀ o, Fr m' o ↔ (Fr m o ∧ run S 0 o ≤ 2) := hi
          intro o
          show Fr (.nd b (lead S ps ++ m' :: trail S ps)) o ↔ Fr (.nd b ps) o ∧ run S 0 o ≤ 2
          have := one_any (S := S) (e1 := lead S ps) (e2 := trail S ps) lead_none trail_none hi' b o
          rw [← hpe'] at this
          exact this
      · rw [joined_more hall hm]
        have hf : ∀ p ∈ ps, SpOk S (split S) p := fun p hp => split_is S p (hw p hp)
        cases b with
        | true =>
          rw [if_pos rfl]
          have := joinedRow_is hw hf hm h1 h2'
          cases e : joinedRow S (split S) ps with
          | none =>
            rw [e] at this
            intro o ho
            rw [Fr_row] at ho
            exact this o ho
          | some t =>
            rw [e] at this
            intro o
            show Fr t o ↔ (Fr (.nd true ps) o ∧ run S 0 o ≤ 2)
            rw [Fr_row]
            exact this o
        | false =>
          rw [if_neg (by simp)]
          have hlen : 2 ≤ (withSh S .some ps ++ withSh S .all ps).length := by
            have hp := part_perm S ps
            have l1 : f ∈ withSh S .some ps ++ withSh S .all ps := by
              have : f ∈ withSh S .none ps ++ (withSh S .some ps ++ withSh S .all ps) := hp.mem_iff.mpr (core_sub (by rw [hm]; simp))
              rcases List.mem_append.mp this with h | h
              · exact absurd (mem_withSh.mp h).2 h1
              · exact h
            -- by counting
            have e1 : (withSh S .none ps).length + (withSh S .some ps ++ withSh S .all ps).length = ps.length := by
              rw [← hp.length_eq, List.length_append (as := withSh S .none ps)]
            have e2 : ps.length = (lead S ps).length + ((f :: (mid ++ [l])).length + (trail S ps).length) := by
              conv => lhs; rw [parts_eq S ps, hm]
              rw [List.length_append, List.length_append]
            have e3 : (withSh S .none ps).length ≤ (lead S ps).length + (mid.length + (trail S ps).length) := by
              have e : withSh S .none ps = withSh S .none (lead S ps ++ ((f :: (mid ++ [l])) ++ trail S ps)) := by
                rw [← hm, ← parts_eq]
              rw [e, withSh_append, withSh_append, withSh_cons_ne h1, withSh_append, withSh_cons_ne h2']
              have k1 : (withSh S .none (lead S ps)).length ≤ (lead S ps).length := List.length_filter_le _ _
              have k2 : (withSh S .none mid).length ≤ mid.length := List.length_filter_le _ _
              have k3 : (withSh S .none (trail S ps)).length ≤ (trail S ps).length := List.length_filter_le _ _
              have k4 : withSh S .none [] = [] := rfl
              rw [k4]
              simp only [List.length_append, List.length_nil]
              omega
            simp only [List.length_cons, List.length_append, List.length_nil] at e2
            omega
          have := joinedAny_is hw hf hlen ht
          cases e : joinedAny S (split S) ps with
          | none =>
            rw [e] at this
            intro o ho
            rw [Fr_any] at ho
            exact this o ho
          | some t =>
            rw [e] at this
            intro o
            show Fr t o ↔ (Fr (.nd false ps) o ∧ run S 0 o ≤ 2)
            rw [Fr_any]
            exact this o
end PQ
namespace PQ
/-! ### the results are trees -/
theorem wf_mkAny' {ps : List T} (h : WfL ps) (h0 : lst (mkAny ps) ≠ []) : wf (mkAny ps) := by
  refine wf_mkAny ?_ h
  rintro rfl
  exact h0 (by rw [lst_mkAny]; rfl)
theorem wf_mkRow' {ps : List T} (h : WfL ps) (h0 : lst (mkRow ps) ≠ []) : wf (mkRow ps) := by
  refine wf_mkRow ?_ h
  rintro rfl
  exact h0 (by rw [lst_mkRow]; rfl)
theorem WfL.app {a b : List T} (h1 : WfL a) (h2 : WfL b) : WfL (a ++ b) := fun p hp => by
  rcases List.mem_append.mp hp with hp | hp
  · exact h1 p hp
  · exact h2 p hp
theorem WfL.rev {a : List T} (h : WfL a) : WfL a.reverse := fun p hp => h p (List.mem_reverse.mp hp)
theorem WfL.opt {ps : List T} (h : WfL ps) : WfL (opt ps) := by
  cases ps with
  | nil => intro p hp; cases hp
  | cons q r =>
    intro p hp
    rw [List.mem_singleton.mp hp]
    exact wf_mkAny (by simp) h
def WfR (r : Option (List T)) : Prop := ∀ L, r = some L → WfL L
theorem WfR.cat {r s : Option (List T)} (h1 : WfR r) (h2 : WfR s) : WfR (cat r s) := by
  intro L e
  cases r with
  | none => cases s <;> cases e
  | some a =>
    cases s with
    | none => cases e
    | some b => cases e; exact (h1 a rfl).app (h2 b rfl)
theorem WfR.some {L : List T} (h : WfL L) : WfR (some L) := fun M e => by cases e; exact h
theorem WfR.rev {r : Option (List T)} (h : WfR r) : WfR (r.map List.reverse) := by
  intro L e
  cases r with
  | none => cases e
  | some a => cases e; exact (h a rfl).rev
theorem exp1_wf {S : List Int} {f : T → Option (List T)} {p : T} (hw : wf p) (hf : WfR (f p)) : WfR (exp1 S f p) := by
  unfold exp1
  split
  · exact hf
  · exact .some fun q hq => by rw [List.mem_singleton.mp hq]; exact hw
theorem expand_wf {S : List Int} {f : T → Option (List T)} : ∀ {ps : List T}, WfL ps → (∀ p ∈ ps, WfR (f p)) → WfR (expand S f ps)
  | [], _, _ => .some fun p hp => by cases hp
  | p :: r, hw, hf => (exp1_wf (hw p (by simp)) (hf p (by simp))).cat (expand_wf (fun q hq => hw q (by simp [hq])) fun q hq => hf q (by simp [hq]))
theorem splitRow_wf {S : List Int} {f : T → Option (List T)} {ps : List T} (hw : WfL ps) (hf : ∀ p ∈ ps, WfR (f p)) : WfR (splitRow S f ps) := by
  unfold splitRow
  split
  · exact expand_wf hw hf
  · split
    · exact expand_wf hw.rev fun p hp => hf p (List.mem_reverse.mp hp)
    · intro L e; cases e
theorem splitAny_wf {S : List Int} {f : T → Option (List T)} {ps : List T} (hw : WfL ps) (hf : ∀ p ∈ ps, WfR (f p)) : WfR (splitAny S f ps) := by
  unfold splitAny
  split
  · exact .some ((Wf_with hw).opt.app (Wf_with hw).opt)
  · rename_i m hm
    have hmm : m ∈ withSh S .some ps := by rw [hm]; simp
    have := hf m (mem_withSh.mp hmm).1
    intro L e
    cases h : f m with
    | none => rw [h] at e; cases e
    | some a => rw [h] at e; cases e; exact (Wf_with hw).opt.app ((this a h).app (Wf_with hw).opt)
  · intro L e; cases e
theorem split_wf (S : List Int) : ∀ t : T, wf t → WfR (split S t) := by
  intro t
  induction t using T.ind with
  | h1 i => intro _ L e; rw [split] at e; cases e
  | h2 b ps ih =>
    intro hw0
    obtain ⟨_, _, hw⟩ := wf_nd.mp hw0
    cases b with
    | false => rw [split_any]; exact splitAny_wf hw fun p hp => ih p hp (hw p hp)
    | true => rw [split_row]; exact splitRow_wf hw fun p hp => ih p hp (hw p hp)
theorem rowSeg_wf {S : List Int} {f : T → Option (List T)} : ∀ {ps : List T}, WfL ps → (∀ p ∈ ps, WfR (f p)) → WfR (rowSeg S f ps)
  | [], _, _ => .some fun p hp => by cases hp
  | [p], hw, hf => (exp1_wf (hw p (by simp)) (hf p (by simp))).rev
  | p :: q :: r, hw, hf => (exp1_wf (hw p (by simp)) (hf p (by simp))).cat (rowSeg_wf (fun x hx => hw x (List.mem_cons_of_mem _ hx)) fun x hx => hf x (List.mem_cons_of_mem _ hx))
theorem joined_perm {S : List Int} {t t' : T} (hw : wf t) (h : Has S (lst t)) (e : joined S t = some t') : (lst t').Perm (lst t) := by
  have := joined_is S t hw h
  rw [e] at this
  exact Fr_perm t _ ((this (lst t')).mp (Fr_some t')).1
theorem lead_sub {S : List Int} {ps : List T} {p : T} (h : p ∈ lead S ps) : p ∈ ps := by
  rw [parts_eq S ps]; simp [h]
theorem trail_sub {S : List Int} {ps : List T} {p : T} (h : p ∈ trail S ps) : p ∈ ps := by
  rw [parts_eq S ps]; simp [h]
theorem split_perm {S : List Int} {t : T} {L : List T} (hw : wf t) (hs : share S t = .some) (e : split S t = some L) : (lstL L).Perm (lst t) := by
  have := split_is S t hw hs
  rw [e] at this
  exact Fr_perm t _ ((this (lstL L)).mp (FrL_some L)).1
theorem joined_wf (S : List Int) : ∀ t : T, wf t → Has S (lst t) → ∀ t', joined S t = some t' → wf t' := by
  intro t
  induction t using T.ind with
  | h1 i =>
    intro _ _ t' e
    rw [joined_th] at e
    cases e
    exact wf_th i
  | h2 b ps ih =>
    intro hw0 h t' e
    have hp := joined_perm hw0 h e
    have hne : lst t' ≠ [] := fun e2 => by
      rw [e2] at hp
      exact lst_ne _ hw0 hp.symm.eq_nil
    have hw := hw0
    rw [wf_nd] at hw
    obtain ⟨h2, h3, hw⟩ := hw
    by_cases hall : share S (.nd b ps) = .all
    · rw [joined_all hall] at e; cases e; exact hw0
    · have ht : ∃ p ∈ ps, share S p ≠ .none := by
        obtain ⟨x, hx, hs⟩ := h
        rw [lst_nd] at hx
        obtain ⟨p, hp, hx⟩ := mem_lstL.mp hx
        exact ⟨p, hp, share_tch.mpr ⟨x, hx, hs⟩⟩
      have hlead : WfL (lead S ps) := fun p hp => hw p (lead_sub hp)
      have htrail : WfL (trail S ps) := fun p hp => hw p (trail_sub hp)
      rcases core_shape ht with ⟨m, hm, h1⟩ | ⟨f, mid, l, hm, h1, h2'⟩
      · have hmp : m ∈ ps := core_sub (by rw [hm]; simp)
        rw [joined_one hall hm] at e
        cases em : joined S m with
        | none => rw [em] at e; cases e
        | some m' =>
          rw [em] at e
          cases e
          have hi := ih m hmp (hw m hmp) (share_tch.mp h1) m' em
          rw [wf_nd]
          have hpe := congrArg List.length (parts_eq S ps)
          rw [hm] at hpe
          simp only [List.length_append, List.length_cons, List.length_nil] at hpe
          refine ⟨?_, ?_, ?_⟩
          · simp only [List.length_append, List.length_cons]; omega
          · intro hb
            have := h3 hb
            simp only [List.length_append, List.length_cons]; omega
          · intro p hp
            rcases List.mem_append.mp hp with hp | hp
            · exact hlead p hp
            · rcases List.mem_cons.mp hp with rfl | hp
              · exact hi
              · exact htrail p hp
      · rw [joined_more hall hm] at e
        have hf : ∀ p ∈ ps, WfR (split S p) := fun p hp => split_wf S p (hw p hp)
        cases b with
        | true =>
          rw [if_pos rfl] at e
          unfold joinedRow at e
          split at e
          · cases er : rowSeg S (split S) (core S ps) with
            | none => rw [er] at e; cases e
            | some L =>
              rw [er] at e
              cases e
              have hL := rowSeg_wf (S := S) (f := split S) (ps := core S ps) (fun p hp => hw p (core_sub hp)) (fun p hp => hf p (core_sub hp)) L er
              exact wf_mkRow' (hlead.app (hL.app htrail)) hne
          · cases e
        | false =>
          rw [if_neg (by simp), joinedAny_eq] at e
          cases er : rowOf S (split S) ps with
          | none => rw [er] at e; cases e
          | some X =>
            rw [er] at e
            cases e
            have hX : wf X := by
              -- the row itself is a tree
              have hCne : withSh S .some ps ++ withSh S .all ps ≠ [] := by
                intro e0
                obtain ⟨p, hp, hh⟩ := ht
                have : p ∈ withSh S .none ps ++ (withSh S .some ps ++ withSh S .all ps) := (part_perm S ps).mem_iff.mpr hp
                rw [e0, List.append_nil] at this
                exact hh (mem_withSh.mp this).2
              unfold rowOf at er
              split at er
              · rename_i hm0
                cases er
                rw [hm0, List.nil_append] at hCne
                exact wf_mkAny hCne (Wf_with hw)
              · rename_i m hm0
                have hmm : m ∈ withSh S .some ps := by rw [hm0]; simp
                cases es : split S m with
                | none => rw [es] at er; cases er
                | some L =>
                  rw [es] at er
                  cases er
                  have hpL := split_perm (hw m (mem_withSh.mp hmm).1) (mem_withSh.mp hmm).2 es
                  refine wf_mkRow ?_ (((hf m (mem_withSh.mp hmm).1) L es).app (Wf_with hw).opt)
                  intro e0
                  have : L = [] := (List.append_eq_nil_iff.mp e0).1
                  subst this
                  exact lst_ne m (hw m (mem_withSh.mp hmm).1) hpL.symm.eq_nil
              · rename_i m m' hm0
                have hmm : m ∈ withSh S .some ps := by rw [hm0]; simp
                have hmm' : m' ∈ withSh S .some ps := by rw [hm0]; simp
                have hwr : WfR (cat (split S m) (cat (some (opt (withSh S .all ps))) ((split S m').map List.reverse))) :=
                  (hf m (mem_withSh.mp hmm).1).cat ((WfR.some (Wf_with hw).opt).cat (hf m' (mem_withSh.mp hmm').1).rev)
                cases es : split S m with
                | none => rw [es] at er; cases h9 : split S m' <;> rw [h9] at er <;> cases er
                | some L =>
                  cases es' : split S m' with
                  | none => rw [es, es'] at er; cases er
                  | some L' =>
                    rw [es, es'] at er hwr
                    cases er
                    have hpL := split_perm (hw m (mem_withSh.mp hmm).1) (mem_withSh.mp hmm).2 es
                    refine wf_mkRow ?_ (hwr _ rfl)
                    intro e0
                    have : L = [] := (List.append_eq_nil_iff.mp e0).1
                    subst this
                    exact lst_ne m (hw m (mem_withSh.mp hmm).1) hpL.symm.eq_nil
              · cases er
            refine wf_mkAny (by simp) ?_
            exact (Wf_with hw).app fun p hp => by rw [List.mem_singleton.mp hp]; exact hX
/-! ### the normal form -/
def lmin : List Int → Int
  | [] => 0
  | [x] => x
  | x :: y :: r => if x ≤ lmin (y :: r) then x else lmin (y :: r)
theorem lmin_spec : ∀ {l : List Int}, l ≠ [] → lmin l ∈ l ∧ ∀ x ∈ l, lmin l ≤ x
  | [x], _ => ⟨by simp [lmin], fun y hy => by rw [List.mem_singleton.mp hy]; exact Int.le_refl _⟩
  | x :: y :: r, _ => by
    have ih := lmin_spec (l := y :: r) (by simp)
    unfold lmin
    split
    · rename_i h
      refine ⟨by simp, fun z hz => ?_⟩
      rcases List.mem_cons.mp hz with rfl | hz
      · exact Int.le_refl _
      · exact Int.le_trans h (ih.2 z hz)
    · rename_i h
      refine ⟨List.mem_cons_of_mem _ ih.1, fun z hz => ?_⟩
      rcases List.mem_cons.mp hz with rfl | hz
      · omega
      · exact ih.2 z hz
theorem lmin_uniq {l : List Int} {m : Int} (h : m ∈ l) (h2 : ∀ x ∈ l, m ≤ x) : m = lmin l := by
  have := lmin_spec (l := l) (by rintro rfl; cases h)
  have h3 := h2 _ this.1
  have h4 := this.2 _ h
  omega
def least (t : T) : Int := lmin (lst t)
theorem least_mem {t : T} (h : wf t) : least t ∈ lst t := (lmin_spec (lst_ne t h)).1
theorem least_perm {s t : T} (hs : wf s) (h : (lst s).Perm (lst t)) : least s = least t := by
  have := lmin_spec (lst_ne s hs)
  exact lmin_uniq (h.mem_iff.mp this.1) fun x hx => this.2 x (h.mem_iff.mpr hx)
def ins (p : T) : List T → List T
  | [] => [p]
  | q :: r => if least p ≤ least q then p :: q :: r else q :: ins p r
def srt : List T → List T
  | [] => []
  | p :: r => ins p (srt r)
def orient (ps : List T) : List T :=
  match ps.head?, ps.getLast? with
  | some a, some b => if least b < least a then ps.reverse else ps
  | _, _ => ps
mutual
def norm : T → T
  | .th i => .th i
  | .nd false ps => .nd false (srt (normL ps))
  | .nd true ps => .nd true (orient (normL ps))
def normL : List T → List T
  | [] => []
  | p :: r => norm p :: normL r
end
theorem normL_eq : ∀ ps : List T, normL ps = ps.map norm
  | [] => by simp [normL]
  | p :: r => by simp [normL, normL_eq r]
theorem norm_th (i : Int) : norm (.th i) = .th i := by simp [norm]
theorem norm_any (ps : List T) : norm (.nd false ps) = .nd false (srt (ps.map norm)) := by simp [norm, normL_eq]
theorem norm_row (ps : List T) : norm (.nd true ps) = .nd true (orient (ps.map norm)) := by simp [norm, normL_eq]
theorem ins_perm (p : T) : ∀ r : List T, (ins p r).Perm (p :: r)
  | [] => .refl _
  | q :: r => by
    unfold ins
    split
    · exact .refl _
    · exact ((ins_perm p r).cons q).trans (.swap _ _ _)
theorem srt_perm : ∀ ps : List T, (srt ps).Perm ps
  | [] => .refl _
  | p :: r => (ins_perm p (srt r)).trans ((srt_perm r).cons p)
theorem ins_sorted (p : T) : ∀ {r : List T}, r.Pairwise (fun a b => least a ≤ least b) → (ins p r).Pairwise (fun a b => least a ≤ least b)
  | [], _ => by simp [ins]
  | q :: r, h => by
    unfold ins
    obtain ⟨h1, h2⟩ := List.pairwise_cons.mp h
    split
    · rename_i hle
      refine List.pairwise_cons.mpr ⟨fun a ha => ?_, h⟩
      rcases List.mem_cons.mp ha with rfl | ha
      · exact hle
      · exact Int.le_trans hle (h1 a ha)
    · rename_i hle
      refine List.pairwise_cons.mpr ⟨fun a ha => ?_, ins_sorted p h2⟩
      rcases List.mem_cons.mp ((ins_perm p r).mem_iff.mp ha) with rfl | ha
      · omega
      · exact h1 a ha
theorem srt_sorted : ∀ ps : List T, (srt ps).Pairwise (fun a b => least a ≤ least b)
  | [] => .nil
  | p :: r => ins_sorted p (srt_sorted r)
theorem orient_or (ps : List T) : orient ps = ps ∨ orient ps = ps.reverse := by
  unfold orient
  split
  · split
    · exact .inr rfl
    · exact .inl rfl
  · exact .inl rfl
theorem orient_perm (ps : List T) : (orient ps).Perm ps := by
  rcases orient_or ps with h | h
  · rw [h]
  · rw [h]; exact List.reverse_perm _
theorem perm_map {α β : Type} {f : α → β} : ∀ {l : List α} {qs : List β}, qs.Perm (l.map f) → ∃ l' : List α, l'.Perm l ∧ qs = l'.map f
  | [], qs, h => ⟨[], .refl _, h.eq_nil⟩
  | a :: l, qs, h => by
    obtain ⟨x, y, rfl, hxy⟩ := (perm_ins (a := [])).mp h
    obtain ⟨l', hl, e⟩ := perm_map (l := l) hxy
    obtain ⟨l1, l2, rfl, e1, e2⟩ := List.append_eq_map_iff.mp e
    refine ⟨l1 ++ a :: l2, List.perm_middle.trans (hl.cons a), ?_⟩
    rw [List.map_append, List.map_cons, e1, e2]
theorem FrL_map {f : T → T} : ∀ {ps : List T}, (∀ p ∈ ps, ∀ o, Fr (f p) o ↔ Fr p o) → ∀ o, FrL (ps.map f) o ↔ FrL ps o
  | [], _, o => Iff.rfl
  | p :: r, h, o => by
    rw [List.map_cons, FrL_cons, FrL_cons]
    constructor
    · rintro ⟨a, b, e, h1, h2⟩
      exact ⟨a, b, e, (h p (by simp) a).mp h1, (FrL_map (fun q hq => h q (by simp [hq])) b).mp h2⟩
    · rintro ⟨a, b, e, h1, h2⟩
      exact ⟨a, b, e, (h p (by simp) a).mpr h1, (FrL_map (fun q hq => h q (by simp [hq])) b).mpr h2⟩
theorem Fr_norm : ∀ (t : T) (o : List Int), Fr (norm t) o ↔ Fr t o := by
  intro t
  induction t using T.ind with
  | h1 i => intro o; rw [norm_th]
  | h2 b ps ih =>
    intro o
    cases b with
    | false =>
      rw [norm_any, Fr_any, Fr_any]
      constructor
      · rintro ⟨qs, hq, h⟩
        obtain ⟨qs', hq', rfl⟩ := perm_map (hq.trans (srt_perm _))
        exact ⟨qs', hq', (FrL_map (fun p hp => ih p (hq'.mem_iff.mp hp)) o).mp h⟩
      · rintro ⟨qs, hq, h⟩
        exact ⟨qs.map norm, (hq.map norm).trans (srt_perm _).symm, (FrL_map (fun p hp => ih p (hq.mem_iff.mp hp)) o).mpr h⟩
    | true =>
      rw [norm_row, Fr_row, Fr_row]
      have e1 := FrL_map ih o
      have e2 : FrL (ps.map norm).reverse o ↔ FrL ps.reverse o := by
        rw [← List.map_reverse]
        exact FrL_map (fun p hp => ih p (List.mem_reverse.mp hp)) o
      rcases orient_or (ps.map norm) with h | h
      · rw [h, e1, e2]
      · rw [h, List.reverse_reverse, e1, e2]
        exact Or.comm
theorem lst_norm (t : T) : (lst (norm t)).Perm (lst t) := Fr_perm t _ ((Fr_norm t _).mp (Fr_some _))
theorem wf_norm : ∀ t : T, wf t → wf (norm t) := by
  intro t
  induction t using T.ind with
  | h1 i => intro _; rw [norm_th]; exact wf_th i
  | h2 b ps ih =>
    intro h
    rw [wf_nd] at h
    obtain ⟨h2, h3, hw⟩ := h
    have hk : ∀ p ∈ ps.map norm, wf p := fun p hp => by
      obtain ⟨q, hq, rfl⟩ := List.mem_map.mp hp
      exact ih q hq (hw q hq)
    cases b with
    | false =>
      rw [norm_any, wf_nd, (srt_perm _).length_eq, List.length_map]
      exact ⟨h2, fun e => (nomatch e), fun p hp => hk p ((srt_perm _).mem_iff.mp hp)⟩
    | true =>
      rw [norm_row, wf_nd, (orient_perm _).length_eq, List.length_map]
      exact ⟨h2, h3, fun p hp => hk p ((orient_perm _).mem_iff.mp hp)⟩
def ends (ps : List T) : Prop := ∃ a r b, ps = a :: (r ++ [b]) ∧ least a < least b
mutual
def Nf : T → Prop
  | .th _ => True
  | .nd false ps => ps.Pairwise (fun a b => least a < least b) ∧ NfL ps
  | .nd true ps => ends ps ∧ NfL ps
def NfL : List T → Prop
  | [] => True
  | p :: r => Nf p ∧ NfL r
end
theorem NfL_iff : ∀ ps : List T, NfL ps ↔ ∀ p ∈ ps, Nf p
  | [] => by simp [NfL]
  | p :: r => by simp [NfL, NfL_iff r]
theorem Nf_any {ps : List T} : Nf (.nd false ps) ↔ ps.Pairwise (fun a b => least a < least b) ∧ ∀ p ∈ ps, Nf p := by simp [Nf, NfL_iff]
theorem Nf_row {ps : List T} : Nf (.nd true ps) ↔ ends ps ∧ ∀ p ∈ ps, Nf p := by simp [Nf, NfL_iff]
theorem kid_nodup {ps : List T} (h : (lstL ps).Nodup) {p : T} (hp : p ∈ ps) : (lst p).Nodup := by
  obtain ⟨a, b, rfl⟩ := List.append_of_mem hp
  rw [lstL_append, lstL_cons] at h
  exact (List.nodup_append.mp (List.nodup_append.mp h).2.1).1
/-- the parts have no thing in common -/
theorem kids_apart {ps : List T} (h : (lstL ps).Nodup) : ps.Pairwise fun p q => ∀ x ∈ lst p, x ∉ lst q := by
  induction ps with
  | nil => exact .nil
  | cons p r ih =>
    rw [lstL_cons] at h
    obtain ⟨_, h2, h3⟩ := List.nodup_append.mp h
    refine List.pairwise_cons.mpr ⟨fun q hq x hx hx2 => ?_, ih h2⟩
    exact h3 x hx x (mem_lstL.mpr ⟨q, hq, hx2⟩) rfl
theorem kid_eq {ps : List T} (h : (lstL ps).Nodup) {p q : T} (hp : p ∈ ps) (hq : q ∈ ps) {x : Int} (h1 : x ∈ lst p) (h2 : x ∈ lst q) : p = q := by
  induction ps with
  | nil => cases hp
  | cons a r ih =>
    rw [lstL_cons] at h
    obtain ⟨_, h3, h4⟩ := List.nodup_append.mp h
    rcases List.mem_cons.mp hp with e1 | hp' <;> rcases List.mem_cons.mp hq with e2 | hq'
    · rw [e1, e2]
    · rw [e1] at h1
      exact (h4 x h1 x (mem_lstL.mpr ⟨q, hq', h2⟩) rfl).elim
    · rw [e2] at h2
      exact (h4 x h2 x (mem_lstL.mpr ⟨p, hp', h1⟩) rfl).elim
    · exact ih h3 hp' hq'
theorem kids_nodup {ps : List T} (h : (lstL ps).Nodup) (hw : WfL ps) : ps.Nodup := by
  have := kids_apart h
  rw [List.Nodup]
  refine List.Pairwise.imp_of_mem (fun {a b} ha hb hab => ?_) this
  rintro rfl
  have := least_mem (hw a ha)
  exact hab _ this this
theorem norm_nf : ∀ t : T, wf t → (lst t).Nodup → Nf (norm t) := by
  intro t
  induction t using T.ind with
  | h1 i => intro _ _; rw [norm_th]; simp [Nf]
  | h2 b ps ih =>
    intro h hn
    rw [wf_nd] at h
    obtain ⟨h2, h3, hw⟩ := h
    rw [lst_nd] at hn
    have hw2 : WfL (ps.map norm) := fun p hp => by
      obtain ⟨q, hq, rfl⟩ := List.mem_map.mp hp
      exact wf_norm q (hw q hq)
    have hk : ∀ p ∈ ps.map norm, Nf p := fun p hp => by
      obtain ⟨q, hq, rfl⟩ := List.mem_map.mp hp
      exact ih q hq (hw q hq) (kid_nodup hn hq)
    have hn2 : (lstL (ps.map norm)).Nodup := by
      have := FrL_perm ((FrL_map (fun p _ o => Fr_norm p o) (lstL (ps.map norm))).mp (FrL_some _))
      exact this.nodup_iff.mpr hn
    cases b with
    | false =>
      rw [norm_any, Nf_any]
      refine ⟨?_, fun p hp => hk p ((srt_perm _).mem_iff.mp hp)⟩
      have hp := srt_perm (ps.map norm)
      have hn3 : (lstL (srt (ps.map norm))).Nodup := (lstL_perm hp).nodup_iff.mpr hn2
      have hw3 : WfL (srt (ps.map norm)) := Wf_perm hp hw2
      have h1 := kids_apart hn3
      refine List.Pairwise.imp_of_mem (fun {a b} ha hb hab => ?_) (h1.and (srt_sorted (ps.map norm)))
      have e : least a ≠ least b := fun e => hab.1 _ (least_mem (hw3 a ha)) (e ▸ least_mem (hw3 b hb))
      have := hab.2
      omega
    | true =>
      rw [norm_row, Nf_row]
      refine ⟨?_, fun p hp => hk p ((orient_perm _).mem_iff.mp hp)⟩
      have hl : (ps.map norm).length = ps.length := List.length_map _
      obtain ⟨a, r, e⟩ : ∃ a r, ps.map norm = a :: r := by
        cases hx : ps.map norm with
        | nil => rw [hx] at hl; simp at hl; omega
        | cons a r => exact ⟨a, r, rfl⟩
      rcases List.eq_nil_or_concat r with rfl | ⟨mid, b, hb⟩
      · rw [e] at hl; simp at hl; omega
      rw [List.concat_eq_append] at hb
      subst hb
      rw [e]
      rw [e] at hn2 hw2
      have hab : least a ≠ least b := by
        intro e2
        have h1 := List.pairwise_cons.mp (kids_apart hn2)
        exact h1.1 b (by simp) _ (least_mem (hw2 a (by simp))) (e2 ▸ least_mem (hw2 b (by simp)))
      have eo : orient (a :: (mid ++ [b])) = if least b < least a then (a :: (mid ++ [b])).reverse else a :: (mid ++ [b]) := by
        unfold orient
        have : (a :: (mid ++ [b])).getLast? = some b := by
          rw [← List.cons_append, List.getLast?_append]; simp
        rw [this]
        rfl
      rw [eo]
      split
      · refine ⟨b, mid.reverse, a, by simp, by assumption⟩
      · exact ⟨a, mid, b, rfl, by omega⟩
end PQ
namespace PQ
/-! ### sets that stand together in all told orders -/
def AT (t : T) (S : List Int) : Prop := ∀ o, Fr t o → Tog S o
theorem with_kid {b : Bool} {x y : List T} {p : T} {a : List Int} (h : Fr p a) : Fr (.nd b (x ++ p :: y)) (lstL x ++ (a ++ lstL y)) := by
  have : FrL (x ++ p :: y) (lstL x ++ (a ++ lstL y)) := FrL_append.mpr ⟨_, _, rfl, FrL_some x, FrL_cons.mpr ⟨_, _, rfl, h, FrL_some y⟩⟩
  cases b with
  | false => exact .any (.refl _) this
  | true => exact .row this
theorem suf_pre {S a : List Int} (h1 : Has S a) (h2 : Lacks S a) (h3 : run S 0 a = 1) (h4 : run S 1 a ≤ 2) : False := by
  cases a with
  | nil => obtain ⟨x, hx, _⟩ := h1; cases hx
  | cons x r =>
    by_cases hx : x ∈ S
    · have := run1_lacks h2
      rw [run_cons, stp_in hx] at h3 this
      simp at h3 this
      omega
    · rw [run_cons, stp_out hx] at h4
      have hr : Has S r := by
        obtain ⟨y, hy, hs⟩ := h1
        rcases List.mem_cons.mp hy with rfl | hy
        · exact absurd hs hx
        · exact ⟨y, hy, hs⟩
      have := run2_has hr
      simp at h4
      omega
theorem seg_suf {S c a d : List Int} (ha : Has S a) (hl : Lacks S a) (hd : Has S d) (h : Tog S (c ++ (a ++ d))) : run S 0 a = 1 := by
  have hr := run_of_tog h
  rw [run_append, run_append] at hr
  have q2 := (run_mono S c 0 (by omega)).2
  have q4 := run_mono S a _ q2
  have no2 : ¬ 2 ≤ run S (run S 0 c) a := by
    intro h2
    have : run S (run S 0 c) a = 2 ∨ run S (run S 0 c) a = 3 := by omega
    rcases this with e | e
    · rw [e, run2_has hd] at hr; omega
    · rw [e, run3] at hr; omega
  have h0 : run S 0 c = 0 ∨ run S 0 c = 1 ∨ 2 ≤ run S 0 c := by omega
  rcases h0 with h0 | h0 | h0
  · rw [h0] at no2
    have := run0_has ha
    omega
  · rw [h0] at no2
    exact absurd (run1_lacks hl) no2
  · omega
/-- a set that is always together does not cross a part -/
theorem no_cross {b : Bool} {ps : List T} {S : List Int} (h : AT (.nd b ps) S) {p : T} (hp : p ∈ ps) (h1 : Has S (lst p)) {y : Int} (hy : y ∈ lstL ps) (hys : y ∈ S) (hyp : y ∉ lst p) : AllS S (lst p) := by
  refine Classical.byContradiction fun hc => ?_
  rw [not_all] at hc
  obtain ⟨x, z, rfl⟩ := List.append_of_mem hp
  have f1 := h _ (with_kid (b := b) (x := x) (y := z) (Fr_some p))
  have f2 := h _ (with_kid (b := b) (x := x) (y := z) (Fr_rev p _ (Fr_some p)))
  have h1r : Has S (lst p).reverse := h1.perm (List.reverse_perm _).symm
  have hcr : Lacks S (lst p).reverse := hc.perm (List.reverse_perm _).symm
  rw [lstL_append, lstL_cons] at hy
  rcases List.mem_append.mp hy with hy | hy
  · have hd : Has S (lstL x).reverse := ⟨y, List.mem_reverse.mpr hy, hys⟩
    have g1 := f1.rev
    have g2 := f2.rev
    rw [List.reverse_append, List.reverse_append, List.append_assoc] at g1 g2
    have e1 := seg_suf h1r hcr hd g1
    rw [List.reverse_reverse] at g2
    have e2 := seg_suf h1 hc hd g2
    exact suf_pre h1 hc e2 ((run_suf_rev h1).mp e1)
  · rcases List.mem_append.mp hy with hy | hy
    · exact hyp hy
    · have hd : Has S (lstL z) := ⟨y, hy, hys⟩
      have e1 := seg_suf h1 hc hd f1
      have e2 := seg_suf h1r hcr hd f2
      exact suf_pre h1 hc e1 ((run_suf_rev h1).mp e2)
theorem perm_of_mem {α : Type} {p : α} {ps : List α} (h : p ∈ ps) : ∃ r, ps.Perm (p :: r) := by
  obtain ⟨a, b, rfl⟩ := List.append_of_mem h
  exact ⟨a ++ b, List.perm_middle⟩
theorem any_full {ps : List T} {S : List Int} (hw : WfL ps) (hn : (lstL ps).Nodup) (h : AT (.nd false ps) S) {p q : T} (hp : p ∈ ps) (hq : q ∈ ps) (hpq : p ≠ q) (h1 : Has S (lst p)) (h2 : Has S (lst q)) : AllS S (lstL ps) := by
  refine Classical.byContradiction fun hc => ?_
  rw [not_all] at hc
  obtain ⟨z, hz, hzs⟩ := hc
  obtain ⟨r, hr, hz⟩ := mem_lstL.mp hz
  obtain ⟨x, hx, hxs⟩ := id h1
  obtain ⟨y, hy, hys⟩ := id h2
  have hyp : y ∉ lst p := fun e => hpq (kid_eq hn hp hq e hy)
  have hxq : x ∉ lst q := fun e => hpq (kid_eq hn hp hq hx e)
  have ap := no_cross h hp h1 (mem_lstL.mpr ⟨q, hq, hy⟩) hys hyp
  have aq := no_cross h hq h2 (mem_lstL.mpr ⟨p, hp, hx⟩) hxs hxq
  have hrp : r ≠ p := by rintro rfl; exact hzs (ap z hz)
  have hrq : r ≠ q := by rintro rfl; exact hzs (aq z hz)
  have nr : NoS S (lst r) := by
    refine Classical.byContradiction fun hc => ?_
    rw [not_no] at hc
    have := no_cross h hr hc (mem_lstL.mpr ⟨p, hp, hx⟩) hxs fun e => hrp (kid_eq hn hr hp e hx)
    exact hzs (this z hz)
  obtain ⟨r1, e1⟩ := perm_of_mem hp
  have hq1 : q ∈ r1 := by
    rcases List.mem_cons.mp (e1.mem_iff.mp hq) with e | e
    · exact absurd e.symm hpq
    · exact e
  have hr1 : r ∈ r1 := by
    rcases List.mem_cons.mp (e1.mem_iff.mp hr) with e | e
    · exact absurd e hrp
    · exact e
  obtain ⟨r2, e2⟩ := perm_of_mem hr1
  have hq2 : q ∈ r2 := by
    rcases List.mem_cons.mp (e2.mem_iff.mp hq1) with e | e
    · exact absurd e.symm hrq
    · exact e
  obtain ⟨r3, e3⟩ := perm_of_mem hq2
  have ep : ps.Perm (p :: r :: q :: r3) := e1.trans ((e2.trans (e3.cons r)).cons p)
  have := h _ (.any ep.symm (FrL_some _))
  have hr := run_of_tog this
  rw [lstL_cons, lstL_cons, lstL_cons, run_append, run_append, run_append] at hr
  have k1 : run S 0 (lst p) = 1 := run0_all ap (lst_ne p (hw p hp))
  have k2 : run S 1 (lst r) = 2 := run1_no nr (lst_ne r (hw r ‹_›))
  rw [k1, k2, run2_has h2, run3] at hr
  omega
theorem tog_kid {qs : List T} (hn : (lstL qs).Nodup) {p : T} (hp : p ∈ qs) {o : List Int} (h : FrL qs o) : Tog (lst p) o := by
  obtain ⟨x, y, rfl⟩ := List.append_of_mem hp
  obtain ⟨a, b, rfl, ha, hb⟩ := FrL_append.mp h
  obtain ⟨c, d, rfl, hc, hd⟩ := FrL_cons.mp hb
  rw [lstL_append, lstL_cons] at hn
  obtain ⟨_, h2, h3⟩ := List.nodup_append.mp hn
  obtain ⟨_, _, h4⟩ := List.nodup_append.mp h2
  refine ⟨a, c, d, rfl, fun z hz hz2 => ?_, fun z hz => (Fr_perm p c hc).mem_iff.mp hz, fun z hz hz2 => ?_⟩
  · exact h3 z ((FrL_perm ha).mem_iff.mp hz) z (by simp [hz2]) rfl
  · exact h4 z hz2 z ((FrL_perm hd).mem_iff.mp hz) rfl
theorem AT_kid {b : Bool} {ps : List T} (hn : (lstL ps).Nodup) {p : T} (hp : p ∈ ps) : AT (.nd b ps) (lst p) := by
  intro o h
  cases b with
  | false =>
    obtain ⟨qs, hq, h⟩ := Fr_any.mp h
    exact tog_kid ((lstL_perm hq).nodup_iff.mpr hn) (hq.mem_iff.mpr hp) h
  | true =>
    rcases Fr_row.mp h with h | h
    · exact tog_kid hn hp h
    · exact tog_kid ((lstL_perm (List.reverse_perm _)).nodup_iff.mpr hn) (List.mem_reverse.mpr hp) h
theorem tog_two {x y : List T} {u v : T} (hn : (lstL (x ++ u :: v :: y)).Nodup) {o : List Int} (h : FrL (x ++ u :: v :: y) o) : Tog (lst u ++ lst v) o := by
  obtain ⟨a, b, rfl, ha, hb⟩ := FrL_append.mp h
  obtain ⟨c, b, rfl, hc, hb⟩ := FrL_cons.mp hb
  obtain ⟨d, e, rfl, hd, he⟩ := FrL_cons.mp hb
  rw [lstL_append, lstL_cons, lstL_cons, ← List.append_assoc (lst u)] at hn
  obtain ⟨_, h2, h3⟩ := List.nodup_append.mp hn
  obtain ⟨_, _, h4⟩ := List.nodup_append.mp h2
  refine ⟨a, c ++ d, e, by simp, fun z hz hz2 => ?_, fun z hz => ?_, fun z hz hz2 => ?_⟩
  · exact h3 z ((FrL_perm ha).mem_iff.mp hz) z (List.mem_append.mpr (.inl hz2)) rfl
  · exact ((Fr_perm u c hc).append (Fr_perm v d hd)).mem_iff.mp hz
  · exact h4 z hz2 z ((FrL_perm he).mem_iff.mp hz) rfl
theorem AT_two {x y : List T} {u v : T} (hn : (lstL (x ++ u :: v :: y)).Nodup) : AT (.nd true (x ++ u :: v :: y)) (lst u ++ lst v) := by
  intro o h
  rcases Fr_row.mp h with h | h
  · exact tog_two hn h
  · have := (tog_two hn (FrL_rev_iff'.mp h)).rev
    rwa [List.reverse_reverse] at this
theorem adjacent {φ : T → Prop} : ∀ {qs : List T}, (∃ u ∈ qs, φ u) → (∃ v ∈ qs, ¬ φ v) → ∃ x u v y, qs = x ++ u :: v :: y ∧ ((φ u ∧ ¬ φ v) ∨ (¬ φ u ∧ φ v))
  | [], ⟨_, h, _⟩, _ => nomatch h
  | [a], ⟨u, h, h1⟩, ⟨v, h', h2⟩ => by
    rw [List.mem_singleton] at h h'
    subst h; subst h'
    exact absurd h1 h2
  | a :: b :: r, h1, h2 => by
    by_cases ha : φ a <;> by_cases hb : φ b
    · have h2' : ∃ v ∈ b :: r, ¬ φ v := by
        obtain ⟨v, hv, h⟩ := h2
        rcases List.mem_cons.mp hv with rfl | hv
        · exact absurd ha h
        · exact ⟨v, hv, h⟩
      obtain ⟨x, u, v, y, e, h⟩ := adjacent (qs := b :: r) ⟨b, by simp, hb⟩ h2'
      exact ⟨a :: x, u, v, y, by rw [e]; rfl, h⟩
    · exact ⟨[], a, b, r, rfl, .inl ⟨ha, hb⟩⟩
    · exact ⟨[], a, b, r, rfl, .inr ⟨ha, hb⟩⟩
    · have h1' : ∃ v ∈ b :: r, φ v := by
        obtain ⟨v, hv, h⟩ := h1
        rcases List.mem_cons.mp hv with rfl | hv
        · exact absurd h ha
        · exact ⟨v, hv, h⟩
      obtain ⟨x, u, v, y, e, h⟩ := adjacent (qs := b :: r) h1' ⟨b, by simp, hb⟩
      exact ⟨a :: x, u, v, y, by rw [e]; rfl, h⟩
theorem kid_sub {b1 b2 : Bool} {ps qs : List T} (w1 : wf (.nd b1 ps)) (w2 : wf (.nd b2 qs)) (n1 : (lstL ps).Nodup) (n2 : (lstL qs).Nodup)
    (hF : ∀ o, Fr (.nd b1 ps) o ↔ Fr (.nd b2 qs) o) {p : T} (hp : p ∈ ps) : ∃ q ∈ qs, ∀ x ∈ lst p, x ∈ lst q := by
  obtain ⟨l1, _, k1⟩ := wf_nd.mp w1
  obtain ⟨l2, _, k2⟩ := wf_nd.mp w2
  have hperm : (lstL ps).Perm (lstL qs) := by
    have := Fr_perm _ _ ((hF _).mp (Fr_some (.nd b1 ps)))
    rwa [lst_nd, lst_nd] at this
  have at2 : AT (.nd b2 qs) (lst p) := fun o h => AT_kid n1 hp o ((hF o).mpr h)
  refine Classical.byContradiction fun hc => ?_
  have hx := least_mem (k1 p hp)
  generalize least p = x at hx
  obtain ⟨q, hq, hxq⟩ := mem_lstL.mp (hperm.mem_iff.mp (mem_lstL.mpr ⟨p, hp, hx⟩))
  have hy : ∃ y ∈ lst p, y ∉ lst q := by
    refine Classical.byContradiction fun h => hc ⟨q, hq, fun y hy => ?_⟩
    exact Classical.byContradiction fun hyq => h ⟨y, hy, hyq⟩
  obtain ⟨y, hy, hyq⟩ := hy
  obtain ⟨q', hq', hyq'⟩ := mem_lstL.mp (hperm.mem_iff.mp (mem_lstL.mpr ⟨p, hp, hy⟩))
  have hqq : q ≠ q' := by rintro rfl; exact hyq hyq'
  -- another part of the first tree
  have other : ∃ z ∈ lstL ps, z ∉ lst p := by
    obtain ⟨a, b, e⟩ := List.append_of_mem hp
    have : ∃ p2 ∈ a ++ b, True := by
      cases h : a ++ b with
      | nil =>
        obtain ⟨ha, hb⟩ := List.append_eq_nil_iff.mp h
        subst ha; subst hb
        rw [e] at l1; simp at l1
      | cons c r => exact ⟨c, by simp, trivial⟩
    obtain ⟨p2, h2, _⟩ := this
    have hp2 : p2 ∈ ps := by
      rw [e]
      rcases List.mem_append.mp h2 with h | h <;> simp [h]
    have nd := kids_nodup n1 k1
    have hne : p2 ≠ p := by
      rintro rfl
      rw [e] at nd
      have := (List.perm_middle (a := p2) (l₁ := a) (l₂ := b)).nodup_iff.mp nd
      exact (List.nodup_cons.mp this).1 h2
    exact ⟨least p2, mem_lstL.mpr ⟨p2, hp2, least_mem (k1 p2 hp2)⟩, fun h => hne (kid_eq n1 hp2 hp (least_mem (k1 p2 hp2)) h)⟩
  obtain ⟨z, hz, hzp⟩ := other
  have hxs : Has (lst p) (lst q) := ⟨x, hxq, hx⟩
  have hys : Has (lst p) (lst q') := ⟨y, hyq', hy⟩
  cases b2 with
  | false => exact hzp (any_full k2 n2 at2 hq hq' hqq hxs hys z (hperm.mem_iff.mp hz))
  | true =>
    -- a touched part of the second tree lies within
    have within : ∀ r ∈ qs, Has (lst p) (lst r) → AllS (lst p) (lst r) := by
      intro r hr hh
      by_cases e : r = q
      · subst e
        exact no_cross at2 hr hh (mem_lstL.mpr ⟨q', hq', hyq'⟩) hy fun e => hqq (kid_eq n2 hr hq' e hyq')
      · exact no_cross at2 hr hh (mem_lstL.mpr ⟨q, hq, hxq⟩) hx fun e2 => e (kid_eq n2 hr hq e2 hxq)
    obtain ⟨r, hr, hzr⟩ := mem_lstL.mp (hperm.mem_iff.mp hz)
    have hnr : ¬ Has (lst p) (lst r) := fun h => hzp (within r hr h z hzr)
    obtain ⟨xs, u, v, ys, e, huv⟩ := adjacent (φ := fun r => Has (lst p) (lst r)) ⟨q, hq, hxs⟩ ⟨r, hr, hnr⟩
    have hu : u ∈ qs := by rw [e]; simp
    have hv : v ∈ qs := by rw [e]; simp
    have atU : AT (.nd b1 ps) (lst u ++ lst v) := fun o h => by
      have h' := (hF o).mp h
      rw [e] at h' n2
      exact AT_two n2 o h'
    have hUps : ∀ w, w ∈ lst u ++ lst v → w ∈ lstL ps := fun w hw => by
      refine hperm.mem_iff.mpr (mem_lstL.mpr ?_)
      rcases List.mem_append.mp hw with h | h
      · exact ⟨u, hu, h⟩
      · exact ⟨v, hv, h⟩
    -- the one of u and v that is touched is i, the other one is j
    have key : ∀ i j : T, i ∈ qs → j ∈ qs → Has (lst p) (lst i) → ¬ Has (lst p) (lst j) → (∀ w, w ∈ lst u ++ lst v ↔ w ∈ lst i ∨ w ∈ lst j) → False := by
      intro i j hi hj h1 h2 hw
      have hjn : ∀ w ∈ lst j, w ∉ lst p := fun w hwj hwp => h2 ⟨w, hwj, hwp⟩
      have hps : AllS (lst u ++ lst v) (lst p) := by
        obtain ⟨a, ha, hap⟩ := h1
        refine no_cross atU hp ⟨a, hap, (hw a).mpr (.inl ha)⟩ (y := least j) ?_ ((hw _).mpr (.inr (least_mem (k2 j hj)))) (hjn _ (least_mem (k2 j hj)))
        exact hUps _ ((hw _).mpr (.inr (least_mem (k2 j hj))))
      have one : ∀ s ∈ qs, Has (lst p) (lst s) → s = i := by
        intro s hs hh
        obtain ⟨a, ha, hap⟩ := hh
        rcases (hw a).mp (hps a hap) with h | h
        · exact kid_eq n2 hs hi ha h
        · exact absurd hap (hjn a h)
      exact hqq ((one q hq hxs).trans (one q' hq' hys).symm)
    rcases huv with ⟨h1, h2⟩ | ⟨h1, h2⟩
    · exact key u v hu hv h1 h2 fun w => List.mem_append
    · exact key v u hv hu h2 h1 fun w => by rw [List.mem_append]; exact Or.comm
/-! ### what a part tells, read off the orders of the whole -/
theorem filter_kid {qs : List T} (hn : (lstL qs).Nodup) {p : T} (hp : p ∈ qs) {o : List Int} (h : FrL qs o) : Fr p (o.filter fun x => decide (x ∈ lst p)) := by
  obtain ⟨x, y, rfl⟩ := List.append_of_mem hp
  obtain ⟨a, b, rfl, ha, hb⟩ := FrL_append.mp h
  obtain ⟨c, d, rfl, hc, hd⟩ := FrL_cons.mp hb
  rw [lstL_append, lstL_cons] at hn
  obtain ⟨_, h2, h3⟩ := List.nodup_append.mp hn
  obtain ⟨_, _, h4⟩ := List.nodup_append.mp h2
  have e1 : a.filter (fun x => decide (x ∈ lst p)) = [] := by
    rw [List.filter_eq_nil_iff]
    intro z hz
    simp only [decide_eq_true_eq]
    exact fun hz2 => h3 z ((FrL_perm ha).mem_iff.mp hz) z (by simp [hz2]) rfl
  have e2 : d.filter (fun x => decide (x ∈ lst p)) = [] := by
    rw [List.filter_eq_nil_iff]
    intro z hz
    simp only [decide_eq_true_eq]
    exact fun hz2 => h4 z hz2 z ((FrL_perm hd).mem_iff.mp hz) rfl
  have e3 : c.filter (fun x => decide (x ∈ lst p)) = c := by
    rw [List.filter_eq_self]
    intro z hz
    simpa using (Fr_perm p c hc).mem_iff.mp hz
  rw [List.filter_append, List.filter_append, e1, e2, e3]
  simpa using hc
theorem filter_nd {b : Bool} {qs : List T} (hn : (lstL qs).Nodup) {p : T} (hp : p ∈ qs) {o : List Int} (h : Fr (.nd b qs) o) : Fr p (o.filter fun x => decide (x ∈ lst p)) := by
  cases b with
  | false =>
    obtain ⟨rs, hr, h⟩ := Fr_any.mp h
    exact filter_kid ((lstL_perm hr).nodup_iff.mpr hn) (hr.mem_iff.mpr hp) h
  | true =>
    rcases Fr_row.mp h with h | h
    · exact filter_kid hn hp h
    · exact filter_kid ((lstL_perm (List.reverse_perm _)).nodup_iff.mpr hn) (List.mem_reverse.mpr hp) h
theorem kid_same {b1 b2 : Bool} {ps qs : List T} (n1 : (lstL ps).Nodup) (n2 : (lstL qs).Nodup) (hF : ∀ o, Fr (.nd b1 ps) o → Fr (.nd b2 qs) o) {p q : T} (hp : p ∈ ps) (hq : q ∈ qs) (e : ∀ x, x ∈ lst p ↔ x ∈ lst q) :
    ∀ o, Fr p o → Fr q o := by
  intro o h
  obtain ⟨x, y, rfl⟩ := List.append_of_mem hp
  have := filter_nd n2 hq (hF _ (with_kid (b := b1) (x := x) (y := y) h))
  have e' : (fun x => decide (x ∈ lst q)) = fun x => decide (x ∈ lst p) := by
    funext x; rw [decide_eq_decide]; exact (e x).symm
  rw [e'] at this
  rw [lstL_append, lstL_cons] at n1
  obtain ⟨_, h2, h3⟩ := List.nodup_append.mp n1
  obtain ⟨_, _, h4⟩ := List.nodup_append.mp h2
  have e1 : (lstL x).filter (fun x => decide (x ∈ lst p)) = [] := by
    rw [List.filter_eq_nil_iff]
    intro z hz
    simp only [decide_eq_true_eq]
    exact fun hz2 => h3 z hz z (by simp [hz2]) rfl
  have e2 : (lstL y).filter (fun x => decide (x ∈ lst p)) = [] := by
    rw [List.filter_eq_nil_iff]
    intro z hz
    simp only [decide_eq_true_eq]
    exact fun hz2 => h4 z hz2 z hz rfl
  have e3 : o.filter (fun x => decide (x ∈ lst p)) = o := by
    rw [List.filter_eq_self]
    intro z hz
    simpa using (Fr_perm p o h).mem_iff.mp hz
  rw [List.filter_append, List.filter_append, e1, e2, e3] at this
  simpa using this
theorem seq_same : ∀ {ps rs : List T} {o : List Int}, WfL ps → WfL rs → (lstL ps).Nodup → (∀ r ∈ rs, r ∈ ps) → FrL ps o → FrL rs o → ps = rs
  | [], rs, o, _, w2, _, _, h1, h2 => by
    rw [FrL_nil] at h1
    subst h1
    cases rs with
    | nil => rfl
    | cons r rs => exact absurd rfl (FrL_ne w2 h2 (by simp))
  | p :: ps, [], o, w1, _, _, _, h1, h2 => by
    rw [FrL_nil] at h2
    subst h2
    exact absurd rfl (FrL_ne w1 h1 (by simp))
  | p :: ps, r :: rs, o, w1, w2, hn, hm, h1, h2 => by
    obtain ⟨a, b, rfl, ha, hb⟩ := FrL_cons.mp h1
    obtain ⟨c, d, e, hc, hd⟩ := FrL_cons.mp h2
    have hr : r ∈ p :: ps := hm r (by simp)
    have hpr : p = r := by
      have hane := Fr_ne (w1 p (by simp)) ha
      have hcne := Fr_ne (w2 r (by simp)) hc
      match a, c, hane, hcne with
      | x :: a', y :: c', _, _ =>
        simp only [List.cons_append] at e
        have exy : x = y := (List.cons.inj e).1
        subst exy
        exact kid_eq (x := x) hn (by simp) hr ((Fr_perm p _ ha).mem_iff.mp (by simp)) ((Fr_perm r _ hc).mem_iff.mp (by simp))
    subst hpr
    have hl : a.length = c.length := by rw [(Fr_perm p a ha).length_eq, (Fr_perm p c hc).length_eq]
    obtain ⟨e1, e2⟩ := List.append_inj e hl
    subst e1; subst e2
    rw [lstL_cons] at hn
    obtain ⟨_, hn2, hn3⟩ := List.nodup_append.mp hn
    have hm2 : ∀ r ∈ rs, r ∈ ps := fun s hs => by
      rcases List.mem_cons.mp (hm s (by simp [hs])) with e | h
      · exfalso
        have hx := least_mem (w2 s (by simp [hs]))
        have h3 : least s ∈ lstL rs := mem_lstL.mpr ⟨s, hs, hx⟩
        have h4 : least s ∈ lstL ps := (FrL_perm hb).mem_iff.mp ((FrL_perm hd).mem_iff.mpr h3)
        rw [e] at hx h4
        exact hn3 _ hx _ h4 rfl
      · exact h
    rw [seq_same (fun q hq => w1 q (by simp [hq])) (fun q hq => w2 q (by simp [hq])) hn2 hm2 hb hd]
/-! ### the theorem -/
theorem th_alone {i : Int} {t : T} (hw : wf t) (h : (lst t).Perm [i]) : t = .th i := by
  cases t with
  | th j =>
    rw [lst_th] at h
    have := List.perm_singleton.mp h
    cases this; rfl
  | nd b qs =>
    exfalso
    obtain ⟨l, _, k⟩ := wf_nd.mp hw
    rw [lst_nd] at h
    match qs, l with
    | a :: b :: r, _ =>
      have hl := h.length_eq
      rw [lstL_cons, lstL_cons] at hl
      have h1 : (lst a).length ≠ 0 := fun e => lst_ne a (k a (by simp)) (List.length_eq_zero_iff.mp e)
      have h2 : (lst b).length ≠ 0 := fun e => lst_ne b (k b (by simp)) (List.length_eq_zero_iff.mp e)
      simp only [List.length_append, List.length_cons, List.length_nil] at hl
      omega
theorem row_not_any {ps qs : List T} (w1 : wf (.nd false ps)) (w2 : wf (.nd true qs)) (n1 : (lstL ps).Nodup) (n2 : (lstL qs).Nodup)
    (hF : ∀ o, Fr (.nd false ps) o → Fr (.nd true qs) o) (hm : ∀ p, p ∈ ps ↔ p ∈ qs) : False := by
  obtain ⟨l1, _, k1⟩ := wf_nd.mp w1
  obtain ⟨l2, l3, k2⟩ := wf_nd.mp w2
  have l3 := l3 rfl
  match qs, l3 with
  | u :: v :: w :: r, _ =>
    have nd := kids_nodup n2 k2
    have huv : u ≠ v := by
      rintro rfl
      exact (List.nodup_cons.mp nd).1 (by simp)
    have huw : u ≠ w := by
      rintro rfl
      exact (List.nodup_cons.mp nd).1 (by simp)
    have hvw : v ≠ w := by
      rintro rfl
      exact (List.nodup_cons.mp (List.nodup_cons.mp nd).2).1 (by simp)
    have hU : AT (.nd false ps) (lst u ++ lst v) := fun o h => AT_two (x := []) n2 o (hF o h)
    have hlu := least_mem (k2 u (by simp))
    have hlv := least_mem (k2 v (by simp))
    have hlw := least_mem (k2 w (by simp))
    have := any_full k1 n1 hU ((hm u).mpr (by simp)) ((hm v).mpr (by simp)) huv ⟨_, hlu, by simp [hlu]⟩ ⟨_, hlv, by simp [hlv]⟩ (least w) (mem_lstL.mpr ⟨w, (hm w).mpr (by simp), hlw⟩)
    rcases List.mem_append.mp this with h | h
    · exact huw (kid_eq n2 (by simp) (by simp) h hlw)
    · exact hvw (kid_eq n2 (by simp) (by simp) h hlw)
theorem uniq : ∀ t1 t2 : T, wf t1 → wf t2 → (lst t1).Nodup → Nf t1 → Nf t2 → (∀ o, Fr t1 o ↔ Fr t2 o) → t1 = t2 := by
  intro t1
  induction t1 using T.ind with
  | h1 i =>
    intro t2 _ w2 _ _ _ hF
    have := Fr_perm _ _ ((hF [i]).mp (.th i))
    exact (th_alone w2 this.symm).symm
  | h2 b1 ps ih =>
    intro t2 w1 w2 hn f1 f2 hF
    have hperm := Fr_perm _ _ ((hF _).mp (Fr_some (.nd b1 ps)))
    have hn2 : (lst t2).Nodup := hperm.nodup_iff.mp hn
    cases t2 with
    | th j =>
      rw [lst_th] at hperm
      exact th_alone w1 hperm
    | nd b2 qs =>
      rw [lst_nd] at hn hn2
      have k1 := (wf_nd.mp w1).2.2
      have k2 := (wf_nd.mp w2).2.2
      have g1 : ∀ p ∈ ps, Nf p := by
        cases b1 with
        | false => exact (Nf_any.mp f1).2
        | true => exact (Nf_row.mp f1).2
      have g2 : ∀ p ∈ qs, Nf p := by
        cases b2 with
        | false => exact (Nf_any.mp f2).2
        | true => exact (Nf_row.mp f2).2
      have hF' : ∀ o, Fr (.nd b2 qs) o ↔ Fr (.nd b1 ps) o := fun o => (hF o).symm
      -- parts that have the same things are the same
      have same : ∀ p ∈ ps, ∀ q ∈ qs, (∀ x, x ∈ lst p ↔ x ∈ lst q) → p = q := by
        intro p hp q hq e
        refine ih p hp q (k1 p hp) (k2 q hq) (kid_nodup hn hp) (g1 p hp) (g2 q hq) fun o => ⟨?_, ?_⟩
        · exact kid_same hn hn2 (fun o => (hF o).mp) hp hq e o
        · exact kid_same hn2 hn (fun o => (hF o).mpr) hq hp (fun x => (e x).symm) o
      have sub1 : ∀ p ∈ ps, p ∈ qs := by
        intro p hp
        obtain ⟨q, hq, h1⟩ := kid_sub w1 w2 hn hn2 hF hp
        obtain ⟨p', hp', h2⟩ := kid_sub w2 w1 hn2 hn hF' hq
        have hl := least_mem (k1 p hp)
        have : p = p' := kid_eq hn hp hp' hl (h2 _ (h1 _ hl))
        subst this
        rw [same p hp q hq fun x => ⟨h1 x, h2 x⟩]
        exact hq
      have sub2 : ∀ q ∈ qs, q ∈ ps := by
        intro q hq
        obtain ⟨p, hp, h1⟩ := kid_sub w2 w1 hn2 hn hF' hq
        obtain ⟨q', hq', h2⟩ := kid_sub w1 w2 hn hn2 hF hp
        have hl := least_mem (k2 q hq)
        have : q = q' := kid_eq hn2 hq hq' hl (h2 _ (h1 _ hl))
        subst this
        rw [← same p hp q hq fun x => ⟨h2 x, h1 x⟩]
        exact hp
      have hm : ∀ p, p ∈ ps ↔ p ∈ qs := fun p => ⟨sub1 p, sub2 p⟩
      have hpq : ps.Perm qs := (List.perm_ext_iff_of_nodup (kids_nodup hn k1) (kids_nodup hn2 k2)).mpr hm
      cases b1 with
      | false =>
        cases b2 with
        | true => exact (row_not_any w1 w2 hn hn2 (fun o => (hF o).mp) hm).elim
        | false =>
          have s1 := (Nf_any.mp f1).1
          have s2 := (Nf_any.mp f2).1
          rw [List.Perm.eq_of_pairwise (le := fun a b => least a < least b) (fun a b _ _ h1 h2 => by omega) s1 s2 hpq]
      | true =>
        cases b2 with
        | false => exact (row_not_any w2 w1 hn2 hn (fun o => (hF o).mpr) fun p => (hm p).symm).elim
        | true =>
          have h := (hF _).mp (.row (FrL_some ps))
          rcases Fr_row.mp h with h | h
          · rw [seq_same k1 k2 hn sub2 (FrL_some ps) h]
          · exfalso
            have e := seq_same k1 (rs := qs.reverse) (fun q hq => k2 q (List.mem_reverse.mp hq)) hn (fun q hq => sub2 q (List.mem_reverse.mp hq)) (FrL_some ps) h
            obtain ⟨a, r, b, e1, h1⟩ := (Nf_row.mp f1).1
            obtain ⟨c, s, d, e2, h2⟩ := (Nf_row.mp f2).1
            rw [e1, e2] at e
            have er : (c :: (s ++ [d])).reverse = d :: (s.reverse ++ [c]) := by simp
            rw [er] at e
            obtain ⟨e3, e4⟩ := List.cons.inj e
            obtain ⟨_, e5⟩ := List.append_inj' e4 rfl
            have e6 := (List.cons.inj e5).1
            subst e3; subst e6
            omega
theorem norm_idem {t : T} (hw : wf t) (hn : (lst t).Nodup) (hf : Nf t) : norm t = t := by
  refine uniq _ _ (wf_norm t hw) hw ?_ (norm_nf t hw hn) hf (Fr_norm t)
  exact (lst_norm t).nodup_iff.mpr hn
end PQ
namespace PQ
/-! ### the sets of a tree -/
def isort (l : List Int) : List Int := l.mergeSort fun a b => decide (a ≤ b)
theorem isort_perm (l : List Int) : (isort l).Perm l := List.mergeSort_perm _ _
theorem isort_sorted (l : List Int) : (isort l).Pairwise (· ≤ ·) := by
  have := List.pairwise_mergeSort (le := fun a b : Int => decide (a ≤ b)) (fun a b c h1 h2 => by simp at *; omega) (fun a b => by simp; omega) l
  exact this.imp fun h => by simpa using h
theorem isort_uniq {l l' : List Int} (hp : l'.Perm l) (hs : l'.Pairwise (· ≤ ·)) : l' = isort l :=
  List.Perm.eq_of_pairwise (le := fun a b => a ≤ b) (fun a b _ _ h1 h2 => by omega) hs (isort_sorted l) (hp.trans (isort_perm l).symm)
theorem mem_isort {x : Int} {l : List Int} : x ∈ isort l ↔ x ∈ l := (isort_perm l).mem_iff
def pairs : List T → List (List Int)
  | a :: b :: r => isort (lst a ++ lst b) :: pairs (b :: r)
  | _ => []
mutual
def csets : T → List (List Int)
  | .th _ => []
  | .nd false ps => isort (lstL ps) :: csetsL ps
  | .nd true ps => pairs ps ++ csetsL ps
def csetsL : List T → List (List Int)
  | [] => []
  | p :: r => csets p ++ csetsL r
end
theorem csetsL_eq : ∀ ps : List T, csetsL ps = ps.flatMap csets
  | [] => by simp [csetsL]
  | p :: r => by simp [csetsL, csetsL_eq r]
theorem csets_th (i : Int) : csets (.th i) = [] := by simp [csets]
theorem csets_any (ps : List T) : csets (.nd false ps) = isort (lstL ps) :: csetsL ps := by simp [csets]
theorem csets_row (ps : List T) : csets (.nd true ps) = pairs ps ++ csetsL ps := by simp [csets]
theorem mem_csetsL {S : List Int} {ps : List T} : S ∈ csetsL ps ↔ ∃ p ∈ ps, S ∈ csets p := by
  rw [csetsL_eq, List.mem_flatMap]
theorem mem_pairs {S : List Int} : ∀ {ps : List T}, S ∈ pairs ps ↔ ∃ x u v y, ps = x ++ u :: v :: y ∧ S = isort (lst u ++ lst v)
  | [] => by
    refine ⟨fun h => (nomatch h), ?_⟩
    rintro ⟨x, u, v, y, e, _⟩
    exact absurd e.symm (by simp)
  | [a] => by
    refine ⟨fun h => (nomatch h), ?_⟩
    rintro ⟨x, u, v, y, e, _⟩
    cases x with
    | nil => cases e
    | cons c x => cases x <;> cases e
  | a :: b :: r => by
    have ih := mem_pairs (S := S) (ps := b :: r)
    unfold pairs
    rw [List.mem_cons, ih]
    constructor
    · rintro (rfl | ⟨x, u, v, y, e, h⟩)
      · exact ⟨[], a, b, r, rfl, rfl⟩
      · exact ⟨a :: x, u, v, y, by rw [e]; rfl, h⟩
    · rintro ⟨x, u, v, y, e, h⟩
      cases x with
      | nil => cases e; exact .inl h
      | cons c x =>
        rw [List.cons_append] at e
        obtain ⟨_, e2⟩ := List.cons.inj e
        exact .inr ⟨x, u, v, y, e2, h⟩
theorem csets_sub : ∀ (t : T) (S : List Int), S ∈ csets t → ∀ x ∈ S, x ∈ lst t := by
  intro t
  induction t using T.ind with
  | h1 i => intro S h; rw [csets_th] at h; cases h
  | h2 b ps ih =>
    intro S h x hx
    rw [lst_nd]
    have kids : S ∈ csetsL ps → x ∈ lstL ps := fun h => by
      obtain ⟨p, hp, h⟩ := mem_csetsL.mp h
      exact mem_lstL.mpr ⟨p, hp, ih p hp S h x hx⟩
    cases b with
    | false =>
      rw [csets_any] at h
      rcases List.mem_cons.mp h with rfl | h
      · exact mem_isort.mp hx
      · exact kids h
    | true =>
      rw [csets_row] at h
      rcases List.mem_append.mp h with h | h
      · obtain ⟨xs, u, v, ys, rfl, rfl⟩ := mem_pairs.mp h
        rw [mem_isort] at hx
        rcases List.mem_append.mp hx with hx | hx
        · exact mem_lstL.mpr ⟨u, by simp, hx⟩
        · exact mem_lstL.mpr ⟨v, by simp, hx⟩
      · exact kids h
/-! ### standing together, by what stands between -/
theorem Tog.between {S o : List Int} (h : Tog S o) {p q : List Int} {y : Int} (e : o = p ++ y :: q) (hy : y ∉ S) : NoS S p ∨ NoS S q := by
  subst e
  refine Classical.byContradiction fun hc => ?_
  have hp : Has S p := by rw [← not_no]; exact fun h => hc (.inl h)
  have hq : Has S q := by rw [← not_no]; exact fun h => hc (.inr h)
  have hr := run_of_tog h
  rw [run_append, run_cons] at hr
  have q1 := run0_has hp
  have q2 := (run_mono S p 0 (by omega)).2
  generalize run S 0 p = s at *
  rw [stp_out hy, if_neg (by omega)] at hr
  split at hr
  · rw [run2_has hq] at hr; omega
  · rw [run3] at hr; omega
theorem tog_of_between {S : List Int} : ∀ {o : List Int}, (∀ p y q, o = p ++ y :: q → y ∉ S → NoS S p ∨ NoS S q) → Tog S o
  | [], _ => ⟨[], [], [], rfl, fun x hx => by simp at hx, fun x hx => by simp at hx, fun x hx => by simp at hx⟩
  | x :: r, h => by
    by_cases hx : x ∈ S
    · have e : x :: r = [] ++ ((x :: r.takeWhile fun z => decide (z ∈ S)) ++ r.dropWhile fun z => decide (z ∈ S)) := by
        simp [List.takeWhile_append_dropWhile]
      have memTake : ∀ {l : List Int} {z : Int}, z ∈ l.takeWhile (fun z => decide (z ∈ S)) → z ∈ S := by
        intro l
        induction l with
        | nil => intro z hz; cases hz
        | cons a l ih =>
          intro z hz
          rw [List.takeWhile_cons] at hz
          split at hz
          · rename_i ha
            rcases List.mem_cons.mp hz with rfl | hz
            · simpa using ha
            · exact ih hz
          · cases hz
      have headDrop : ∀ {l : List Int} {z : Int} {q : List Int}, l.dropWhile (fun z => decide (z ∈ S)) = z :: q → z ∉ S := by
        intro l
        induction l with
        | nil => intro z q hz; cases hz
        | cons a l ih =>
          intro z q hz
          rw [List.dropWhile_cons] at hz
          split at hz
          · exact ih hz
          · rename_i ha
            cases hz
            simpa using ha
      refine ⟨[], _, _, e, fun y hy => by simp at hy, fun y hy => ?_, ?_⟩
      · rcases List.mem_cons.mp hy with rfl | hy
        · exact hx
        · exact memTake hy
      · cases hd : r.dropWhile fun z => decide (z ∈ S) with
        | nil => intro y hy; simp at hy
        | cons y q =>
          have hy := headDrop hd
          rw [hd, List.nil_append] at e
          rcases h _ y q e hy with h1 | h1
          · exact absurd hx (h1 x (by simp))
          · intro z hz
            rcases List.mem_cons.mp hz with rfl | hz
            · exact hy
            · exact h1 z hz
    · obtain ⟨a, b, c, e, h1, h2, h3⟩ := tog_of_between (S := S) (o := r) fun p y q e hy => by
        rcases h (x :: p) y q (by rw [e]; rfl) hy with h1 | h1
        · exact .inl fun z hz => h1 z (by simp [hz])
        · exact .inr h1
      subst e
      refine ⟨x :: a, b, c, rfl, fun y hy => ?_, h2, h3⟩
      rcases List.mem_cons.mp hy with rfl | hy
      · exact hx
      · exact h1 y hy
theorem Tog.inner {S x a y : List Int} (h : Tog S (x ++ (a ++ y))) : Tog S a := by
  refine tog_of_between fun p z q e hz => ?_
  subst e
  rcases h.between (p := x ++ p) (q := q ++ y) (y := z) (by simp) hz with h1 | h1
  · exact .inl fun w hw => h1 w (by simp [hw])
  · exact .inr fun w hw => h1 w (by simp [hw])
theorem Tog.congr {S S' o : List Int} (h : Tog S o) (e : ∀ x, x ∈ S ↔ x ∈ S') : Tog S' o := by
  obtain ⟨a, b, c, rfl, h1, h2, h3⟩ := h
  exact ⟨a, b, c, rfl, fun x hx hs => h1 x hx ((e x).mpr hs), fun x hx => (e x).mp (h2 x hx), fun x hx hs => h3 x hx ((e x).mpr hs)⟩
theorem Tog.pad {S a o c : List Int} (h : Tog S o) (ha : NoS S a) (hc : NoS S c) : Tog S (a ++ (o ++ c)) := by
  obtain ⟨x, y, z, rfl, h1, h2, h3⟩ := h
  exact ⟨a ++ x, y, z ++ c, by simp, ha.app h1, h2, h3.app hc⟩
theorem Tog.union {A B o : List Int} (h1 : Tog A o) (h2 : Tog B o) {x : Int} (hx : x ∈ o) (ha : x ∈ A) (hb : x ∈ B) : Tog (A ++ B) o := by
  refine tog_of_between fun p y q e hy => ?_
  have hyA : y ∉ A := fun h => hy (by simp [h])
  have hyB : y ∉ B := fun h => hy (by simp [h])
  have both : ∀ z : List Int, NoS A z → NoS B z → NoS (A ++ B) z := fun z g1 g2 w hw hw2 => by
    rcases List.mem_append.mp hw2 with h | h
    · exact g1 w hw h
    · exact g2 w hw h
  rw [e] at hx
  rcases List.mem_append.mp hx with hx | hx
  · rcases h1.between e hyA with g1 | g1
    · exact absurd ha (g1 x hx)
    · rcases h2.between e hyB with g2 | g2
      · exact absurd hb (g2 x hx)
      · exact .inr (both q g1 g2)
  · rcases List.mem_cons.mp hx with rfl | hx
    · exact absurd ha hyA
    · rcases h1.between e hyA with g1 | g1
      · rcases h2.between e hyB with g2 | g2
        · exact .inl (both p g1 g2)
        · exact absurd hb (g2 x hx)
      · exact absurd ha (g1 x hx)
theorem tog_one {o : List Int} (hn : o.Nodup) (i : Int) : Tog [i] o := by
  by_cases h : i ∈ o
  · obtain ⟨a, b, rfl⟩ := List.append_of_mem h
    have hn2 := (List.perm_middle (a := i) (l₁ := a) (l₂ := b)).nodup_iff.mp hn
    have h1 := (List.nodup_cons.mp hn2).1
    refine ⟨a, [i], b, rfl, fun x hx hs => ?_, fun x hx => hx, fun x hx hs => ?_⟩
    · rw [List.mem_singleton.mp hs] at hx; exact h1 (by simp [hx])
    · rw [List.mem_singleton.mp hs] at hx; exact h1 (by simp [hx])
  · refine ⟨o, [], [], by simp, fun x hx hs => ?_, fun x hx => by simp at hx, fun x hx => by simp at hx⟩
    rw [List.mem_singleton.mp hs] at hx; exact h hx
theorem tog_short {o : List Int} (hn : o.Nodup) {S : List Int} (h : S.length < 2) : Tog S o := by
  match S, h with
  | [], _ => exact ⟨o, [], [], by simp, fun x _ hs => by simp at hs, fun x hx => by simp at hx, fun x hx => by simp at hx⟩
  | [i], _ => exact tog_one hn i
/-! ### told orders keep all sets of the tree -/
theorem togs_FrL {ps : List T} (hn : (lstL ps).Nodup) (ih : ∀ p ∈ ps, ∀ S ∈ csets p, ∀ o, Fr p o → Tog S o) {S : List Int} (hS : S ∈ csetsL ps) {o : List Int} (h : FrL ps o) : Tog S o := by
  obtain ⟨p, hp, hSp⟩ := mem_csetsL.mp hS
  have hi := ih p hp S hSp
  obtain ⟨x, y, rfl⟩ := List.append_of_mem hp
  obtain ⟨a, b, rfl, ha, hb⟩ := FrL_append.mp h
  obtain ⟨c, d, rfl, hc, hd⟩ := FrL_cons.mp hb
  rw [lstL_append, lstL_cons] at hn
  obtain ⟨_, h2, h3⟩ := List.nodup_append.mp hn
  obtain ⟨_, _, h4⟩ := List.nodup_append.mp h2
  refine (hi c hc).pad (fun z hz hs => ?_) (fun z hz hs => ?_)
  · exact h3 z ((FrL_perm ha).mem_iff.mp hz) z (by simp [csets_sub p S hSp z hs]) rfl
  · exact h4 z (csets_sub p S hSp z hs) z ((FrL_perm hd).mem_iff.mp hz) rfl
theorem togs_of_Fr : ∀ t : T, (lst t).Nodup → ∀ S ∈ csets t, ∀ o, Fr t o → Tog S o := by
  intro t
  induction t using T.ind with
  | h1 i => intro _ S h; rw [csets_th] at h; cases h
  | h2 b ps ih =>
    intro hn S hS o h
    rw [lst_nd] at hn
    have ih' : ∀ p ∈ ps, ∀ S ∈ csets p, ∀ o, Fr p o → Tog S o := fun p hp => ih p hp (kid_nodup hn hp)
    cases b with
    | false =>
      rw [csets_any] at hS
      obtain ⟨qs, hq, h⟩ := Fr_any.mp h
      rcases List.mem_cons.mp hS with rfl | hS
      · refine ⟨[], o, [], by simp, fun x hx => by simp at hx, fun x hx => ?_, fun x hx => by simp at hx⟩
        exact mem_isort.mpr ((lstL_perm hq).mem_iff.mp ((FrL_perm h).mem_iff.mp hx))
      · refine togs_FrL ((lstL_perm hq).nodup_iff.mpr hn) (fun p hp => ih' p (hq.mem_iff.mp hp)) ?_ h
        obtain ⟨p, hp, hS⟩ := mem_csetsL.mp hS
        exact mem_csetsL.mpr ⟨p, hq.mem_iff.mpr hp, hS⟩
    | true =>
      have one : ∀ o, FrL ps o → Tog S o := by
        intro o h
        rw [csets_row] at hS
        rcases List.mem_append.mp hS with hS | hS
        · obtain ⟨xs, u, v, ys, rfl, rfl⟩ := mem_pairs.mp hS
          exact (tog_two hn h).congr fun x => mem_isort.symm
        · exact togs_FrL hn ih' hS h
      rcases Fr_row.mp h with h | h
      · exact one o h
      · have := (one _ (FrL_rev_iff'.mp h)).rev
        rwa [List.reverse_reverse] at this
/-! ### orders that keep all sets are told -/
theorem chain_tog {o : List Int} : ∀ {ps : List T} {a : T}, WfL (a :: ps) → ps ≠ [] → (∀ x ∈ lstL (a :: ps), x ∈ o) → (∀ S ∈ pairs (a :: ps), Tog S o) → Tog (lstL (a :: ps)) o
  | [], _, _, h, _, _ => absurd rfl h
  | [b], a, _, _, _, h => by
    have := h (isort (lst a ++ lst b)) (by simp [pairs])
    exact this.congr fun x => by rw [mem_isort]; simp [lstL]
  | b :: c :: r, a, hw, _, ho, h => by
    have ih := chain_tog (o := o) (ps := c :: r) (a := b) (fun p hp => hw p (by simp [hp])) (by simp) (fun x hx => ho x (by rw [lstL_cons]; exact List.mem_append.mpr (.inr hx)))
      (fun S hS => h S (by unfold pairs; exact List.mem_cons_of_mem _ hS))
    have h1 := h (isort (lst a ++ lst b)) (by simp [pairs])
    have hl := least_mem (hw b (by simp))
    have hlo : least b ∈ o := ho _ (by rw [lstL_cons, lstL_cons]; simp [hl])
    refine (h1.union ih hlo (mem_isort.mpr (by simp [hl])) (by rw [lstL_cons]; simp [hl])).congr fun x => ?_
    rw [List.mem_append, mem_isort, lstL_cons a, lstL_cons b, List.mem_append, List.mem_append (s := lst b), List.mem_append (s := lst a), List.mem_append (s := lst b)]
    constructor
    · rintro ((h | h) | h | h)
      · exact .inl h
      · exact .inr (.inl h)
      · exact .inr (.inl h)
      · exact .inr (.inr h)
    · rintro (h | h | h)
      · exact .inl (.inl h)
      · exact .inl (.inr h)
      · exact .inr (.inr h)
theorem kid_tog {t : T} {o : List Int} (hw : wf t) (hn : o.Nodup) (ho : ∀ x ∈ lst t, x ∈ o) (h : ∀ S ∈ csets t, Tog S o) : Tog (lst t) o := by
  cases t with
  | th i => rw [lst_th]; exact tog_one hn i
  | nd b ps =>
    rw [lst_nd] at ho ⊢
    cases b with
    | false =>
      rw [csets_any] at h
      exact (h _ (by simp)).congr fun x => mem_isort
    | true =>
      obtain ⟨h2, h3, hk⟩ := wf_nd.mp hw
      rw [csets_row] at h
      match ps, h2 with
      | a :: b :: r, _ => exact chain_tog hk (by simp) ho fun S hS => h S (by simp [hS])
def Bl : List T → List Int → Prop
  | [], o => o = []
  | q :: r, o => ∃ a b, o = a ++ b ∧ a.Perm (lst q) ∧ Bl r b
theorem blocks : ∀ (n : Nat) (ps : List T) (o : List Int), ps.length = n → WfL ps → o.Nodup → o.Perm (lstL ps) → (∀ p ∈ ps, Tog (lst p) o) → ∃ qs, qs.Perm ps ∧ Bl qs o
  | 0, ps, o, hl, _, _, hp, _ => by
    rw [List.length_eq_zero_iff] at hl
    subst hl
    exact ⟨[], .refl _, hp.eq_nil⟩
  | n + 1, ps, o, hl, hw, hn, hp, ht => by
    cases o with
    | nil =>
      exfalso
      have := hp.symm.eq_nil
      cases ps with
      | nil => simp at hl
      | cons p r =>
        rw [lstL_cons] at this
        exact lst_ne p (hw p (by simp)) (List.append_eq_nil_iff.mp this).1
    | cons x r =>
      obtain ⟨p, hpp, hx⟩ := mem_lstL.mp (hp.mem_iff.mp (by simp : x ∈ x :: r))
      obtain ⟨a, b, c, e, h1, h2, h3⟩ := ht p hpp
      have ha : a = [] := by
        cases a with
        | nil => rfl
        | cons z a =>
          rw [List.cons_append] at e
          have := (List.cons.inj e).1
          subst this
          exact absurd hx (h1 x (by simp))
      subst ha
      rw [List.nil_append] at e
      rw [e] at hn hp ht
      obtain ⟨ps1, ep⟩ := perm_of_mem hpp
      have hpl := hp.trans (lstL_perm ep)
      rw [lstL_cons] at hpl
      have hnl := hpl.nodup_iff.mp hn
      obtain ⟨n1, n2, n3⟩ := List.nodup_append.mp hnl
      obtain ⟨m1, m2, m3⟩ := List.nodup_append.mp hn
      have hb : b.Perm (lst p) := by
        rw [List.perm_ext_iff_of_nodup m1 n1]
        intro y
        refine ⟨h2 y, fun hy => ?_⟩
        rcases List.mem_append.mp (hpl.mem_iff.mpr (by simp [hy] : y ∈ lst p ++ lstL ps1)) with h | h
        · exact h
        · exact absurd hy (h3 y h)
      have hc : c.Perm (lstL ps1) := by
        rw [List.perm_ext_iff_of_nodup m2 n2]
        intro y
        constructor
        · intro hy
          rcases List.mem_append.mp (hpl.mem_iff.mp (by simp [hy] : y ∈ b ++ c)) with h | h
          · exact absurd h (h3 y hy)
          · exact h
        · intro hy
          rcases List.mem_append.mp (hpl.mem_iff.mpr (by simp [hy] : y ∈ lst p ++ lstL ps1)) with h | h
          · exact absurd rfl (n3 y (h2 y h) y hy)
          · exact h
      have hlen : ps1.length = n := by
        have := ep.length_eq
        simp at this; omega
      obtain ⟨qs, hq, hB⟩ := blocks n ps1 c hlen (fun q hq => hw q (ep.mem_iff.mpr (by simp [hq]))) m2 hc fun q hq => by
        have := ht q (ep.mem_iff.mpr (by simp [hq]))
        have e2 : b ++ c = b ++ (c ++ []) := by simp
        rw [e2] at this
        exact this.inner
      exact ⟨p :: qs, (hq.cons p).trans ep.symm, b, c, e, hb, hB⟩
theorem FrL_of_Bl : ∀ {qs : List T} {x o : List Int}, (∀ q ∈ qs, ∀ a, a.Perm (lst q) → (∀ S ∈ csets q, Tog S a) → Fr q a) → (∀ q ∈ qs, ∀ S ∈ csets q, Tog S (x ++ o)) → Bl qs o → FrL qs o
  | [], x, o, _, _, h => by
    have h' : o = [] := h
    subst h'; exact .nil
  | q :: r, x, o, ih, ht, h => by
    obtain ⟨a, b, rfl, hp, hb⟩ := h
    refine FrL_cons.mpr ⟨a, b, rfl, ih q (by simp) a hp fun S hS => (ht q (by simp) S hS).inner, ?_⟩
    refine FrL_of_Bl (x := x ++ a) (fun p hp => ih p (by simp [hp])) (fun p hp S hS => ?_) hb
    rw [List.append_assoc]
    exact ht p (by simp [hp]) S hS
theorem split_uniq {α : Type} {a b c d : List α} {v : α} (hn : (a ++ v :: b).Nodup) (e : a ++ v :: b = c ++ v :: d) : a = c ∧ b = d := by
  rcases List.append_eq_append_iff.mp e with ⟨as, e1, e2⟩ | ⟨bs, e1, e2⟩
  · cases as with
    | nil => 
      rw [List.nil_append] at e2
      exact ⟨by rw [e1]; simp, (List.cons.inj e2).2⟩
    | cons z as =>
      exfalso
      rw [List.cons_append] at e2
      obtain ⟨rfl, e3⟩ := List.cons.inj e2
      have := (List.perm_middle (a := v) (l₁ := a) (l₂ := b)).nodup_iff.mp hn
      exact (List.nodup_cons.mp this).1 (by rw [e3]; simp)
  · cases bs with
    | nil =>
      rw [List.nil_append] at e2
      exact ⟨by rw [e1]; simp, (List.cons.inj e2).2.symm⟩
    | cons z bs =>
      exfalso
      rw [List.cons_append] at e2
      obtain ⟨rfl, e3⟩ := List.cons.inj e2
      have := (List.perm_middle (a := v) (l₁ := a) (l₂ := b)).nodup_iff.mp hn
      exact (List.nodup_cons.mp this).1 (by rw [e1]; simp)
def Adj (u v : T) (qs : List T) : Prop := ∃ x y, qs = x ++ u :: v :: y ∨ qs = x ++ v :: u :: y
theorem row_seq {qs : List T} (hq : qs.Nodup) : ∀ {ps : List T} {u : T}, (u :: ps).Nodup → (∀ x a b y, u :: ps = x ++ a :: b :: y → Adj a b qs) → u ∈ qs →
    ∃ x y, qs = x ++ ((u :: ps) ++ y) ∨ qs = x ++ ((u :: ps).reverse ++ y)
  | [], u, _, _, hu => by
    obtain ⟨x, y, e⟩ := List.append_of_mem hu
    exact ⟨x, y, .inl e⟩
  | v :: r, u, hn, ha, _ => by
    have hn2 := (List.nodup_cons.mp hn).2
    have hnu := (List.nodup_cons.mp hn).1
    obtain ⟨x, y, hxy⟩ := ha [] u v r rfl
    have hv : v ∈ qs := by rcases hxy with e | e <;> rw [e] <;> simp
    obtain ⟨a, b, hab⟩ := row_seq hq hn2 (fun x' a b y' e => ha (u :: x') a b y' (by rw [e]; rfl)) hv
    rcases hab with e | e
    · have e' : qs = a ++ v :: (r ++ b) := e
      rcases hxy with h | h
      · have h' : qs = (x ++ [u]) ++ v :: y := by rw [h]; simp
        obtain ⟨e1, e2⟩ := split_uniq (e' ▸ hq) (e'.symm.trans h')
        refine ⟨x, b, .inl ?_⟩
        rw [e', e1]; simp
      · obtain ⟨e1, e2⟩ := split_uniq (e' ▸ hq) (e'.symm.trans h)
        cases r with
        | nil =>
          rw [List.nil_append] at e2
          refine ⟨a, y, .inr ?_⟩
          rw [e', List.nil_append, e2]; simp
        | cons z r =>
          rw [List.cons_append] at e2
          have := (List.cons.inj e2).1
          subst this
          exact absurd (by simp) hnu
    · have e' : qs = (a ++ r.reverse) ++ v :: b := by rw [e]; simp
      rcases hxy with h | h
      · have h' : qs = (x ++ [u]) ++ v :: y := by rw [h]; simp
        obtain ⟨e1, e2⟩ := split_uniq (e' ▸ hq) (e'.symm.trans h')
        cases r with
        | nil =>
          rw [List.reverse_nil, List.append_nil] at e1
          refine ⟨x, b, .inl ?_⟩
          rw [e', List.reverse_nil, List.append_nil, e1]; simp
        | cons z r =>
          rw [List.reverse_cons, ← List.append_assoc] at e1
          obtain ⟨_, e3⟩ := List.append_inj' e1 rfl
          have := (List.cons.inj e3).1
          subst this
          exact absurd (by simp) hnu
      · obtain ⟨e1, e2⟩ := split_uniq (e' ▸ hq) (e'.symm.trans h)
        refine ⟨a, y, .inr ?_⟩
        rw [e', e2]; simp
theorem adj_of_tog {qs : List T} {u v : T} {o : List Int} (hw : WfL qs) (hn : (lstL qs).Nodup) (h : FrL qs o) (hu : u ∈ qs) (hv : v ∈ qs) (huv : u ≠ v) (ht : Tog (lst u ++ lst v) o) : Adj u v qs := by
  -- one ahead of the other
  have key : ∀ i j : T, i ∈ qs → j ∈ qs → i ≠ j → Tog (lst i ++ lst j) o → ∀ x y z, qs = x ++ i :: (y ++ j :: z) → y = [] := by
    intro i j hi hj hij ht x y z e
    cases y with
    | nil => rfl
    | cons w y =>
      exfalso
      have hw' : w ∈ qs := by rw [e]; simp
      have nd := kids_nodup hn hw
      have nd' := nd
      rw [e] at nd'
      have hwi : w ≠ i := by
        rintro rfl
        have := (List.nodup_append.mp nd').2.1
        exact (List.nodup_cons.mp this).1 (by simp)
      have hwj : w ≠ j := by
        rintro rfl
        have := (List.nodup_append.mp nd').2.1
        have := (List.nodup_cons.mp this).2
        rw [List.cons_append] at this
        exact (List.nodup_cons.mp this).1 (by simp)
      rw [e] at h
      obtain ⟨a, b, rfl, ha, hb⟩ := FrL_append.mp h
      obtain ⟨c, d, rfl, hc, hd⟩ := FrL_cons.mp hb
      rw [List.cons_append] at hd
      obtain ⟨f, g, rfl, hf, hg⟩ := FrL_cons.mp hd
      have hfne := Fr_ne (hw w hw') hf
      obtain ⟨s, f', rfl⟩ : ∃ s f', f = s :: f' := by
        cases f with
        | nil => exact absurd rfl hfne
        | cons s f' => exact ⟨s, f', rfl⟩
      have hs : s ∈ lst w := (Fr_perm w _ hf).mem_iff.mp (by simp)
      have hsn : s ∉ lst i ++ lst j := fun hm => by
        rcases List.mem_append.mp hm with hm | hm
        · exact hwi (kid_eq hn hw' hi hs hm)
        · exact hwj (kid_eq hn hw' hj hs hm)
      have li := least_mem (hw i hi)
      have lj := least_mem (hw j hj)
      have hci : least i ∈ c := (Fr_perm i c hc).mem_iff.mpr li
      have hgj : least j ∈ g := (FrL_perm hg).mem_iff.mpr (mem_lstL.mpr ⟨j, by simp, lj⟩)
      rcases ht.between (p := a ++ c) (y := s) (q := f' ++ g) (by simp) hsn with h1 | h1
      · exact h1 (least i) (by simp [hci]) (by simp [li])
      · exact h1 (least j) (by simp [hgj]) (by simp [lj])
  obtain ⟨x, y, e⟩ := List.append_of_mem hu
  rw [e] at hv
  rcases List.mem_append.mp hv with h1 | h1
  · obtain ⟨x1, x2, rfl⟩ := List.append_of_mem h1
    have e2 : qs = x1 ++ v :: (x2 ++ u :: y) := by rw [e]; simp
    have ht' : Tog (lst v ++ lst u) o := ht.congr fun z => by simp only [List.mem_append]; exact Or.comm
    have := key v u (by rw [e]; exact hv) hu (fun h => huv h.symm) ht' x1 x2 y e2
    subst this
    exact ⟨x1, y, .inr (by rw [e]; simp)⟩
  · rcases List.mem_cons.mp h1 with h1 | h1
    · exact absurd h1.symm huv
    · obtain ⟨y1, y2, rfl⟩ := List.append_of_mem h1
      have := key u v hu (by rw [e]; exact hv) huv ht x y1 y2 e
      subst this
      exact ⟨x, y2, .inl e⟩
theorem Fr_of_togs : ∀ t : T, wf t → (lst t).Nodup → ∀ o, o.Perm (lst t) → (∀ S ∈ csets t, Tog S o) → Fr t o := by
  intro t
  induction t using T.ind with
  | h1 i =>
    intro _ _ o hp _
    rw [lst_th] at hp
    rw [List.perm_singleton.mp hp]
    exact .th i
  | h2 b ps ih =>
    intro hw0 hn o hp ht
    obtain ⟨h2, h3, hw⟩ := wf_nd.mp hw0
    rw [lst_nd] at hn hp
    have hon : o.Nodup := hp.nodup_iff.mpr hn
    have hkids : ∀ p ∈ ps, ∀ S ∈ csets p, Tog S o := by
      intro p hpp S hS
      have : S ∈ csetsL ps := mem_csetsL.mpr ⟨p, hpp, hS⟩
      cases b with
      | false => exact ht S (by rw [csets_any]; simp [this])
      | true => exact ht S (by rw [csets_row]; simp [this])
    have hkt : ∀ p ∈ ps, Tog (lst p) o := fun p hpp =>
      kid_tog (hw p hpp) hon (fun x hx => hp.mem_iff.mpr (mem_lstL.mpr ⟨p, hpp, hx⟩)) (hkids p hpp)
    obtain ⟨qs, hq, hB⟩ := blocks ps.length ps o rfl hw hon hp hkt
    have hF : FrL qs o := by
      refine FrL_of_Bl (x := []) (fun q hqq a ha hS => ?_) (fun q hqq S hS => hkids q (hq.mem_iff.mp hqq) S hS) hB
      exact ih q (hq.mem_iff.mp hqq) (hw q (hq.mem_iff.mp hqq)) (kid_nodup hn (hq.mem_iff.mp hqq)) a ha hS
    cases b with
    | false => exact .any hq hF
    | true =>
      have hwq : WfL qs := Wf_perm hq hw
      have hnq : (lstL qs).Nodup := (lstL_perm hq).nodup_iff.mpr hn
      have ndp := kids_nodup hn hw
      have adj : ∀ x a b y, ps = x ++ a :: b :: y → Adj a b qs := by
        intro x a b y e
        have hS := ht (isort (lst a ++ lst b)) (by
          rw [csets_row]
          exact List.mem_append.mpr (.inl (mem_pairs.mpr ⟨x, a, b, y, e, rfl⟩)))
        have hab : a ≠ b := by
          rintro rfl
          rw [e] at ndp
          have := (List.nodup_append.mp ndp).2.1
          exact (List.nodup_cons.mp this).1 (by simp)
        refine adj_of_tog hwq hnq hF (hq.mem_iff.mpr (by rw [e]; simp)) (hq.mem_iff.mpr (by rw [e]; simp)) hab (hS.congr fun x => mem_isort)
      match ps, h2 with
      | u :: ps, _ =>
        obtain ⟨x, y, hxy⟩ := row_seq (kids_nodup hnq hwq) ndp adj (hq.mem_iff.mpr (by simp))
        have hl := hq.length_eq
        rcases hxy with e | e
        · rw [e] at hl
          simp only [List.length_append, List.length_cons] at hl
          have hx : x = [] := List.length_eq_zero_iff.mp (by omega)
          have hy : y = [] := List.length_eq_zero_iff.mp (by omega)
          subst hx; subst hy
          rw [List.nil_append, List.append_nil] at e
          rw [e] at hF
          exact .row hF
        · rw [e] at hl
          simp only [List.length_append, List.length_cons, List.length_reverse] at hl
          have hx : x = [] := List.length_eq_zero_iff.mp (by omega)
          have hy : y = [] := List.length_eq_zero_iff.mp (by omega)
          subst hx; subst hy
          rw [List.nil_append, List.append_nil] at e
          rw [e] at hF
          exact .wor hF
end PQ
namespace PQ
/-! ### reduced by sets in turn -/
noncomputable def reducedBy (S : List Int) (t : T) : Option T := if S.length < 2 then some (norm t) else (joined S t).map norm
noncomputable def redAll : T → List (List Int) → Option T
  | t, [] => some t
  | t, S :: r => match reducedBy S t with
    | some t' => redAll t' r
    | none => none
theorem redAll_cons {S : List Int} {r : List (List Int)} {t : T} : redAll t (S :: r) = (match reducedBy S t with
    | some t' => redAll t' r
    | none => none) := by rw [redAll]
def rng (n : Nat) : List Int := (List.range n).map fun k : Nat => (k : Int)
def plain (n : Nat) : T := mkAny ((rng n).map T.th)
structure Good (n : Nat) (t : T) : Prop where
  wf : wf t
  perm : (lst t).Perm (rng n)
  nf : Nf t
theorem rng_nodup (n : Nat) : (rng n).Nodup := by
  unfold rng
  rw [List.Nodup, List.pairwise_map]
  exact List.nodup_range.imp fun h h2 => h (Int.ofNat.inj h2)
theorem rng_sorted (n : Nat) : (rng n).Pairwise (· < ·) := by
  unfold rng
  rw [List.pairwise_map]
  exact List.pairwise_lt_range.imp fun h => Int.ofNat_lt.mpr h
theorem mem_rng {n : Nat} {x : Int} : x ∈ rng n ↔ 0 ≤ x ∧ x < n := by
  unfold rng
  simp only [List.mem_map, List.mem_range]
  constructor
  · rintro ⟨k, hk, rfl⟩; omega
  · rintro ⟨h1, h2⟩; exact ⟨x.toNat, by omega, by omega⟩
theorem length_rng (n : Nat) : (rng n).length = n := by unfold rng; simp
theorem Good.nodup {n : Nat} {t : T} (g : Good n t) : (lst t).Nodup := g.perm.nodup_iff.mpr (rng_nodup n)
theorem Good.norm {n : Nat} {t : T} (g : Good n t) : norm t = t := norm_idem g.wf g.nodup g.nf
theorem Good.uniq {n : Nat} {s t : T} (g : Good n s) (h : Good n t) (e : ∀ o, Fr s o ↔ Fr t o) : s = t := PQ.uniq s t g.wf h.wf g.nodup g.nf h.nf e
theorem norm_good {n : Nat} {t : T} (hw : PQ.wf t) (hp : (lst t).Perm (rng n)) : Good n (PQ.norm t) :=
  ⟨wf_norm t hw, (lst_norm t).trans hp, norm_nf t hw (hp.nodup_iff.mpr (rng_nodup n))⟩
theorem lstL_map_th : ∀ l : List Int, lstL (l.map T.th) = l
  | [] => rfl
  | a :: l => by rw [List.map_cons, lstL_cons, lst_th, lstL_map_th l]; rfl
theorem lst_plain (n : Nat) : lst (plain n) = rng n := by
  unfold plain; rw [lst_mkAny, lstL_map_th]
theorem plain_good {n : Nat} (h : 1 ≤ n) : Good n (plain n) := by
  have hne : (rng n).map T.th ≠ [] := by
    intro e
    have := congrArg List.length e
    rw [List.length_map, length_rng] at this
    simp at this; omega
  have hw : WfL ((rng n).map T.th) := fun p hp => by
    obtain ⟨i, _, rfl⟩ := List.mem_map.mp hp
    exact wf_th i
  refine ⟨wf_mkAny hne hw, by rw [lst_plain], ?_⟩
  have hs : ((rng n).map T.th).Pairwise fun a b => least a < least b := by
    rw [List.pairwise_map]
    exact (rng_sorted n).imp fun h => by simpa [least, lst, lmin] using h
  have hk : ∀ p ∈ (rng n).map T.th, Nf p := fun p hp => by
    obtain ⟨i, _, rfl⟩ := List.mem_map.mp hp
    simp [Nf]
  unfold plain mkAny
  split
  · rename_i p e
    exact hk p (by rw [e]; simp)
  · exact Nf_any.mpr ⟨hs, hk⟩
theorem reducedBy_spec {n : Nat} {t : T} (hw : wf t) (hp : (lst t).Perm (rng n)) {S : List Int} (hS : ∀ x ∈ S, x ∈ rng n) :
    match reducedBy S t with
    | some t' => Good n t' ∧ ∀ o, Fr t' o ↔ Fr t o ∧ Tog S o
    | none => ∀ o, ¬ (Fr t o ∧ Tog S o) := by
  have hn : (lst t).Nodup := hp.nodup_iff.mpr (rng_nodup n)
  unfold reducedBy
  by_cases hl : S.length < 2
  · rw [if_pos hl]
    refine ⟨norm_good hw hp, fun o => ?_⟩
    rw [Fr_norm]
    exact ⟨fun h => ⟨h, tog_short ((Fr_perm t o h).nodup_iff.mpr hn) hl⟩, fun h => h.1⟩
  · rw [if_neg hl]
    have hh : Has S (lst t) := by
      match S, hl with
      | [], hl => exact absurd (by simp) hl
      | x :: r, _ => exact ⟨x, hp.mem_iff.mpr (hS x (by simp)), by simp⟩
    have := joined_is S t hw hh
    cases e : joined S t with
    | none =>
      rw [e] at this
      intro o ho
      exact this o ⟨ho.1, run_of_tog ho.2⟩
    | some t' =>
      rw [e] at this
      have this' : ∀ o, Fr t' o ↔ (Fr t o ∧ run S 0 o ≤ 2) := this
      refine ⟨norm_good (joined_wf S t hw hh t' e) ((joined_perm hw hh e).trans hp), fun o => ?_⟩
      rw [Fr_norm, this', tog_iff]
theorem redAll_spec {n : Nat} : ∀ {ss : List (List Int)} {t : T}, Good n t → (∀ S ∈ ss, ∀ x ∈ S, x ∈ rng n) →
    match redAll t ss with
    | some t' => Good n t' ∧ ∀ o, Fr t' o ↔ Fr t o ∧ ∀ S ∈ ss, Tog S o
    | none => ∀ o, ¬ (Fr t o ∧ ∀ S ∈ ss, Tog S o)
  | [], t, g, _ => ⟨g, fun o => by simp⟩
  | S :: r, t, g, hs => by
    have h1 := reducedBy_spec g.wf g.perm (hs S (by simp))
    unfold redAll
    cases e : reducedBy S t with
    | none =>
      rw [e] at h1
      intro o ho
      exact h1 o ⟨ho.1, ho.2 S (by simp)⟩
    | some t' =>
      rw [e] at h1
      have h2 := redAll_spec (ss := r) h1.1 fun S' hS' => hs S' (by simp [hS'])
      show match redAll t' r with
        | some t' => Good n t' ∧ ∀ o, Fr t' o ↔ Fr t o ∧ ∀ S_1 ∈ S :: r, Tog S_1 o
        | none => ∀ o, ¬ (Fr t o ∧ ∀ S_1 ∈ S :: r, Tog S_1 o)
      have key : ∀ o, (Fr t' o ∧ ∀ S' ∈ r, Tog S' o) ↔ (Fr t o ∧ ∀ S' ∈ S :: r, Tog S' o) := fun o => by
        rw [h1.2]
        constructor
        · rintro ⟨⟨h3, h4⟩, h5⟩
          refine ⟨h3, fun S' hS' => ?_⟩
          rcases List.mem_cons.mp hS' with rfl | hS'
          · exact h4
          · exact h5 S' hS'
        · rintro ⟨h3, h4⟩
          exact ⟨⟨h3, h4 S (by simp)⟩, fun S' hS' => h4 S' (by simp [hS'])⟩
      cases e2 : redAll t' r with
      | none =>
        rw [e2] at h2
        intro o ho
        exact h2 o ((key o).mpr ho)
      | some t'' =>
        rw [e2] at h2
        exact ⟨h2.1, fun o => by rw [h2.2, key]⟩
theorem redAll_append : ∀ {xs ys : List (List Int)} {t : T}, redAll t (xs ++ ys) = (redAll t xs).bind fun t' => redAll t' ys
  | [], ys, t => rfl
  | S :: r, ys, t => by
    rw [List.cons_append, redAll_cons, redAll_cons]
    cases reducedBy S t with
    | none => rfl
    | some t' => exact redAll_append
theorem redAll_one {S : List Int} {t : T} : redAll t [S] = reducedBy S t := by
  unfold redAll
  cases reducedBy S t with
  | none => rfl
  | some t' => rfl
noncomputable def treeOf (n : Nat) (ss : List (List Int)) : Option T := redAll (plain n) ss
def VS (n : Nat) (ss : List (List Int)) : Prop := ∀ S ∈ ss, ∀ x ∈ S, x ∈ rng n
theorem VS.app {n : Nat} {a b : List (List Int)} (h1 : VS n a) (h2 : VS n b) : VS n (a ++ b) := fun S hS => by
  rcases List.mem_append.mp hS with h | h
  · exact h1 S h
  · exact h2 S h
/-- two tables that the same orders fit have the same tree -/
theorem treeOf_same {n : Nat} (h1 : 1 ≤ n) {s t : T} {xs ys : List (List Int)} (gs : Good n s) (gt : Good n t) (hx : VS n xs) (hy : VS n ys) (e : ∀ o, (Fr s o ∧ ∀ S ∈ xs, Tog S o) ↔ (Fr t o ∧ ∀ S ∈ ys, Tog S o)) : redAll s xs = redAll t ys := by
  have a := redAll_spec gs hx
  have b := redAll_spec gt hy
  cases ea : redAll s xs with
  | none =>
    rw [ea] at a
    cases eb : redAll t ys with
    | none => rfl
    | some v =>
      rw [eb] at b
      exact (a _ ((e _).mpr ((b.2 _).mp (Fr_some v)))).elim
  | some u =>
    rw [ea] at a
    cases eb : redAll t ys with
    | none =>
      rw [eb] at b
      exact (b _ ((e _).mp ((a.2 _).mp (Fr_some u)))).elim
    | some v =>
      rw [eb] at b
      rw [a.1.uniq b.1 fun o => by rw [a.2, b.2, e]]
theorem csets_rng {n : Nat} {g : T} (hg : Good n g) {ss : List (List Int)} (hs : ∀ S, S ∈ ss ↔ S ∈ csets g) : VS n ss := fun S hS x hx => hg.perm.mem_iff.mp (csets_sub g S ((hs S).mp hS) x hx)
/-- the common tree -/
theorem common_is {n : Nat} (h1 : 1 ≤ n) {one two : List (List Int)} (v1 : VS n one) (v2 : VS n two) {f g : T} (ef : treeOf n one = some f) (eg : treeOf n two = some g) {ss : List (List Int)} (hs : ∀ S, S ∈ ss ↔ S ∈ csets g) :
    redAll (norm f) ss = treeOf n (one ++ two) := by
  have a := redAll_spec (plain_good h1) v1
  have b := redAll_spec (plain_good h1) v2
  unfold treeOf at ef eg
  rw [ef] at a
  rw [eg] at b
  rw [a.1.norm]
  refine treeOf_same h1 a.1 (plain_good h1) (csets_rng b.1 hs) (v1.app v2) fun o => ?_
  rw [a.2]
  have hg : (Fr (plain n) o ∧ ∀ S ∈ ss, Tog S o) ↔ Fr g o := by
    constructor
    · rintro ⟨h2, h3⟩
      refine Fr_of_togs g b.1.wf b.1.nodup o ?_ fun S hS => h3 S ((hs S).mpr hS)
      have := Fr_perm _ _ h2
      rw [lst_plain] at this
      exact this.trans b.1.perm.symm
    · intro h
      exact ⟨((b.2 o).mp h).1, fun S hS => togs_of_Fr g b.1.nodup S ((hs S).mp hS) o h⟩
  constructor
  · rintro ⟨⟨h2, h3⟩, h4⟩
    have := (b.2 o).mp (hg.mp ⟨h2, h4⟩)
    refine ⟨h2, fun S hS => ?_⟩
    rcases List.mem_append.mp hS with h | h
    · exact h3 S h
    · exact this.2 S h
  · rintro ⟨h2, h3⟩
    refine ⟨⟨h2, fun S hS => h3 S (by simp [hS])⟩, (hg.mpr ((b.2 o).mpr ⟨h2, fun S hS => h3 S (by simp [hS])⟩)).2⟩
theorem none_is {n : Nat} (h1 : 1 ≤ n) {one two : List (List Int)} (v1 : VS n one) (v2 : VS n two) (h : treeOf n one = none ∨ treeOf n two = none) : treeOf n (one ++ two) = none := by
  have a := redAll_spec (plain_good h1) v1
  have b := redAll_spec (plain_good h1) v2
  have c := redAll_spec (plain_good h1) (v1.app v2)
  unfold treeOf at *
  cases e : redAll (plain n) (one ++ two) with
  | none => rfl
  | some t =>
    exfalso
    rw [e] at c
    have := (c.2 _).mp (Fr_some t)
    rcases h with h | h
    · rw [h] at a
      exact a _ ⟨this.1, fun S hS => this.2 S (by simp [hS])⟩
    · rw [h] at b
      exact b _ ⟨this.1, fun S hS => this.2 S (by simp [hS])⟩
theorem both_swap {n : Nat} (h1 : 1 ≤ n) {one two : List (List Int)} (v1 : VS n one) (v2 : VS n two) : treeOf n (one ++ two) = treeOf n (two ++ one) := by
  refine treeOf_same h1 (plain_good h1) (plain_good h1) (v1.app v2) (v2.app v1) fun o => ?_
  have : (∀ S ∈ one ++ two, Tog S o) ↔ ∀ S ∈ two ++ one, Tog S o := by
    constructor
    · intro h S hS; exact h S (by simp only [List.mem_append] at *; exact hS.symm)
    · intro h S hS; exact h S (by simp only [List.mem_append] at *; exact hS.symm)
  rw [this]
/-! ### how many -/
def fact : Nat → Nat
  | 0 => 1
  | n + 1 => (n + 1) * fact n
mutual
def cnt : T → Nat
  | .th _ => 1
  | .nd false ps => fact ps.length * cntL ps
  | .nd true ps => 2 * cntL ps
def cntL : List T → Nat
  | [] => 1
  | p :: r => cnt p * cntL r
end
theorem cnt_th (i : Int) : cnt (.th i) = 1 := by simp [cnt]
theorem cnt_any (ps : List T) : cnt (.nd false ps) = fact ps.length * cntL ps := by simp [cnt]
theorem cnt_row (ps : List T) : cnt (.nd true ps) = 2 * cntL ps := by simp [cnt]
theorem cntL_nil : cntL [] = 1 := by simp [cntL]
theorem cntL_cons (p : T) (r : List T) : cntL (p :: r) = cnt p * cntL r := by simp [cntL]
theorem cntL_append : ∀ a b : List T, cntL (a ++ b) = cntL a * cntL b
  | [], b => by rw [List.nil_append, cntL_nil, Nat.one_mul]
  | p :: a, b => by rw [List.cons_append, cntL_cons, cntL_cons, cntL_append a b, Nat.mul_assoc]
theorem cntL_one (p : T) : cntL [p] = cnt p := by rw [cntL_cons, cntL_nil, Nat.mul_one]
theorem cntL_perm {a b : List T} (h : a.Perm b) : cntL a = cntL b := by
  induction h with
  | nil => rfl
  | cons x _ ih => rw [cntL_cons, cntL_cons, ih]
  | swap x y l => rw [cntL_cons, cntL_cons, cntL_cons, cntL_cons, Nat.mul_left_comm]
  | trans _ _ h1 h2 => exact h1.trans h2
theorem cntL_rev (a : List T) : cntL a.reverse = cntL a := cntL_perm (List.reverse_perm a)
theorem fact_pos : ∀ n, 1 ≤ fact n
  | 0 => Nat.le_refl _
  | n + 1 => by
    have := fact_pos n
    unfold fact
    exact Nat.le_trans this (Nat.le_mul_of_pos_left _ (by omega))
theorem fact_succ (n : Nat) : fact (n + 1) = (n + 1) * fact n := rfl
theorem cnt_mkAny (ps : List T) : cnt (mkAny ps) = fact ps.length * cntL ps := by
  unfold mkAny
  split
  · rw [cntL_one]; simp [fact]
  · exact cnt_any ps
theorem cnt_mkRow (ps : List T) : cnt (mkRow ps) ≤ 2 * cntL ps := by
  unfold mkRow
  split
  · rename_i h
    rw [cnt_mkAny]
    refine Nat.mul_le_mul_right _ ?_
    have : ps.length = 0 ∨ ps.length = 1 ∨ ps.length = 2 := by omega
    rcases this with h | h | h <;> rw [h] <;> decide
  · rw [cnt_row]; exact Nat.le_refl _
theorem cntL_opt (ps : List T) : cntL (opt ps) = fact ps.length * cntL ps := by
  cases ps with
  | nil => simp [opt, cntL, fact]
  | cons p r =>
    unfold opt
    rw [cntL_one, cnt_mkAny]
theorem fact_mul (e : Nat) : ∀ f : Nat, fact e * fact f ≤ fact (e + f)
  | 0 => by simp [fact]
  | f + 1 => by
    have ih := fact_mul e f
    rw [show e + (f + 1) = (e + f) + 1 from rfl, fact_succ, fact_succ]
    calc fact e * ((f + 1) * fact f) = (f + 1) * (fact e * fact f) := by rw [Nat.mul_left_comm]
      _ ≤ (e + f + 1) * fact (e + f) := Nat.mul_le_mul (by omega) ih
theorem fact_mul1 (e : Nat) : ∀ f : Nat, fact (e + 1) * fact (f + 1) ≤ fact (e + (f + 1))
  | 0 => by simp [fact]
  | f + 1 => by
    have ih := fact_mul1 e f
    rw [show e + (f + 1 + 1) = (e + (f + 1)) + 1 from rfl, fact_succ (f + 1), fact_succ (e + (f + 1))]
    calc fact (e + 1) * ((f + 1 + 1) * fact (f + 1)) = (f + 1 + 1) * (fact (e + 1) * fact (f + 1)) := by rw [Nat.mul_left_comm]
      _ ≤ (e + (f + 1) + 1) * fact (e + (f + 1)) := Nat.mul_le_mul (by omega) ih
theorem fact_two (e f : Nat) (h : 1 ≤ f) : fact (e + 1) * (2 * fact f) ≤ fact (e + f + 1) := by
  obtain ⟨g, rfl⟩ : ∃ g, f = g + 1 := ⟨f - 1, by omega⟩
  have := fact_mul1 e g
  rw [fact_succ (e + (g + 1))]
  calc fact (e + 1) * (2 * fact (g + 1)) = 2 * (fact (e + 1) * fact (g + 1)) := by rw [Nat.mul_left_comm]
    _ ≤ (e + (g + 1) + 1) * fact (e + (g + 1)) := Nat.mul_le_mul (by omega) this
theorem fact_two' (e f : Nat) : fact (e + 1) * (2 * fact f) ≤ fact (e + f + 2) := by
  have := fact_mul (e + 1) f
  rw [show e + f + 2 = (e + 1 + f) + 1 by omega, fact_succ (e + 1 + f)]
  calc fact (e + 1) * (2 * fact f) = 2 * (fact (e + 1) * fact f) := by rw [Nat.mul_left_comm]
    _ ≤ (e + 1 + f + 1) * fact (e + 1 + f) := Nat.mul_le_mul (by omega) this
/-- the parts by their shares -/
theorem cntL_parts (S : List Int) (ps : List T) : cntL (withSh S .none ps) * (cntL (withSh S .some ps) * cntL (withSh S .all ps)) = cntL ps := by
  rw [← cntL_perm (part_perm S ps), cntL_append, cntL_append]
theorem len_parts (S : List Int) (ps : List T) : (withSh S .none ps).length + ((withSh S .some ps).length + (withSh S .all ps).length) = ps.length := by
  rw [← (part_perm S ps).length_eq, List.length_append, List.length_append]
def CR (r : Option (List T)) (k : Nat) : Prop := ∀ L, r = some L → cntL L ≤ k
theorem CR.cat {r s : Option (List T)} {a b : Nat} (h1 : CR r a) (h2 : CR s b) : CR (cat r s) (a * b) := by
  intro L e
  cases r with
  | none => cases s <;> cases e
  | some x =>
    cases s with
    | none => cases e
    | some y =>
      cases e
      rw [cntL_append]
      exact Nat.mul_le_mul (h1 x rfl) (h2 y rfl)
theorem CR.some (L : List T) : CR (some L) (cntL L) := fun M e => by cases e; exact Nat.le_refl _
theorem CR.rev {r : Option (List T)} {a : Nat} (h : CR r a) : CR (r.map List.reverse) a := by
  intro L e
  cases r with
  | none => cases e
  | some x => cases e; rw [cntL_rev]; exact h x rfl
theorem exp1_cnt {S : List Int} {f : T → Option (List T)} {p : T} (h : CR (f p) (cnt p)) : CR (exp1 S f p) (cnt p) := by
  unfold exp1
  split
  · exact h
  · intro L e; cases e; rw [cntL_one]; exact Nat.le_refl _
theorem expand_cnt {S : List Int} {f : T → Option (List T)} : ∀ {ps : List T}, (∀ p ∈ ps, CR (f p) (cnt p)) → CR (expand S f ps) (cntL ps)
  | [], _ => .some []
  | p :: r, h => by
    rw [cntL_cons]
    exact (exp1_cnt (h p (by simp))).cat (expand_cnt fun q hq => h q (by simp [hq]))
theorem rowSeg_cnt {S : List Int} {f : T → Option (List T)} : ∀ {ps : List T}, (∀ p ∈ ps, CR (f p) (cnt p)) → CR (rowSeg S f ps) (cntL ps)
  | [], _ => .some []
  | [p], h => by rw [cntL_one]; exact (exp1_cnt (h p (by simp))).rev
  | p :: q :: r, h => by
    rw [cntL_cons]
    exact (exp1_cnt (h p (by simp))).cat (rowSeg_cnt fun x hx => h x (List.mem_cons_of_mem _ hx))
theorem CR.mono {r : Option (List T)} {a b : Nat} (h : CR r a) (hab : a ≤ b) : CR r b := fun L e => Nat.le_trans (h L e) hab
theorem splitRow_cnt {S : List Int} {f : T → Option (List T)} {ps : List T} (h : ∀ p ∈ ps, CR (f p) (cnt p)) : CR (splitRow S f ps) (cntL ps) := by
  unfold splitRow
  split
  · exact expand_cnt h
  · split
    · rw [← cntL_rev]
      exact expand_cnt fun p hp => h p (List.mem_reverse.mp hp)
    · intro L e; cases e
theorem splitAny_cnt {S : List Int} {f : T → Option (List T)} {ps : List T} (h : ∀ p ∈ ps, CR (f p) (cnt p)) : CR (splitAny S f ps) (fact ps.length * cntL ps) := by
  have hc := cntL_parts S ps
  have hl := len_parts S ps
  unfold splitAny
  split
  · rename_i hm
    rw [hm, cntL_nil, Nat.one_mul] at hc
    rw [hm, List.length_nil, Nat.zero_add] at hl
    intro L e
    cases e
    rw [cntL_append, cntL_opt, cntL_opt, ← hc, ← hl]
    calc fact (withSh S .none ps).length * cntL (withSh S .none ps) * (fact (withSh S .all ps).length * cntL (withSh S .all ps))
        = (fact (withSh S .none ps).length * fact (withSh S .all ps).length) * (cntL (withSh S .none ps) * cntL (withSh S .all ps)) := by
          rw [Nat.mul_mul_mul_comm]
      _ ≤ _ := Nat.mul_le_mul_right _ (fact_mul _ _)
  · rename_i m hm
    have hmm : m ∈ withSh S .some ps := by rw [hm]; simp
    have hfm := h m (mem_withSh.mp hmm).1
    rw [hm, cntL_one] at hc
    rw [hm, List.length_singleton] at hl
    intro L e
    cases ef : f m with
    | none => rw [ef] at e; cases e
    | some x =>
      rw [ef] at e
      cases e
      have hx := hfm x ef
      rw [cntL_append, cntL_append, cntL_opt, cntL_opt, ← hc, ← hl]
      generalize cntL (withSh S .none ps) = A
      generalize cntL (withSh S .all ps) = B
      generalize (withSh S .none ps).length = i
      generalize (withSh S .all ps).length = j
      have hf : fact i * fact j ≤ fact (i + (1 + j)) := by
        refine Nat.le_trans (fact_mul i j) ?_
        rw [show i + (1 + j) = (i + j) + 1 by omega, fact_succ]
        exact Nat.le_mul_of_pos_left _ (by omega)
      calc fact i * A * (cntL x * (fact j * B)) = (fact i * fact j) * (A * (cntL x * B)) := by
            simp only [Nat.mul_comm, Nat.mul_left_comm, Nat.mul_assoc]
        _ ≤ fact (i + (1 + j)) * (A * (cnt m * B)) := Nat.mul_le_mul hf (Nat.mul_le_mul_left _ (Nat.mul_le_mul_right _ hx))
  · intro L e; cases e
theorem split_cnt (S : List Int) : ∀ t : T, CR (split S t) (cnt t) := by
  intro t
  induction t using T.ind with
  | h1 i => intro L e; rw [split] at e; cases e
  | h2 b ps ih =>
    cases b with
    | false => rw [split_any, cnt_any]; exact splitAny_cnt ih
    | true =>
      rw [split_row, cnt_row]
      exact (splitRow_cnt ih).mono (by omega)
theorem joinedRow_cnt {S : List Int} {ps : List T} {t : T} (e : joinedRow S (split S) ps = some t) : cnt t ≤ 2 * cntL ps := by
  unfold joinedRow at e
  split at e
  · cases er : rowSeg S (split S) (core S ps) with
    | none => rw [er] at e; cases e
    | some L =>
      rw [er] at e
      cases e
      refine Nat.le_trans (cnt_mkRow _) (Nat.mul_le_mul_left _ ?_)
      have := rowSeg_cnt (S := S) (f := split S) (ps := core S ps) (fun p _ => split_cnt S p) L er
      conv => rhs; rw [parts_eq S ps]
      rw [cntL_append, cntL_append, cntL_append, cntL_append]
      exact Nat.mul_le_mul_left _ (Nat.mul_le_mul_right _ this)
  · cases e
theorem joinedAny_cnt {S : List Int} {ps : List T} {t : T} (h2 : 2 ≤ (withSh S .some ps ++ withSh S .all ps).length) (e : joinedAny S (split S) ps = some t) : cnt t ≤ fact ps.length * cntL ps := by
  rw [joinedAny_eq] at e
  have hc := cntL_parts S ps
  have hl := len_parts S ps
  cases er : rowOf S (split S) ps with
  | none => rw [er] at e; cases e
  | some X =>
    rw [er] at e
    cases e
    rw [cnt_mkAny, cntL_append, cntL_one, List.length_append, List.length_singleton]
    rw [List.length_append] at h2
    rw [← hc, ← hl]
    unfold rowOf at er
    split at er
    · rename_i hm
      cases er
      rw [hm] at h2 ⊢
      rw [cnt_mkAny, cntL_nil, Nat.one_mul, List.length_nil, Nat.zero_add]
      rw [List.length_nil, Nat.zero_add] at h2
      generalize cntL (withSh S .none ps) = A
      generalize cntL (withSh S .all ps) = B
      generalize (withSh S .none ps).length = i
      generalize (withSh S .all ps).length = j at *
      obtain ⟨j', rfl⟩ : ∃ j', j = j' + 1 := ⟨j - 1, by omega⟩
      calc fact (i + 1) * (A * (fact (j' + 1) * B)) = (fact (i + 1) * fact (j' + 1)) * (A * B) := by
            simp only [Nat.mul_comm, Nat.mul_left_comm, Nat.mul_assoc]
        _ ≤ _ := Nat.mul_le_mul_right _ (fact_mul1 i j')
    · rename_i m hm
      rw [hm] at h2 ⊢
      rw [List.length_singleton] at h2 ⊢
      rw [cntL_one]
      cases es : split S m with
      | none => rw [es] at er; cases er
      | some x =>
        rw [es] at er
        cases er
        have hx := split_cnt S m x es
        have hX := cnt_mkRow (x ++ opt (withSh S .all ps))
        rw [cntL_append, cntL_opt] at hX
        revert hX
        generalize cnt (mkRow (x ++ opt (withSh S .all ps))) = Y
        generalize cntL (withSh S .none ps) = A
        generalize cntL (withSh S .all ps) = B
        generalize (withSh S .none ps).length = i
        generalize (withSh S .all ps).length = j at *
        intro hX
        calc fact (i + 1) * (A * Y) ≤ fact (i + 1) * (A * (2 * (cntL x * (fact j * B)))) := Nat.mul_le_mul_left _ (Nat.mul_le_mul_left _ hX)
          _ = (fact (i + 1) * (2 * fact j)) * (A * (cntL x * B)) := by simp only [Nat.mul_comm, Nat.mul_left_comm, Nat.mul_assoc]
          _ ≤ fact (i + (1 + j)) * (A * (cnt m * B)) := by
            refine Nat.mul_le_mul ?_ (Nat.mul_le_mul_left _ (Nat.mul_le_mul_right _ hx))
            rw [show i + (1 + j) = i + j + 1 by omega]
            exact fact_two i j (by omega)
    · rename_i m m' hm
      rw [hm] at h2 ⊢
      rw [show [m, m'].length = 2 from rfl, cntL_cons, cntL_one]
      have hcat := (split_cnt S m).cat ((CR.some (opt (withSh S .all ps))).cat (split_cnt S m').rev)
      cases eg : cat (split S m) (cat (some (opt (withSh S .all ps))) ((split S m').map List.reverse)) with
      | none => rw [eg] at er; cases er
      | some x =>
        rw [eg] at er hcat
        cases er
        have hx := hcat x rfl
        rw [cntL_opt] at hx
        have hX := cnt_mkRow x
        revert hX
        generalize cnt (mkRow x) = Y
        generalize cntL (withSh S .none ps) = A
        generalize cntL (withSh S .all ps) = B at *
        generalize (withSh S .none ps).length = i
        generalize (withSh S .all ps).length = j at *
        intro hX
        calc fact (i + 1) * (A * Y) ≤ fact (i + 1) * (A * (2 * (cnt m * (fact j * B * cnt m')))) :=
              Nat.mul_le_mul_left _ (Nat.mul_le_mul_left _ (Nat.le_trans hX (Nat.mul_le_mul_left _ hx)))
          _ = (fact (i + 1) * (2 * fact j)) * (A * (cnt m * cnt m' * B)) := by simp only [Nat.mul_comm, Nat.mul_left_comm, Nat.mul_assoc]
          _ ≤ fact (i + (2 + j)) * (A * (cnt m * cnt m' * B)) := by
            refine Nat.mul_le_mul_right _ ?_
            rw [show i + (2 + j) = i + j + 2 by omega]
            exact fact_two' i j
    · cases er
theorem two_tch {S : List Int} {ps mid : List T} {f l : T} (hm : core S ps = f :: (mid ++ [l])) (h1 : share S f ≠ .none) (h2' : share S l ≠ .none) : 2 ≤ (withSh S .some ps ++ withSh S .all ps).length := by
  have hp := part_perm S ps
  have e1 : (withSh S .none ps).length + (withSh S .some ps ++ withSh S .all ps).length = ps.length := by
    rw [← hp.length_eq, List.length_append (as := withSh S .none ps)]
  have e2 : ps.length = (lead S ps).length + ((f :: (mid ++ [l])).length + (trail S ps).length) := by
    conv => lhs; rw [parts_eq S ps, hm]
    rw [List.length_append, List.length_append]
  have e3 : (withSh S .none ps).length ≤ (lead S ps).length + (mid.length + (trail S ps).length) := by
    have e : withSh S .none ps = withSh S .none (lead S ps ++ ((f :: (mid ++ [l])) ++ trail S ps)) := by
      rw [← hm, ← parts_eq]
    rw [e, withSh_append, withSh_append, withSh_cons_ne h1, withSh_append, withSh_cons_ne h2']
    have k1 : (withSh S .none (lead S ps)).length ≤ (lead S ps).length := List.length_filter_le _ _
    have k2 : (withSh S .none mid).length ≤ mid.length := List.length_filter_le _ _
    have k3 : (withSh S .none (trail S ps)).length ≤ (trail S ps).length := List.length_filter_le _ _
    have k4 : withSh S .none [] = [] := rfl
    rw [k4]
    simp only [List.length_append, List.length_nil]
    omega
  simp only [List.length_cons, List.length_append, List.length_nil] at e2
  omega
theorem joined_cnt (S : List Int) : ∀ t t' : T, joined S t = some t' → wf t → Has S (lst t) → cnt t' ≤ cnt t := by
  intro t
  induction t using T.ind with
  | h1 i =>
    intro t' e _ _
    rw [joined_th] at e
    cases e; exact Nat.le_refl _
  | h2 b ps ih =>
    intro t' e hw0 h
    obtain ⟨l2, l3, hw⟩ := wf_nd.mp hw0
    by_cases hall : share S (.nd b ps) = .all
    · rw [joined_all hall] at e; cases e; exact Nat.le_refl _
    · have ht : ∃ p ∈ ps, share S p ≠ .none := by
        obtain ⟨x, hx, hs⟩ := h
        rw [lst_nd] at hx
        obtain ⟨p, hp, hx⟩ := mem_lstL.mp hx
        exact ⟨p, hp, share_tch.mpr ⟨x, hx, hs⟩⟩
      rcases core_shape ht with ⟨m, hm, h1⟩ | ⟨f, mid, l, hm, h1, h2'⟩
      · have hmp : m ∈ ps := core_sub (by rw [hm]; simp)
        rw [joined_one hall hm] at e
        have hpe := parts_eq S ps
        rw [hm] at hpe
        cases em : joined S m with
        | none => rw [em] at e; cases e
        | some m' =>
          rw [em] at e
          cases e
          have hi := ih m hmp m' em (hw m hmp) (share_tch.mp h1)
          have hlen : (lead S ps ++ m' :: trail S ps).length = ps.length := by
            conv => rhs; rw [hpe]
            simp
          have hcl : cntL (lead S ps ++ m' :: trail S ps) ≤ cntL ps := by
            conv => rhs; rw [hpe]
            rw [cntL_append, cntL_append, cntL_append, cntL_cons, cntL_one]
            exact Nat.mul_le_mul_left _ (Nat.mul_le_mul_right _ hi)
          cases b with
          | false => rw [cnt_any, cnt_any, hlen]; exact Nat.mul_le_mul_left _ hcl
          | true => rw [cnt_row, cnt_row]; exact Nat.mul_le_mul_left _ hcl
      · rw [joined_more hall hm] at e
        cases b with
        | true =>
          rw [if_pos rfl] at e
          rw [cnt_row]
          exact joinedRow_cnt e
        | false =>
          rw [if_neg (by simp)] at e
          rw [cnt_any]
          exact joinedAny_cnt (two_tch hm h1 h2') e
end PQ
namespace PQ
theorem cnt_norm : ∀ t : T, cnt (norm t) = cnt t := by
  intro t
  induction t using T.ind with
  | h1 i => rw [norm_th]
  | h2 b ps ih =>
    have hk : cntL (ps.map norm) = cntL ps := by
      have : ∀ qs : List T, (∀ q ∈ qs, cnt (norm q) = cnt q) → cntL (qs.map norm) = cntL qs := by
        intro qs
        induction qs with
        | nil => intro _; rfl
        | cons q r ih2 =>
          intro h
          rw [List.map_cons, cntL_cons, cntL_cons, h q (by simp), ih2 fun x hx => h x (by simp [hx])]
      exact this ps ih
    cases b with
    | false => rw [norm_any, cnt_any, cnt_any, (srt_perm _).length_eq, List.length_map, cntL_perm (srt_perm _), hk]
    | true => rw [norm_row, cnt_row, cnt_row, cntL_perm (orient_perm _), hk]
theorem reducedBy_cnt {n : Nat} {t t' : T} (hw : wf t) (hp : (lst t).Perm (rng n)) {S : List Int} (hS : ∀ x ∈ S, x ∈ rng n) (e : reducedBy S t = some t') : cnt t' ≤ cnt t := by
  unfold reducedBy at e
  by_cases hl : S.length < 2
  · rw [if_pos hl] at e
    cases e
    rw [cnt_norm]; exact Nat.le_refl _
  · rw [if_neg hl] at e
    have hh : Has S (lst t) := by
      match S, hl with
      | [], hl => exact absurd (by simp) hl
      | x :: r, _ => exact ⟨x, hp.mem_iff.mpr (hS x (by simp)), by simp⟩
    cases ej : joined S t with
    | none => rw [ej] at e; cases e
    | some u =>
      rw [ej] at e
      cases e
      rw [cnt_norm]
      exact joined_cnt S t u ej hw hh
theorem redAll_cnt {n : Nat} : ∀ {ss : List (List Int)} {t t' : T}, Good n t → VS n ss → redAll t ss = some t' → cnt t' ≤ cnt t
  | [], t, t', _, _, e => by cases e; exact Nat.le_refl _
  | S :: r, t, t', g, hs, e => by
    rw [redAll_cons] at e
    have h1 := reducedBy_spec g.wf g.perm (hs S (by simp))
    cases er : reducedBy S t with
    | none => rw [er] at e; cases e
    | some u =>
      rw [er] at e h1
      exact Nat.le_trans (redAll_cnt h1.1 (fun S' hS' => hs S' (by simp [hS'])) e) (reducedBy_cnt g.wf g.perm (hs S (by simp)) er)
theorem treeOf_good {n : Nat} (h1 : 1 ≤ n) {ss : List (List Int)} (v : VS n ss) {t : T} (e : treeOf n ss = some t) : Good n t := by
  have := redAll_spec (plain_good h1) v
  unfold treeOf at e
  rw [e] at this
  exact this.1
theorem both_cnt {n : Nat} (h1 : 1 ≤ n) {one two : List (List Int)} (v1 : VS n one) (v2 : VS n two) {f g b : T} (ef : treeOf n one = some f) (eg : treeOf n two = some g) (eb : treeOf n (one ++ two) = some b) : cnt b ≤ cnt f ∧ cnt b ≤ cnt g := by
  have gf := treeOf_good h1 v1 ef
  have gg := treeOf_good h1 v2 eg
  have e2 := (both_swap h1 v1 v2).symm.trans eb
  unfold treeOf at ef eg eb e2
  rw [redAll_append, ef] at eb
  rw [redAll_append, eg] at e2
  exact ⟨redAll_cnt gf v2 eb, redAll_cnt gg v1 e2⟩
/-! ### bounds -/
theorem fact_le (N : Nat) : ∀ k : Nat, 1 ≤ k → k ≤ N → fact k ≤ N ^ (k - 1)
  | 0, h, _ => by omega
  | 1, _, _ => by simp [fact]
  | k + 2, _, h => by
    have ih := fact_le N (k + 1) (by omega) (by omega)
    rw [fact_succ]
    show (k + 2) * fact (k + 1) ≤ N ^ (k + 1)
    rw [Nat.pow_succ, Nat.mul_comm]
    exact Nat.mul_le_mul ih h
theorem cntL_le (N : Nat) : ∀ ps : List T, (∀ p ∈ ps, cnt p ≤ N ^ ((lst p).length - 1)) → (∀ p ∈ ps, 1 ≤ (lst p).length) → 1 ≤ N → cntL ps ≤ N ^ ((lstL ps).length - ps.length) ∧ ps.length ≤ (lstL ps).length
  | [], _, _, _ => by simp [cntL, lstL]
  | p :: r, h, h1, hN => by
    obtain ⟨a, b⟩ := cntL_le N r (fun q hq => h q (by simp [hq])) (fun q hq => h1 q (by simp [hq])) hN
    have c := h p (by simp)
    have d := h1 p (by simp)
    rw [cntL_cons, lstL_cons, List.length_append, List.length_cons]
    refine ⟨?_, by omega⟩
    have e : (lst p).length + (lstL r).length - (r.length + 1) = ((lst p).length - 1) + ((lstL r).length - r.length) := by omega
    rw [e, Nat.pow_add]
    exact Nat.mul_le_mul c a
theorem len_pos {t : T} (h : wf t) : 1 ≤ (lst t).length := by
  have := lst_ne t h
  cases e : lst t with
  | nil => exact absurd e this
  | cons _ _ => simp
theorem cnt_le (N : Nat) (hN : 2 ≤ N) : ∀ t : T, wf t → (lst t).length ≤ N → cnt t ≤ N ^ ((lst t).length - 1) := by
  intro t
  induction t using T.ind with
  | h1 i => intro _ _; rw [cnt_th, lst_th]; simp
  | h2 b ps ih =>
    intro hw0 hl
    obtain ⟨h2, h3, hw⟩ := wf_nd.mp hw0
    rw [lst_nd] at hl ⊢
    have hsub : ∀ p ∈ ps, (lst p).length ≤ (lstL ps).length := fun p hp => by
      obtain ⟨x, y, rfl⟩ := List.append_of_mem hp
      rw [lstL_append, lstL_cons, List.length_append, List.length_append]; omega
    obtain ⟨a, c⟩ := cntL_le N ps (fun p hp => ih p hp (hw p hp) (Nat.le_trans (hsub p hp) hl)) (fun p hp => len_pos (hw p hp)) (by omega)
    have e : (lstL ps).length - 1 = (ps.length - 1) + ((lstL ps).length - ps.length) := by omega
    rw [e, Nat.pow_add]
    cases b with
    | false =>
      rw [cnt_any]
      exact Nat.mul_le_mul (fact_le N _ (by omega) (by omega)) a
    | true =>
      rw [cnt_row]
      refine Nat.mul_le_mul ?_ a
      calc 2 ≤ N := hN
        _ = N ^ 1 := (Nat.pow_one N).symm
        _ ≤ N ^ (ps.length - 1) := Nat.pow_le_pow_right (by omega) (by omega)
theorem kid_len {ps : List T} (h2 : 2 ≤ ps.length) (hw : WfL ps) {p : T} (hp : p ∈ ps) : (lst p).length < (lstL ps).length := by
  obtain ⟨x, y, rfl⟩ := List.append_of_mem hp
  have hx : ∀ q ∈ x ++ y, 1 ≤ (lst q).length := fun q hq => by
    refine len_pos (hw q ?_)
    rcases List.mem_append.mp hq with h | h <;> simp [h]
  rw [lstL_append, lstL_cons, List.length_append, List.length_append]
  have : 1 ≤ (lstL x).length + (lstL y).length := by
    cases x with
    | cons q x =>
      have := hx q (by simp)
      rw [lstL_cons, List.length_append]; omega
    | nil =>
      cases y with
      | cons q y =>
        have := hx q (by simp)
        rw [lstL_cons, List.length_append]; omega
      | nil => simp at h2
  omega
theorem kids_len {ps : List T} (hw : WfL ps) : ps.length ≤ (lstL ps).length := by
  induction ps with
  | nil => simp
  | cons p r ih =>
    have := ih fun q hq => hw q (by simp [hq])
    have := len_pos (hw p (by simp))
    rw [lstL_cons, List.length_append, List.length_cons]; omega
end PQ
set_option maxRecDepth 100000
set_option maxHeartbeats 4000000
/-! rules that the layer lacks -/
namespace Wk
open PySem PySem.Spec PyProof.Rows L2
section
variable {X : Cx}
theorem hu65 {k : Nat} {A : Around} (hr : Room k A) : A.units + 65 < cLine := by
  have := hr.un
  omega
/-- n *= m -/
theorem ip_mul : PIp X .Mult (rI CMul fun i j => .int (i * j)) := iop_mul

/-! ### xs.extend(t), t a tuple -/
theorem ext_tup_meets (l : Addr) (us : Array Value) (m : Nat) (b : Addr) (ws : Array Value) (n : Nat) (dd : Option Addr) (sl : Array (Option Value)) (h0 : ¬(!us.isEmpty && Builtin.List.listTooLong (us.size + ws.size)) = true) (h1 : us.size ≤ sizeLine) (h2 : us.size + ws.size ≤ sizeLine + 1) :
    Meets (Builtin.«list.extend» ⟨[.ref l, .ref b], []⟩) (fun _ R s => s.heap.get? l = some { cls := .type "list", dict := none, data := .seq us m, slots := #[] } ∧
      s.heap.get? b = some { cls := .type "tuple", dict := dd, data := .seq ws n, slots := sl } ∧ R (.ok (.ret Value.none)) { s with heap := s.heap.update l (Obj.mapSeq fun x => x ++ ws), toks := s.toks }) :=
  .of_wp fun prog w A R s h => by
    obtain ⟨hp, g, d, tk, os⟩ := s
    obtain ⟨hl, hb, h⟩ := h
    have f1 := AutoSeq1.idx_int
    have f2 := AutoSeq1.sub_tuple_tuple
    have f3 := AutoSeq1.sub_list_list
    have f4 := AutoSeq1.sub_tuple_list
    have f5 := AutoSeq1.sub_list_tuple
    have hz' : (us ++ ws).size ≤ sizeLine + 1 := by rw [Array.size_append]; exact h2
    wp_walk using (wpAny_updateSeq hl rfl (hz := h1) (_hz' := hz')), AutoSeq1.wpAny_loadPart' hl, AutoSeq1.wpAny_loadPart' hb
    exact ⟨_, rfl, h⟩
def rExtT (K : PySem.W.Frag) : V → List V → Hp → VK → Prop := fun x vs H Q => ∃ l b xs zs, x = .ref l ∧ vs = [.ref b] ∧ H l = some (.lst xs) ∧ SqT K H b zs ∧ xs.length + zs.length ≤ sizeLine ∧ Q .non (upd H l (.lst (xs ++ zs)))
theorem mt_extendT : MtM X "list.extend" (rExtT X.K) := by
  intro pins s σ H x vs v us Q I rx rv h
  obtain ⟨l, b, xs, zs, rfl, rfl, hl, hb, hz, q⟩ := h
  cases rx
  obtain ⟨u, rfl, ru⟩ := rv.one
  cases ru
  obtain ⟨z1, its, n, r, hlen, e⟩ := I.lstM hl
  obtain ⟨ws, r2, ⟨⟨oc, od, odt, osl⟩, ho, hc, n2, hd⟩, hz2⟩ := I.tuple hb
  simp only at hc hd
  subst hc hd
  have hlen2 := r2.length
  have small : its.toArray.size + ws.toArray.size ≤ sizeLine := by rw [List.size_toArray, List.size_toArray]; omega
  have notlong : ¬ (!its.toArray.isEmpty && Builtin.List.listTooLong (its.toArray.size + ws.toArray.size)) = true := by
    rw [notLongL small, Bool.and_false]; exact Bool.false_ne_true
  refine call_meets F.slot_list_extend ⟨_, e, rfl⟩ F.entry_list_extend (F.args_list_extend_2 _ _)
    (ext_tup_meets l its.toArray n b ws.toArray n2 od osl notlong (by rw [List.size_toArray]; omega) (by omega)) ⟨e, ho, ?_⟩
  exact ⟨.non, _, I.lset (its' := its ++ ws) hl e (by simp) (r.append r2) (by rw [List.length_append]; omega), rfl, q⟩

/-! ### len(set(t)), t a tuple of different ints -/
theorem setR_count {w : World} {h : Heap} {a : Addr} {ns : List Int} {c : Nat} (R : SetR w h a (fun j => decide (j ∈ ns)) c) (hn : ns.Nodup) : c = ns.length := by
  obtain ⟨o, es, ep, t, ho, hex, hdt, g, nd, hm, hb, hf, hc, hr, hl⟩ := R
  have hp : (es.toList.map keyOf).Perm ns := (List.perm_ext_iff_of_nodup nd hn).mpr fun k => by
    rw [← hm k, decide_eq_true_eq]
  have e := hp.length_eq
  rw [List.length_map, Array.length_toList] at e
  omega
def tLenSetT (K : PySem.W.Frag) (ta : TE) : TE := fun σ H Q => ta σ H fun x H1 => ∃ (b : Addr) (ns : List Int), x = V.ref b ∧ SqT K H1 b (ns.map V.int) ∧ ns.length ≤ 1000 ∧ ns.Nodup ∧ Q (.int ns.length) H1
theorem pe_lenSetT {a : Expr} {ta : TE} {p p2 q pos : Pos} (hc : X.calm = true) (hg : Gl X "len") (hm : X.mg "len" = none) (hg2 : Gl X "set") (hm2 : X.mg "set" = none) (ha : PE X a ta)
    (na : starEach [a] X.env = (false, eval a X.env) :: starEach [] X.env := by rfl) : PE X (.Call (.Name "len" p) [.Call (.Name "set" p2) [a] [] q] [] pos) (tLenSetT X.K ta) := by
  refine ⟨fun pins s σ H Q I h => Call_ (ld_blt I hg hm PySem.boot_len (PyProof.Rows.callWith_builtin1 (PyProof.Rows.args_cons ?_ rfl) rfl rfl))⟩
  refine Call_ (ld_blt I hg2 hm2 PyProof.Rows.boot_set (PyProof.Rows.callWith_type1 (PyProof.Rows.args_cons (thn (ha.run pins s σ H _ I h) fun v s1 hv => PyProof.Rows.args_nil ?_) na) na rfl))
  obtain ⟨x, H1, I1, r1, b, ns, rfl, hq, hl, hn, k⟩ := hv
  cases r1
  obtain ⟨its, rv, pt, hz⟩ := I1.tuple hq
  refine call_set_tupI ns (I1.ok.hd hc) (show s1.heap.IsTuple b its.toArray from pt) (ints_of_vals rv) (by unfold scanBound; omega) fun h' tk c R hcn keep => PyProof.Rows.args_nil ?_
  have hcount := setR_count R hn
  obtain ⟨o, es, ep, t, ho, hex, hdt, g, nd, hm3, hb3, hf, hsz, hr, hl2⟩ := R
  have I2 : Inv X pins σ H1 { s1 with heap := h', toks := tk } := I1.kept keep
  refine call_len_set ho hex hdt hf (by omega) ⟨.int ns.length, H1, I2.tok _, ⟨_, by rw [hsz, hcount]⟩, k⟩
end
end Wk
namespace Wk
open PySem PySem.Spec PyProof.Rows L2
section
variable {prog : Program} {w : World} {A : Around} {E : Value → Shared → Prop} {s : Shared}
/-- the items of a tuple, gathered into a new list -/
theorem collect_tup {b : Addr} {vs : List Value} {Q : List Value → Shared → Prop} (hb : IsTup s.heap b vs.toArray) (hz : vs.length ≤ sizeLine)
    (h : Q vs { s with heap := (s.heap.push (seqObj "list" #[] 0)).update s.heap.objs.size (Obj.mapSeq (· ++ vs.toArray)) }) : wpAny (model prog w) A (collect (.ref b)) Q E s := by
  obtain ⟨ob, hob, hcls, m, hdat⟩ := id hb
  unfold collect
  refine wpAny_bind (wpAny_runValue (codeAny_builtin entry_proto_collect' ?_))
  show wpAny _ _ (do again (.builtin "list.__iadd__" ⟨[← newList [], .ref b], []⟩)) _ _ s
  refine wpAny_bind (wpAny_newList (wpAny_pure ⟨Code.quiet_builtin _ (by decide +kernel), codeAny_builtin entry_list_iadd' ?_⟩))
  show wpAny _ _ (Builtin.List.listExtendWith (.ref s.heap.objs.size) (.ref b) (.ref s.heap.objs.size)) _ _ { s with heap := s.heap.push (seqObj "list" #[] 0) }
  unfold Builtin.List.listExtendWith
  have hob2 : (s.heap.push (seqObj "list" #[] 0)).get? b = some ob := Heap.get?_push_of_some _ hob
  have hnew : (s.heap.push (seqObj "list" #[] 0)).get? s.heap.objs.size = some (seqObj "list" #[] 0) := Heap.get?_push_size _ rfl
  refine wpAny_bind (wpAny_typeOf (T := "tuple") ⟨ob, hob2, hcls⟩ ?_)
  have ht : (Value.type "tuple" == Value.type "tuple") = true := by rfl
  rw [if_pos (by rw [ht]; simp)]
  refine wpAny_bind (listItems_at hob2 hdat (wpAny_bind (listItems_at (xs := #[]) (n := 0) hnew rfl ?_)))
  rw [if_neg (by simp)]
  refine wpAny_bind (listUpdate_at (xs := #[]) (n := 0) hnew rfl (wpAny_pure ?_) (Nat.zero_le _) (by show (#[] ++ vs.toArray).size ≤ sizeLine + 1; simp only [Array.size_append, List.size_toArray, List.length_nil]; omega))
  show wpAny (model prog w) A (do
      let ob3 ← load s.heap.objs.size
      match ob3.data with
      | .seq ys _ => pure ys.toList
      | _ => unsupported "internal:collect") Q E { s with heap := (s.heap.push (seqObj "list" #[] 0)).update s.heap.objs.size (Obj.mapSeq (· ++ vs.toArray)) }
  refine wpAny_bind (wpAny_load (get?_update_seq hnew _) ?_)
  show wpAny _ _ (pure ((#[] : Array Value) ++ vs.toArray).toList) Q E _
  have e : ((#[] : Array Value) ++ vs.toArray).toList = vs := by simp
  rw [e]
  exact wpAny_pure h
theorem sorted_tup_ord {b : Addr} {vs : List Value} {ltv : Value → Value → Bool} {Q : Value → Shared → Prop} (O : SrtO.Swo ltv) (hb : IsTup s.heap b vs.toArray) (hz : vs.length ≤ sizeLine)
    (hS : 2 ≤ vs.length → ∀ (h1 : Heap) (a : Addr), h1.get? a = some (seqObj "list" vs.toArray 0) → SrtO.SortableO prog w A.in1.in1 { s with heap := h1 } a vs ltv)
    (h : ∀ out : List Value, SrtO.Srtd ltv out → SrtO.Stb ltv out vs → Q (.ref (s.heap.objs.size + 1)) { s with heap := sortedAll s.heap vs out.toArray }) :
    wpAny (model prog w) A (call (.builtin "sorted") [.ref b]) Q E s := by
  refine Calls.call_function_entry kind_sorted plain_sorted entry_sorted (args_sorted1 _) ?_
  unfold Builtin.«sorted»
  refine wpAny_bind (m := checkCount "sorted" 1 1 _) (wpAny_pure (wpAny_bind (collect_tup hb hz (wpAny_bind (wpAny_newList ?_ hz)))))
  have hsz : ((s.heap.push (seqObj "list" #[] 0)).update s.heap.objs.size (Obj.mapSeq (· ++ vs.toArray))).objs.size = s.heap.objs.size + 1 := by
    rw [Heap.size_update, size_push']
  have hL : (((s.heap.push (seqObj "list" #[] 0)).update s.heap.objs.size (Obj.mapSeq (· ++ vs.toArray))).push (seqObj "list" vs.toArray 0)).get? (s.heap.objs.size + 1) = some (seqObj "list" vs.toArray 0) := by
    rw [← hsz]; exact Heap.get?_push_size _ rfl
  show wpAny _ _ _ _ _ { s with heap := ((s.heap.push (seqObj "list" #[] 0)).update s.heap.objs.size (Obj.mapSeq (· ++ vs.toArray))).push (seqObj "list" vs.toArray 0) }
  rw [hsz]
  refine wpAny_bind (wpAny_holding (wpAny_call_entry slot_list_sort ⟨_, hL, rfl⟩ entry_list_sort (SrtO.list_sort_ord O hL hz (fun h2 => hS h2 _ _ hL) fun out k1 k2 => ⟨_, rfl, ?_⟩) (args_list_sort _)))
  exact wpAny_pure ⟨_, rfl, h out k1 k2⟩
end
section
variable {X : Cx}
/-- sorted(t), t a tuple of ints -/
def rSortedTup (K : PySem.W.Frag) : List V → Hp → VK → Prop := fun vs H Q => ∃ (b : Addr) (ns : List Int), vs = [V.ref b] ∧ SqT K H b (ns.map V.int) ∧
  ∀ (ns' : List Int) (p : Addr), ns'.Perm ns → ns'.Pairwise (· ≤ ·) → H p = none → Q (.ref p) (upd H p (.lst (ns'.map V.int)))
theorem cr_sortedTup : CallR X (.builtin "sorted") (rSortedTup X.K) := by
  intro pins s σ H vs us Q I r h
  obtain ⟨b, ns, rfl, hb, q⟩ := h
  obtain ⟨its, rv, pt, hz⟩ := I.tuple hb
  rw [Vals.ref1 r]
  have hi := rv.ints
  refine sorted_tup_ord SrtO.swo_int pt (by rw [← rv.length]; exact hz) (fun h2 h1 a _ => SrtO.ints_sortable hi h2) fun out k1 k2 => ?_
  obtain ⟨g1, g2, g3⟩ := SrtO.ints_out hi k1 k2
  obtain ⟨ep, hep⟩ := PyProof.Rows.sortedAll_at s.heap its out.toArray
  rw [List.length_map] at hz
  have hlen : ((out.map SrtO.iv).map V.int).length ≤ sizeLine := by rw [List.length_map, g2.length_eq]; exact hz
  exact ⟨.ref _, upd H (s.heap.objs.size + 1) (.lst ((out.map SrtO.iv).map V.int)), I.laid (t' := s.toks) (fun _ _ => PyProof.Rows.sortedAll_old) (Nat.le_succ _) ⟨hlen, out, ep, vals_of_ints g1, hep⟩, rfl, q _ _ g2 g3 (I.hok.fresh (Nat.le_succ _))⟩
end
end Wk
namespace Wk
open PySem PySem.Spec PyProof.Rows L2
/-! ### tuples of ints of any length, in Python's order -/
def lx : List Int → List Int → Bool
  | [], [] => false
  | [], _ :: _ => true
  | _ :: _, [] => false
  | a :: r, b :: q => if a = b then lx r q else decide (a < b)
theorem lx_asym : ∀ x y : List Int, lx x y = true → lx y x = false
  | [], [], h => by simp [lx] at h
  | [], _ :: _, _ => by simp [lx]
  | _ :: _, [], h => by simp [lx] at h
  | a :: r, b :: q, h => by
    unfold lx at h ⊢
    by_cases e : a = b
    · rw [if_pos e] at h
      rw [if_pos e.symm]
      exact lx_asym r q h
    · rw [if_neg e] at h
      rw [if_neg fun e2 => e e2.symm]
      simp at h ⊢
      omega
theorem lx_tr : ∀ x y z : List Int, lx y x = false → lx z y = false → lx z x = false
  | [], [], [], _, _ => by simp [lx]
  | [], [], _ :: _, _, _ => by simp [lx]
  | [], _ :: _, [], _, h => by simp [lx] at h
  | [], _ :: _, _ :: _, _, _ => by simp [lx]
  | _ :: _, [], _, h, _ => by simp [lx] at h
  | _ :: _, _ :: _, [], _, h => by simp [lx] at h
  | a :: r, b :: q, c :: p, h1, h2 => by
    unfold lx at h1 h2 ⊢
    by_cases e1 : b = a
    · rw [if_pos e1] at h1
      by_cases e2 : c = b
      · rw [if_pos e2] at h2
        rw [if_pos (e2.trans e1)]
        exact lx_tr r q p h1 h2
      · rw [if_neg e2] at h2
        rw [if_neg fun e => e2 (e.trans e1.symm)]
        simp at h2 ⊢
        omega
    · rw [if_neg e1] at h1
      simp at h1
      by_cases e2 : c = b
      · rw [if_neg fun e => e1 (e2.symm.trans e)]
        simp; omega
      · rw [if_neg e2] at h2
        simp at h2
        by_cases e3 : c = a
        · omega
        · rw [if_neg e3]; simp; omega
theorem swo_lx (k : Value → List Int) : SrtO.Swo fun v u => lx (k v) (k u) := ⟨fun x y h => lx_asym _ _ h, fun x y z h1 h2 => lx_tr _ _ _ h1 h2⟩
section
variable {prog : Program} {w : World} {A : Around} {E : Value → Shared → Prop} {s : Shared} {Q : Bool → Shared → Prop}
theorem lex_any {b fin : Bool} : ∀ {xs ys : List Value} {ns ms : List Int} (i : Nat), IntsAre xs ns → IntsAre ys ms → fin = decide (ns.length < ms.length) → Q (lx ns ms) s → PySem.W.KatLex prog w A b fin Q (xs.zip ys) i s
  | _, _, _, _, i, .nil, .nil, hf, h => by
    have e : fin = lx [] [] := by rw [hf]; simp [lx]
    rw [← e] at h
    exact PySem.W.kat_nil h
  | _, _, _, _, i, .nil, .cons (ns := ms) n t r, hf, h => by
    have e : fin = lx [] (n :: ms) := by rw [hf]; simp [lx]
    rw [← e] at h
    exact PySem.W.kat_nil h
  | _, _, _, _, i, .cons (ns := ns) n t r, .nil, hf, h => by
    have e : fin = lx (n :: ns) [] := by rw [hf]; simp [lx]
    rw [← e] at h
    exact PySem.W.kat_nil h
  | _, _, _, _, i, .cons (ns := ns) n t r, .cons (ns := ms) m u q, hf, h => by
    refine PySem.W.kat_cons (wpAny_eqBool_int ?_)
    unfold lx at h
    by_cases e : n = m
    · rw [if_pos e] at h
      rw [show (n == m) = true from beq_iff_eq.mpr e]
      refine PySem.W.kat_yes (lex_any (i + 1) r q ?_ h)
      rw [hf]; simp
    · rw [if_neg e] at h
      rw [show (n == m) = false from beq_eq_false_iff_ne.mpr e]
      exact PySem.W.kat_no (TS.oneLt_ints _ h)
end
def TupsAny (h : Heap) (vs : List Value) : Prop := ∀ v ∈ vs, ∃ ns, TS.TupInts h v ns ∧ ns ≠ []
theorem firsts_any {h : Heap} : ∀ vs : List Value, TupsAny h vs → ∃ fs, PySem.W.KatTups h vs fs ∧ fs.length = vs.length ∧ ∀ f ∈ fs, ∃ n t, f = Value.int n t
  | [], _ => ⟨[], PySem.W.KatTups.nil, rfl, fun f hf => nomatch hf⟩
  | v :: vs, x => by
    obtain ⟨fs, k, hl, hi⟩ := firsts_any vs fun u hu => x u (List.mem_cons_of_mem _ hu)
    obtain ⟨ns, ⟨a, xs, rfl, ⟨o, ho, hc, n, hdt⟩, i⟩, hne⟩ := x v List.mem_cons_self
    cases hx : xs.toList with
    | nil =>
      rw [hx] at i
      cases i
      exact absurd rfl hne
    | cons y ys =>
      obtain ⟨m, t, hy⟩ := i.all y (by rw [hx]; exact List.mem_cons_self)
      have z : xs[0]? = some y := by
        have z := congrArg (fun l : List Value => l[0]?) hx
        simpa using z
      refine ⟨y :: fs, PySem.W.KatTups.cons ho hc hdt z k, by simp [hl], fun f hf => ?_⟩
      rcases List.mem_cons.mp hf with rfl | hf
      · exact ⟨m, t, hy⟩
      · exact hi f hf
section
variable {prog : Program} {w : World} {A : Around} {E : Value → Shared → Prop} {s : Shared}
theorem tups_sortable {a : Addr} {vs : List Value} {c : Nat} (ha : s.heap.get? a = some (seqObj "list" vs.toArray c)) (x : TupsAny s.heap vs) (h2 : 2 ≤ vs.length) :
    SrtO.SortableO prog w A s a vs fun v u => lx (TS.intsOf s.heap v) (TS.intsOf s.heap u) := by
  intro h' keep
  have kt : ∀ b o, s.heap.get? b = some o → o.cls = .type "tuple" → h'.get? b = some o := fun b o e hc => by
    refine keep b o ?_ e
    rintro rfl
    rw [ha] at e
    cases e
    exact absurd (Value.type.inj hc) (by decide)
  have x' : TupsAny h' vs := fun v hv => by
    obtain ⟨ns, t, hne⟩ := x v hv
    exact ⟨ns, t.keeps kt, hne⟩
  have same : ∀ v ∈ vs, TS.intsOf h' v = TS.intsOf s.heap v := fun v hv => by
    obtain ⟨ns, t, _⟩ := x v hv
    rw [t.ints, (t.keeps kt).ints]
  obtain ⟨fs, k, hl, hi⟩ := firsts_any vs x'
  refine ⟨tuples' true, fun Q E hq => ?_, fun p q hp hq => ?_⟩
  · refine PySem.W.kat_kind (T := Value.type "int") k (by omega) (fun f hf => ?_) rfl ?_
    · obtain ⟨n, t, rfl⟩ := hi f hf
      exact PySem.W.Looks.of_pure rfl
    · have e : (Value.type "int" != Value.type "tuple") = true := by decide +kernel
      rw [e]; exact hq
  · show wpAny (model prog w) A (keyLt' (tuples' true) p.1 q.1) (fun r s' => s' = _ ∧ r = lx (TS.intsOf s.heap p.1) (TS.intsOf s.heap q.1)) (fun _ _ => False) _
    rw [← same _ hp, ← same _ hq]
    obtain ⟨ns, t1, _⟩ := x' _ hp
    obtain ⟨ms, t2, _⟩ := x' _ hq
    rw [t1.ints, t2.ints]
    obtain ⟨b1, xs, e1, ⟨o1, ho1, hc1, n1, hd1⟩, i1⟩ := t1
    obtain ⟨b2, ys, e2, ⟨o2, ho2, hc2, n2, hd2⟩, i2⟩ := t2
    rw [e1, e2]
    refine PySem.W.kat_lt ho1 hd1 ho2 hd2 (lex_any 0 i1 i2 ?_ ⟨rfl, rfl⟩)
    have l1 := i1.length
    have l2 := i2.length
    rw [Array.length_toList] at l1 l2
    rw [l1, l2]
end
section
variable {P : Program} {w : World} {A : Around} {E : Value → Shared → Prop} {s : Shared}
theorem refs_of (L : List (Addr × List Int)) : ∀ vs : List Value, (∀ v ∈ vs, ∃ q ∈ L, v = Value.ref q.1) → ∃ L1 : List (Addr × List Int), vs = L1.map (fun q => Value.ref q.1) ∧ ∀ q ∈ L1, q ∈ L
  | [], _ => ⟨[], rfl, fun q hq => nomatch hq⟩
  | v :: vs, h => by
    obtain ⟨q, hq, e⟩ := h v List.mem_cons_self
    obtain ⟨L1, e1, hs⟩ := refs_of L vs fun u hu => h u (List.mem_cons_of_mem _ hu)
    refine ⟨q :: L1, by rw [List.map_cons, e, e1], fun r hr => ?_⟩
    rcases List.mem_cons.mp hr with rfl | hr
    · exact hq
    · exact hs r hr
theorem sorted_set_any {a : Addr} {L : List (Addr × List Int)} {es : Array (Int × Value)} {ep : Nat} {t : SetTable} {Q : Value → Shared → Prop} (R : SetTR P w s.heap a L es ep t) (hh : A.handled = none) (hne : ∀ p ∈ L, p.2 ≠ [])
    (hQ : ∀ s' p (out : Array Value) (c : Nat) (L' : List (Addr × List Int)), (∀ b o, s.heap.get? b = some o → s'.heap.get? b = some o) → s'.gens = s.gens → s'.os = s.os → s.heap.objs.size ≤ p →
      s'.heap.get? p = some (seqObj "list" out c) → out.toList = L'.map (fun q => Value.ref q.1) → L'.length = L.length → (∀ q, q ∈ L' ↔ q ∈ L) → Q (.ref p) s') : wpAny (model P w) A (call (.builtin "sorted") [.ref a]) Q E s := by
  obtain ⟨o, ho, hex, hdat⟩ := R.ob
  have hsize := R.size
  have hfew := R.few
  refine Calls.call_function_entry kind_sorted plain_sorted entry_sorted (args_sorted1 _) ?_
  unfold Builtin.«sorted»
  refine wpAny_bind (m := checkCount "sorted" 1 1 _) (wpAny_pure (wpAny_bind (collect_set (A := A.in1) hh ⟨o, ho, hex.1, hdat⟩ R.fits (by unfold scanBound; omega) R.tab.ris R.led fun s1 vs k1 hz g1 o1 pm => ?_)))
  have hes : es.toList.map (·.2) = L.map fun q => Value.ref q.1 := by
    rw [R.rows]
    show List.map _ (List.map _ L) = _
    rw [List.map_map] <;> rfl
  rw [hes] at pm
  have hvl : vs.length < 64 := by rw [pm.length_eq, List.length_map]; exact hfew
  refine wpAny_bind (wpAny_newList ?_ (by rw [sizeLine_eq]; omega))
  have hL : (s1.heap.push (seqObj "list" vs.toArray 0)).get? s1.heap.objs.size = some (seqObj "list" vs.toArray 0) := Heap.get?_push_size _ rfl
  have x : TupsAny (s1.heap.push (seqObj "list" vs.toArray 0)) vs := fun v hv => by
    obtain ⟨q, hq, e⟩ := List.mem_map.mp (pm.mem_iff.mp hv)
    rw [← e]
    exact ⟨q.2, tupInts_of (P := P) (w := w) (isT_keep (R.tup q hq) fun b u e => Heap.get?_push_of_some _ (k1 b u e)), hne q hq⟩
  refine wpAny_bind (wpAny_holding (wpAny_call_entry slot_list_sort ⟨_, hL, rfl⟩ entry_list_sort (SrtO.list_sort_ord (s := { s1 with heap := s1.heap.push (seqObj "list" vs.toArray 0) }) (swo_lx (TS.intsOf _)) hL (by rw [sizeLine_eq]; omega) (fun h2 => tups_sortable hL x h2) fun out a1 a2 => ⟨_, rfl, ?_⟩) (args_list_sort _)))
  have pout : out.Perm vs := a2.perm
  obtain ⟨c, hc⟩ := sortedHeap_at (vs := vs) (out := out.toArray) hL
  obtain ⟨L', e', hs'⟩ := refs_of L out fun v hv => by
    obtain ⟨q, hq, e⟩ := List.mem_map.mp (pm.mem_iff.mp (pout.mem_iff.mp hv))
    exact ⟨q, hq, e.symm⟩
  have hlen : L'.length = L.length := by
    have := (pout.trans pm).length_eq
    rw [e', List.length_map, List.length_map] at this
    exact this
  have hall : ∀ q, q ∈ L' ↔ q ∈ L := fun q => ⟨hs' q, fun hq => by
    have hm : Value.ref q.1 ∈ out := (pout.trans pm).mem_iff.mpr (List.mem_map.mpr ⟨q, hq, rfl⟩)
    rw [e'] at hm
    obtain ⟨r, hr, e⟩ := List.mem_map.mp hm
    have e1 : r.1 = q.1 := Value.ref.inj e
    have t1 := R.tup r (hs' r hr)
    have t2 := R.tup q hq
    rw [e1] at t1
    have e2 : r.2 = q.2 := t1.inj t2
    have : r = q := Prod.ext e1 e2
    rw [← this]; exact hr⟩
  refine wpAny_pure ⟨_, rfl, hQ _ s1.heap.objs.size out.toArray c L' (fun b u e => ?_) g1 o1 hz hc (by simpa using e') hlen hall⟩
  have q := k1 b u e
  have hlt := Heap.lt_size q
  show (sortedHeap (s1.heap.push (seqObj "list" vs.toArray 0)) s1.heap.objs.size vs out.toArray).get? b = some u
  rw [sortedHeap_old (Nat.ne_of_lt hlt) (by rw [size_push']; exact Nat.lt_succ_of_lt hlt)]
  exact Heap.get?_push_of_some _ q
end
section
variable {X : Cx}
/-- sorted(set), the set's members tuples of ints, none empty: a list of them all -/
def rSortedV (K : PySem.W.Frag) (P : Program) (w : World) : List V → Hp → VK → Prop := fun vs H Q => ∃ (a : Addr) (L : List (Addr × List Int)), vs = [V.ref a] ∧ H a = some (SetTO P w a L) ∧ (∀ p ∈ L, SqT K H p.1 (p.2.map V.int)) ∧ (∀ p ∈ L, p.2 ≠ []) ∧
  ∀ (L' : List (Addr × List Int)) (p : Addr), L'.length < 64 → (∀ q, q ∈ L' ↔ q ∈ L) → H p = none → Q (.ref p) (upd H p (.lst (L'.map fun q => V.ref q.1)))
theorem cr_sortedV (hc : X.calm = true) : CallR X (.builtin "sorted") (rSortedV X.K X.prog X.w) := by
  intro pins s σ H vs us Q I r h
  obtain ⟨a, L, rfl, ha, hk, hne, q⟩ := h
  obtain ⟨es, ep, t, R⟩ := SetT0.full (show SetT0 X.prog X.w s.heap a L from (I.hok a _ ha).1) fun p hp => I.isT (hk p hp)
  rw [Vals.ref1 r]
  refine sorted_set_any R (I.ok.hd hc) hne fun s' p out c L' k g o hp hg hout hlen hall => ?_
  have hfew : L'.length < 64 := by rw [hlen]; exact R.few
  have hl : (L'.map fun q => V.ref q.1).length ≤ sizeLine := by rw [List.length_map, sizeLine_eq]; omega
  have hn : H p = none := I.hok.fresh hp
  have hv : Vals (L'.map fun q => V.ref q.1) out.toList := by rw [hout]; exact vals_of_refs L'
  have J : Inv X pins σ (upd H p (.lst (L'.map fun q => V.ref q.1))) s' :=
    I.call' (ch := []) o (Un.laid k hp hn) (I.hok.laid k hp ⟨hl, out.toList, c, hv, hg⟩) (by rw [g]; exact I.bare) (fun _ z => nomatch z)
  exact ⟨.ref p, _, J, rfl, q L' p hfew hall hn⟩
end
end Wk
namespace Wk
open PySem PySem.Spec PyProof.Rows L2
open PQ (T)

/-! ### the text -/
def topS (i : Nat) : Stmt := PySem.Challenge.pw_unpartedrows_k35_whole_more_sets.main.body.getD i (.Pass ⟨0, 0, 0, 0⟩)

/-! ### heaps -/
/-- all but the list at l is as it was -/
def But (l : Addr) (H H' : Hp) : Prop := ∀ a o, a ≠ l → H a = some o → H' a = some o
/-- tuples stand -/
def Et (H H' : Hp) : Prop := ∀ a xs, H a = some (.tup xs) → H' a = some (.tup xs)
theorem Et.refl (H : Hp) : Et H H := fun _ _ h => h
theorem Et.trans {H H1 H2 : Hp} (a : Et H H1) (b : Et H1 H2) : Et H H2 := fun x o h => b x o (a x o h)
theorem et_of {H H' : Hp} (h : Same H H') : Et H H' := fun a xs e => h a _ e
theorem et_but {l : Addr} {xs : List V} {H H' : Hp} (hl : H l = some (.lst xs)) (h : But l H H') : Et H H' := fun a ys e => by
  refine h a _ ?_ e
  rintro rfl
  rw [hl] at e; cases e
theorem et_lst {l : Addr} {xs : List V} {o : HO} {H : Hp} (hl : H l = some (.lst xs)) : Et H (upd H l o) := fun a ys e => by
  rw [upd_ne]
  · exact e
  · rintro rfl
    rw [hl] at e; cases e
theorem same_new {H : Hp} {p : Addr} {o : HO} (h : H p = none) : Same H (upd H p o) := fun b u e => by
  rw [upd_ne (ne_of_none e h)]
  exact e
theorem But.refl (l : Addr) (H : Hp) : But l H H := fun _ _ _ h => h
theorem But.trans {l : Addr} {H H1 H2 : Hp} (a : But l H H1) (b : But l H1 H2) : But l H H2 := fun x o n h => b x o n (a x o n h)
theorem but_of {l : Addr} {H H' : Hp} (h : Same H H') : But l H H' := fun a o _ e => h a o e
theorem but_upd {l : Addr} {H : Hp} {o : HO} : But l H (upd H l o) := fun a u n e => by rw [upd_ne n]; exact e
/-- a list that the entry does not know may change -/
theorem same_mut {H H' : Hp} {l : Addr} {o : HO} (e : Same H H') (h : H l = none) : Same H (upd H' l o) := fun a u ha => by
  rw [upd_ne (ne_of_none ha h)]
  exact e a u ha
theorem same_but {H H1 H2 : Hp} {l : Addr} (e : Same H H1) (h : H l = none) (b : But l H1 H2) : Same H H2 := fun a u ha => b a u (ne_of_none ha h) (e a u ha)
theorem _root_.L2.Same.seqT {K : PySem.W.Frag} {H H' : Hp} {a : Addr} {xs : List V} (e : Same H H') (h : SqT K H a xs) : SqT K H' a xs := by
  rcases h with (h | ⟨o, h⟩) | h
  · exact .inl (.inl (e _ _ h))
  · exact .inl (.inr ⟨o, e _ _ h⟩)
  · exact .inr h
theorem But.lst {l a : Addr} {xs : List V} {H H' : Hp} (b : But l H H') (n : a ≠ l) (h : H a = some (.lst xs)) : H' a = some (.lst xs) := b a _ n h

theorem nodup_len {α : Type} : ∀ {l D : List α}, l.Nodup → (∀ x ∈ l, x ∈ D) → l.length ≤ D.length
  | [], _, _, _ => Nat.zero_le _
  | a :: l, D, hn, h => by
    obtain ⟨r, e⟩ := PQ.perm_of_mem (h a List.mem_cons_self)
    obtain ⟨h1, h2⟩ := List.nodup_cons.mp hn
    have := nodup_len (l := l) (D := r) h2 fun x hx => by
      rcases List.mem_cons.mp (e.mem_iff.mp (h x (List.mem_cons_of_mem _ hx))) with rfl | hx2
      · exact absurd hx h1
      · exact hx2
    rw [e.length_eq, List.length_cons, List.length_cons]
    omega

/-! ### trees on the heap -/
def wd (b : Bool) : Str := if b then "row" else "any"
mutual
def TA (H : Hp) : V → T → Prop
  | v, .th i => v = .int i
  | v, .nd b ps => ∃ a c vs, v = .ref a ∧ H a = some (.tup [.str (wd b), .ref c]) ∧ H c = some (.tup vs) ∧ TAs H vs ps
def TAs (H : Hp) : List V → List T → Prop
  | vs, [] => vs = []
  | vs, p :: r => ∃ v vr, vs = v :: vr ∧ TA H v p ∧ TAs H vr r
end
theorem TA_th {H : Hp} {v : V} {i : Int} : TA H v (.th i) ↔ v = .int i := by simp [TA]
theorem TA_nd {H : Hp} {v : V} {b : Bool} {ps : List T} : TA H v (.nd b ps) ↔ ∃ a c vs, v = .ref a ∧ H a = some (.tup [.str (wd b), .ref c]) ∧ H c = some (.tup vs) ∧ TAs H vs ps := by simp [TA]
theorem TAs_nil {H : Hp} {vs : List V} : TAs H vs [] ↔ vs = [] := by simp [TAs]
theorem TAs_cons {H : Hp} {vs : List V} {p : T} {r : List T} : TAs H vs (p :: r) ↔ ∃ v vr, vs = v :: vr ∧ TA H v p ∧ TAs H vr r := by simp [TAs]
theorem TAs_mono_of {H H' : Hp} {ps : List T} (ih : ∀ p ∈ ps, ∀ v, TA H v p → TA H' v p) : ∀ vs, TAs H vs ps → TAs H' vs ps := by
  induction ps with
  | nil => intro vs h; rw [TAs_nil] at h ⊢; exact h
  | cons p r ih2 =>
    intro vs h
    obtain ⟨v, vr, rfl, h1, h2⟩ := TAs_cons.mp h
    exact TAs_cons.mpr ⟨v, vr, rfl, ih p (by simp) v h1, ih2 (fun q hq => ih q (by simp [hq])) vr h2⟩
theorem TA.et {H H' : Hp} (e : Et H H') : ∀ {t : T} {v : V}, TA H v t → TA H' v t := by
  intro t
  induction t using T.ind with
  | h1 i => intro v h; rw [TA_th] at h ⊢; exact h
  | h2 b ps ih =>
    intro v h
    obtain ⟨a, c, vs, rfl, h1, h2, h3⟩ := TA_nd.mp h
    exact TA_nd.mpr ⟨a, c, vs, rfl, e _ _ h1, e _ _ h2, TAs_mono_of (fun p hp v => ih p hp) vs h3⟩
theorem TAs.et {H H' : Hp} (e : Et H H') {ps : List T} {vs : List V} (h : TAs H vs ps) : TAs H' vs ps := TAs_mono_of (fun p _ v => TA.et e) vs h
theorem TA.to {H H' : Hp} (e : Same H H') {t : T} {v : V} (h : TA H v t) : TA H' v t := h.et (et_of e)
theorem TAs.to {H H' : Hp} (e : Same H H') {ps : List T} {vs : List V} (h : TAs H vs ps) : TAs H' vs ps := h.et (et_of e)
theorem TAs.len {H : Hp} : ∀ {ps : List T} {vs : List V}, TAs H vs ps → vs.length = ps.length
  | [], vs, h => by rw [TAs_nil] at h; rw [h]; rfl
  | p :: r, vs, h => by
    obtain ⟨v, vr, rfl, _, h2⟩ := TAs_cons.mp h
    rw [List.length_cons, List.length_cons, TAs.len h2]
theorem TAs.get {H : Hp} : ∀ {ps : List T} {vs : List V} {i : Nat} {p : T}, TAs H vs ps → ps[i]? = some p → ∃ v, vs[i]? = some v ∧ TA H v p
  | [], _, _, _, _, e => by simp at e
  | q :: r, vs, i, p, h, e => by
    obtain ⟨v, vr, rfl, h1, h2⟩ := TAs_cons.mp h
    cases i with
    | zero => simp at e; subst e; exact ⟨v, rfl, h1⟩
    | succ i =>
      obtain ⟨u, e1, e2⟩ := TAs.get (i := i) (p := p) h2 (by simpa using e)
      exact ⟨u, by simpa using e1, e2⟩
theorem TAs.getV {H : Hp} : ∀ {ps : List T} {vs : List V} {i : Nat} {v : V}, TAs H vs ps → vs[i]? = some v → ∃ p, ps[i]? = some p ∧ TA H v p
  | [], vs, _, _, h, e => by rw [TAs_nil] at h; subst h; simp at e
  | q :: r, vs, i, v, h, e => by
    obtain ⟨w, vr, rfl, h1, h2⟩ := TAs_cons.mp h
    cases i with
    | zero => simp at e; subst e; exact ⟨q, rfl, h1⟩
    | succ i =>
      obtain ⟨p, e1, e2⟩ := TAs.getV (i := i) (v := v) h2 (by simpa using e)
      exact ⟨p, by simpa using e1, e2⟩
theorem TAs.app {H : Hp} : ∀ {ps qs : List T} {vs ws : List V}, TAs H vs ps → TAs H ws qs → TAs H (vs ++ ws) (ps ++ qs)
  | [], qs, vs, ws, h, h2 => by rw [TAs_nil] at h; subst h; exact h2
  | p :: r, qs, vs, ws, h, h2 => by
    obtain ⟨v, vr, rfl, h3, h4⟩ := TAs_cons.mp h
    exact TAs_cons.mpr ⟨v, vr ++ ws, rfl, h3, TAs.app h4 h2⟩
theorem TAs.one {H : Hp} {v : V} {p : T} (h : TA H v p) : TAs H [v] [p] := TAs_cons.mpr ⟨v, [], rfl, h, TAs_nil.mpr rfl⟩
theorem TAs.split {H : Hp} : ∀ {ps qs : List T} {ws : List V}, TAs H ws (ps ++ qs) → ∃ u v, ws = u ++ v ∧ TAs H u ps ∧ TAs H v qs
  | [], qs, ws, h => ⟨[], ws, rfl, TAs_nil.mpr rfl, h⟩
  | p :: r, qs, ws, h => by
    obtain ⟨v, vr, rfl, h1, h2⟩ := TAs_cons.mp h
    obtain ⟨u, w, rfl, h3, h4⟩ := TAs.split h2
    exact ⟨v :: u, w, rfl, TAs_cons.mpr ⟨v, u, rfl, h1, h3⟩, h4⟩
theorem TAs.rev {H : Hp} : ∀ {ps : List T} {vs : List V}, TAs H vs ps → TAs H vs.reverse ps.reverse
  | [], vs, h => by rw [TAs_nil] at h; subst h; exact TAs_nil.mpr rfl
  | p :: r, vs, h => by
    obtain ⟨v, vr, rfl, h1, h2⟩ := TAs_cons.mp h
    rw [List.reverse_cons, List.reverse_cons]
    exact (TAs.rev h2).app (.one h1)

/-! ### trees as data -/
mutual
def pd : T → PyData
  | .th i => .int i
  | .nd b ps => .tuple [.str (wd b), .tuple (pds ps)]
def pds : List T → List PyData
  | [] => []
  | p :: r => pd p :: pds r
end
def pdO : Option T → PyData
  | none => .none
  | some t => pd t
theorem pds_eq : ∀ ps : List T, pds ps = ps.map pd
  | [] => by simp [pds]
  | p :: r => by simp [pds, pds_eq r]
theorem pd_th (i : Int) : pd (.th i) = .int i := by simp [pd]
theorem pd_nd (b : Bool) (ps : List T) : pd (.nd b ps) = .tuple [.str (wd b), .tuple (ps.map pd)] := by simp [pd, pds_eq]
theorem dpAll_of {K : PySem.W.Frag} {H : Hp} : ∀ {ps : List T} {vs : List V}, (∀ p ∈ ps, ∀ v, TA H v p → Dp K H v (pd p)) → TAs H vs ps → DpAll K H vs (ps.map pd)
  | [], vs, _, h => by rw [TAs_nil] at h; subst h; exact .nil
  | p :: r, vs, ih, h => by
    obtain ⟨v, vr, rfl, h1, h2⟩ := TAs_cons.mp h
    exact .cons (ih p (by simp) v h1) (dpAll_of (fun q hq => ih q (by simp [hq])) h2)
theorem TA.dp {K : PySem.W.Frag} {H : Hp} : ∀ {t : T} {v : V}, TA H v t → Dp K H v (pd t) := by
  intro t
  induction t using T.ind with
  | h1 i => intro v h; rw [TA_th] at h; subst h; rw [pd_th]; exact .int i
  | h2 b ps ih =>
    intro v h
    obtain ⟨a, c, vs, rfl, h1, h2, h3⟩ := TA_nd.mp h
    rw [pd_nd]
    exact .tup (.of h1) (.cons (.str _) (.cons (.tup (.of h2) (dpAll_of (fun p hp v => ih p hp) h3)) .nil))
theorem TAs.dp {K : PySem.W.Frag} {H : Hp} {ps : List T} {vs : List V} (h : TAs H vs ps) : DpAll K H vs (ps.map pd) := dpAll_of (fun p _ v => TA.dp) h
theorem lay_all : ∀ ps : List T, (∀ p ∈ ps, (pd p).canLay0 = true) → PyData.canLayAll0 (ps.map pd) = true
  | [], _ => by simp [PyData.canLayAll0]
  | p :: r, h => by simp [PyData.canLayAll0, h p (by simp), lay_all r fun q hq => h q (by simp [hq])]
theorem lay_pd : ∀ t : T, (pd t).canLay0 = true := by
  intro t
  induction t using T.ind with
  | h1 i => rw [pd_th]; simp [PyData.canLay0]
  | h2 b ps ih =>
    rw [pd_nd]
    have hs : PyData.strOk (wd b) = true := by cases b <;> decide +kernel
    simp [PyData.canLay0, PyData.canLayAll0, lay_all ps ih, hs]
theorem depth_all {n : Nat} : ∀ ps : List T, (∀ p ∈ ps, (pd p).depth ≤ n) → PyData.depthAll (ps.map pd) ≤ n
  | [], _ => by simp [PyData.depthAll]
  | p :: r, h => by
    simp only [List.map_cons, PyData.depthAll]
    exact Nat.max_le.mpr ⟨h p (by simp), depth_all r fun q hq => h q (by simp [hq])⟩
theorem depth_pd : ∀ t : T, PQ.wf t → (pd t).depth ≤ 2 * (PQ.lst t).length := by
  intro t
  induction t using T.ind with
  | h1 i => intro _; rw [pd_th]; simp [PyData.depth]
  | h2 b ps ih =>
    intro hw
    obtain ⟨h2, _, hk⟩ := PQ.wf_nd.mp hw
    have hd : PyData.depthAll (ps.map pd) ≤ 2 * (PQ.lstL ps).length - 2 := depth_all ps fun p hp => by
      have := ih p hp (hk p hp)
      have := PQ.kid_len h2 hk hp
      omega
    have hl := PQ.kids_len hk
    rw [pd_nd, PQ.lst_nd]
    simp only [PyData.depth, PyData.depthAll]
    omega
theorem shaped_pd {t : T} (h : PQ.wf t) (hl : (PQ.lst t).length ≤ 24) : SeqAt.shaped (pd t) = true := by
  unfold SeqAt.shaped
  rw [lay_pd, Bool.true_and, decide_eq_true_eq]
  have := depth_pd t h
  omega
theorem shaped_pdO {o : Option T} (h : ∀ t, o = some t → PQ.wf t ∧ (PQ.lst t).length ≤ 24) : SeqAt.shaped (pdO o) = true := by
  cases o with
  | none => simp [pdO, SeqAt.shaped, PyData.canLay0, PyData.depth]
  | some t => exact shaped_pd (h t rfl).1 (h t rfl).2
theorem shaped_list {ps : List T} (h : ∀ p ∈ ps, PQ.wf p ∧ (PQ.lst p).length ≤ 24) : SeqAt.shaped (.list (ps.map pd)) = true := by
  unfold SeqAt.shaped
  rw [Bool.and_eq_true, decide_eq_true_eq]
  refine ⟨?_, ?_⟩
  · simp [PyData.canLay0, lay_all ps fun p _ => lay_pd p]
  · have : PyData.depthAll (ps.map pd) ≤ 48 := depth_all ps fun p hp => by
      have := depth_pd p (h p hp).1
      have := (h p hp).2
      omega
    simp only [PyData.depth]; omega
theorem wd_inj {a b : Bool} (h : (wd a == wd b) = true) : a = b := by
  cases a <;> cases b <;> first | rfl | (exfalso; revert h; decide +kernel)
theorem eqv_all {ps : List T} (ih : ∀ p ∈ ps, ∀ q, PyData.eqv (pd p) (pd q) = true → p = q) : ∀ qs : List T, PyData.eqvAll (ps.map pd) (qs.map pd) = true → ps = qs := by
  induction ps with
  | nil =>
    intro qs h
    cases qs with
    | nil => rfl
    | cons q r => simp [PyData.eqvAll] at h
  | cons p r ih2 =>
    intro qs h
    cases qs with
    | nil => simp [PyData.eqvAll] at h
    | cons q r' =>
      simp only [List.map_cons, PyData.eqvAll, Bool.and_eq_true] at h
      rw [ih p (by simp) q h.1, ih2 (fun x hx => ih x (by simp [hx])) r' h.2]
theorem eqv_pd : ∀ s t : T, PyData.eqv (pd s) (pd t) = true → s = t := by
  intro s
  induction s using T.ind with
  | h1 i =>
    intro t h
    cases t with
    | th j => rw [pd_th, pd_th] at h; simp [PyData.eqv] at h; rw [h]
    | nd b ps => rw [pd_th, pd_nd] at h; simp [PyData.eqv] at h
  | h2 b ps ih =>
    intro t h
    cases t with
    | th j => rw [pd_th, pd_nd] at h; simp [PyData.eqv] at h
    | nd b2 qs =>
      rw [pd_nd, pd_nd] at h
      simp only [PyData.eqv, PyData.eqvAll, Bool.and_eq_true] at h
      rw [wd_inj h.1, eqv_all ih qs h.2.1]
theorem eqv_pdO {s t : Option T} : PyData.eqv (pdO s) (pdO t) = true ↔ s = t := by
  constructor
  · intro h
    cases s with
    | none =>
      cases t with
      | none => rfl
      | some t =>
        cases t with
        | th j => simp [pdO, pd_th, PyData.eqv] at h
        | nd b2 qs => simp [pdO, pd_nd, PyData.eqv] at h
    | some s =>
      cases t with
      | none =>
        cases s with
        | th j => simp [pdO, pd_th, PyData.eqv] at h
        | nd b2 qs => simp [pdO, pd_nd, PyData.eqv] at h
      | some t => rw [eqv_pd s t h]
  · rintro rfl
    cases s with
    | none => simp [pdO, PyData.eqv]
    | some s => exact SeqAt.eqv_refl _ (lay_pd s)
open Classical in
theorem eqv_dec {s t : Option T} : PyData.eqv (pdO s) (pdO t) = decide (s = t) := by
  by_cases h : s = t
  · rw [decide_eq_true h]; exact eqv_pdO.mpr h
  · rw [decide_eq_false h]
    cases e : PyData.eqv (pdO s) (pdO t) with
    | false => rfl
    | true => exact absurd (eqv_pdO.mp e) h
/-- a tree or None -/
def TO (H : Hp) : V → Option T → Prop
  | v, none => v = .non
  | v, some t => TA H v t
theorem TO.dp {K : PySem.W.Frag} {H : Hp} {o : Option T} {v : V} (h : TO H v o) : Dp K H v (pdO o) := by
  cases o with
  | none => cases (show v = .non from h); exact .non
  | some t => exact TA.dp h
theorem TO.to {H H' : Hp} (e : Same H H') {o : Option T} {v : V} (h : TO H v o) : TO H' v o := by
  cases o with
  | none => exact h
  | some t => exact TA.to e h
theorem TA.ne_non {H : Hp} {v : V} {t : T} (h : TA H v t) : v ≠ .non := by
  cases t with
  | th i => rw [TA_th] at h; subst h; intro e; cases e
  | nd b ps => obtain ⟨a, _, _, rfl, _⟩ := TA_nd.mp h; intro e; cases e

/-! ### the program's own calls -/
/-- the def x keeps the promise sp, at level k -/
def Cb (P : Program) (w : World) (K : PySem.W.Frag) (mg : Str → Option Value) (base : Heap) (k : Nat) (x : Str) (ps : List Str) (sp : Sp) : Prop :=
  ∃ f fd, FnOk P w K mg base CX0 k f fd ps sp ∧ mg x = some (.ref f) ∧ PySem.W.keepIn K (.ref f) = true ∧ Binds K fd ps []
/-- the def x of the text stands there -/
def Tx (K : PySem.W.Frag) (mg : Str → Option Value) (x : Str) (st : Stmt) (ps : List Str) : Prop :=
  ∃ f fd, Fun K x x st f fd ∧ Binds K fd ps [] ∧ mg x = some (.ref f)
section
variable {P : Program} {w : World} {K : PySem.W.Frag} {mg : Str → Option Value} {base : Heap}
theorem Cb.mono {j k : Nat} {x : Str} {ps : List Str} {sp : Sp} (c : Cb P w K mg base j x ps sp) (h : j ≤ k) : Cb P w K mg base k x ps sp := by
  obtain ⟨f, fd, F, a, b, d⟩ := c
  exact ⟨f, fd, F.mono h, a, b, d⟩
theorem Tx.cb {x : Str} {st : Stmt} {N ps : List Str} {k : Nat} {sp : Sp} (t : Tx K mg x st ps) (S : FnScope N ps (defScope st)) (len : ∀ vs H Q E, sp vs H Q E → vs.length = ps.length)
    (body : ∀ (f : Addr) (cdv : Value) (A : Around) (outer : List Env) (s : Shared) (H : Hp) (vs : List V) (Q : VK) (E : XK), Room k (A.deeper (envOfC x (defScope st) s.heap.objs.size f cdv)) → sp vs H Q E →
      ∃ t, PSs (cxOf CX0 P w K mg base N x (defScope st) f cdv A outer s H E).nox (defBody st) t ∧ t { nx := fun _ H' => Q .non H', rt := Q } (start N vs) H) : Cb P w K mg base (k + 1) x ps sp := by
  obtain ⟨f, fd, F, b, m⟩ := t
  exact ⟨f, fd, F.ok S len (fun cdv A outer s H vs Q E hr h => body f cdv A outer s H vs Q E hr h), m, F.kp, b⟩
end
theorem pe_user {X : Cx} {k j : Nat} {x : Str} {ps : List Str} {sp : Sp} {p pos : Pos} {e : Expr} {es : List Expr} {t : L2.TA} (c : Cb X.prog X.w X.K X.mg X.base k x ps sp) (hr : Room j X.A) (hkj : k ≤ j) (ha : PA X (e :: es) t) (hg : Gl X x := by rfl)
    (hdb : (x == ("__debug__" : Str)) = false := by decide) (he : starEach (e :: es) X.env = (false, eval e X.env) :: starEach es X.env := by rfl) (hpl : (backTo pos (starEach es X.env)).any (·.1) = false := by rfl) :
    PE X (.Call (.Name x p) (e :: es) [] pos) (tCall sp [] E0 t) := by
  obtain ⟨f, fd, F, hm, hk, hb⟩ := c
  exact pe_call F (hr.mono hkj) hg hm hk hb .nil pass0 ha hdb he hpl
/-- what the top has written besides the defs -/
structure Txt (K : PySem.W.Frag) (mg : Str → Option Value) : Prop where
  n_len : mg "len" = none
  n_isinstance : mg "isinstance" = none
  n_min : mg "min" = none
  n_max : mg "max" = none
  n_sorted : mg "sorted" = none
  n_int : mg "int" = none
  n_str : mg "str" = none
  n_list : mg "list" = none
  n_tuple : mg "tuple" = none
  n_set : mg "set" = none
  n_range : mg "range" = none
  n_enumerate : mg "enumerate" = none
  n_all : mg "all" = none
  cThings : ∃ t, mg "MOST_THINGS" = some (.int 24 t)
  cSets : ∃ t, mg "MOST_SETS" = some (.int 40 t)
  cWords : ∃ a, mg "WORDS" = some (.ref a) ∧ ∀ H, SqT K H a [.str "any", .str "row"]
theorem pe_things {X : Cx} {pos : Pos} (T : Txt X.K X.mg) (hg : Gl X "MOST_THINGS" := by rfl) : PE X (.Name "MOST_THINGS" pos) (tC (.int 24)) := by
  obtain ⟨t, h⟩ := T.cThings
  exact pe_glob hg h ⟨t, rfl⟩
theorem pe_sets {X : Cx} {pos : Pos} (T : Txt X.K X.mg) (hg : Gl X "MOST_SETS" := by rfl) : PE X (.Name "MOST_SETS" pos) (tC (.int 40)) := by
  obtain ⟨t, h⟩ := T.cSets
  exact pe_glob hg h ⟨t, rfl⟩
def tWords (K : PySem.W.Frag) : TE := fun _ H Q => ∀ a, (∀ H, SqT K H a [.str "any", .str "row"]) → Q (.ref a) H
theorem pe_words {X : Cx} {pos : Pos} (T : Txt X.K X.mg) (hg : Gl X "WORDS" := by rfl) : PE X (.Name "WORDS" pos) (tWords X.K) := by
  obtain ⟨a, h, hS⟩ := T.cWords
  have g : PE X (.Name "WORDS" pos) (tC (.ref a)) := pe_glob hg h rfl
  exact ⟨fun pins s σ H Q I hq => g.run pins s σ H Q I (hq a hS)⟩
end Wk
namespace Wk
open PySem PySem.Spec PyProof.Rows L2
open PQ (T)
abbrev iL (l : List Int) : List V := l.map V.int
theorem iL_app (a b : List Int) : iL (a ++ b) = iL a ++ iL b := List.map_append
theorem small24 {n : Nat} (h : n ≤ 10000) : n ≤ sizeLine := Nat.le_trans h (by decide)
theorem small24' {n : Nat} (h : n ≤ 10000) : n < sizeLine := Nat.lt_of_le_of_lt h (by decide)
section
variable {P : Program} {w : World} {K : PySem.W.Frag} {mg : Str → Option Value} {base : Heap}
/-! ### is_thing -/
abbrev s_is_thing : Stmt := topS 15
abbrev n_is_thing : List Str := ["tree"]
abbrev p_is_thing : List Str := ["tree"]
theorem sc_is_thing : FnScope n_is_thing p_is_thing (defScope s_is_thing) := ⟨rfl, rfl, rfl, by decide +kernel, rfl, by decide +kernel, by decide +kernel⟩
def ThV (H : Hp) (v : V) (b : Bool) : Prop := (∃ i, v = .int i ∧ b = true) ∨ (∃ a xs, v = .ref a ∧ H a = some (.tup xs) ∧ b = false)
def isTh : T → Bool
  | .th _ => true
  | .nd _ _ => false
theorem thV_of {H : Hp} {v : V} {t : T} (h : TA H v t) : ThV H v (isTh t) := by
  cases t with
  | th i => exact .inl ⟨i, TA_th.mp h, rfl⟩
  | nd b ps => obtain ⟨a, c, vs, rfl, h1, _⟩ := TA_nd.mp h; exact .inr ⟨a, _, rfl, h1, rfl⟩
def spThing : Sp := fun vs H Q _ => ∃ v b, vs = [v] ∧ ThV H v b ∧ Q (.bl b) H
theorem c_is_thing (T : Txt K mg) (t : Tx K mg "is_thing" s_is_thing p_is_thing) : Cb P w K mg base 1 "is_thing" p_is_thing spThing := by
  refine t.cb sc_is_thing (fun vs H Q E h => ?_) (fun f cdv A outer s H vs Q E hr h => ?_)
  · obtain ⟨v, b, rfl, _⟩ := h
    rfl
  obtain ⟨v, b, rfl, hv, q⟩ := h
  refine ⟨_, (pss_one (ps_ret (pe_callB call_isi (by rfl) T.n_isinstance (by decide +kernel) (pa_cons (pv 0) (pa_cons (pe_bltn (v := .ty "int") (by rfl) T.n_int (by decide +kernel) rfl) pa_nil))))), ?_⟩
  rcases hv with ⟨i, rfl, rfl⟩ | ⟨a, xs, rfl, ha, rfl⟩
  · exact ⟨_, rfl, _, _, _, _, true, rfl, .ty _, .base (.int i), kit_ty (by decide +kernel), q⟩
  · exact ⟨_, rfl, _, _, _, _, false, rfl, .ty _, .base (.tup ha), kit_ty (by decide +kernel), q⟩

/-! ### listed -/
abbrev s_listed : Stmt := topS 16
abbrev n_listed : List Str := ["tree", "found", "part"]
abbrev p_listed : List Str := ["tree"]
theorem sc_listed : FnScope n_listed p_listed (defScope s_listed) := ⟨rfl, rfl, rfl, by decide +kernel, rfl, by decide +kernel, by decide +kernel⟩
def spListed (n : Nat) : Sp := fun vs H Q _ => ∃ v t, vs = [v] ∧ TA H v t ∧ PQ.wf t ∧ (PQ.lst t).length ≤ n ∧ n ≤ 24 ∧ ∀ p H', Same H H' → H p = none → H' p = some (.lst (iL (PQ.lst t))) → Q (.ref p) H'
theorem lstL_take {ps : List T} {i : Nat} {p : T} (h : ps[i]? = some p) : PQ.lstL (ps.take (i + 1)) = PQ.lstL (ps.take i) ++ PQ.lst p := by
  rw [List.take_add_one, h, PQ.lstL_append]
  show _ ++ PQ.lstL [p] = _
  rw [PQ.lstL_single]
theorem lstL_take_le {ps : List T} {i : Nat} : (PQ.lstL (ps.take i)).length ≤ (PQ.lstL ps).length := by
  conv => rhs; rw [← List.take_append_drop i ps]
  rw [PQ.lstL_append, List.length_append]; omega
theorem c_listed (T : Txt K mg) (t : Tx K mg "listed" s_listed p_listed) (c_is_thing : Cb P w K mg base 1 "is_thing" p_is_thing spThing) : ∀ n, Cb P w K mg base (n + 1) "listed" p_listed (spListed n) := by
  intro n
  induction n with
  | zero =>
    obtain ⟨f, fd, F, b, m⟩ := t
    refine ⟨f, fd, ⟨fun vs H Q E h => ?_, fun A outer s H args us vs Q E _ _ _ _ h => ?_⟩, m, F.kp, b⟩
    · obtain ⟨v, t, rfl, _⟩ := h; rfl
    · obtain ⟨v, t, rfl, _, hw, hl, _⟩ := h
      have := PQ.len_pos hw
      omega
  | succ n ih =>
    refine t.cb sc_listed (fun vs H Q E h => ?_) (fun f cdv A outer s H vs Q E hr h => ?_)
    · obtain ⟨v, t, rfl, _⟩ := h; rfl
    obtain ⟨v, t, rfl, hT, hw, hl, h24, q⟩ := h
    have nd := sc_listed.nd
    have c_listed := ih
    refine ⟨_,
    (pss_cons (ps_if (pt_val (pe_user c_is_thing hr (by omega) (pa_cons (pv 0) pa_nil)))
      (pss_one (ps_ret (pe_lst (pa_cons (pv 0) pa_nil))))
      pss_nil)
    (pss_cons (ps_set (i := 1) nd rfl (Or.inl rfl) (pe_lst pa_nil))
    (pss_cons (ps_for PassesOwn.never rfl (pi_tup (pe_ix ix_tup (pv 0) pe_int (fun _ _ => rfl))) (pg_name (i := 2) nd rfl (Or.inl rfl))
      (pss_one (ps_expr (pe_bm PySem.F.plainAttrs_list PySem.F.slot_list_extend PySem.F.type_list_extend mt_extend (pv 1) (pa_cons (pe_user c_listed hr (by omega) (pa_cons (pv 2) pa_nil)) pa_nil)))))
    (pss_one (ps_ret (pv 1)))))), ?_⟩
    refine ⟨_, rfl, _, _, rfl, thV_of hT, _, rfl, ?_⟩
    cases t with
    | th i =>
      refine iteT ⟨_, rfl, (by show 1 ≤ sizeLine; decide), fun p hp => q p _ (same_new hp) hp ?_⟩
      rw [upd_same, PQ.lst_th, TA_th.mp hT]; rfl
    | nd b ps =>
      refine iteF ⟨Nat.zero_le _, fun l hl0 => ?_⟩
      obtain ⟨a, c, ws, rfl, h1, h2, h3⟩ := TA_nd.mp hT
      obtain ⟨l2, _, hk⟩ := PQ.wf_nd.mp hw
      rw [PQ.lst_nd] at hl
      have s1 : Same H (upd H l (.lst [])) := same_new hl0
      refine ⟨.ref a, rfl, a, _, 1, .ref c, rfl, rfl, .of (s1 _ _ h1), atI_nat (j := 1) rfl, c, rfl, ⟨ws, .of (s1 _ _ h2)⟩, ?_⟩
      refine for_tup (xs := ws) (fun i σ H' => ∃ z, σ = [some (.ref a), some (.ref l), z] ∧ Same H H' ∧ H' l = some (.lst (iL (PQ.lstL (ps.take i))))) ⟨none, rfl, s1, by rw [upd_same]; rfl⟩ (fun i σ H' _ hP => ?_) (fun i x σ H' hx hP => ?_) (fun σ H' hP => ?_)
      · obtain ⟨z, rfl, sm, _⟩ := hP
        exact .of (sm _ _ h2)
      · obtain ⟨z, rfl, sm, hL⟩ := hP
        obtain ⟨p, hp, hTp⟩ := h3.getV hx
        have hpm : p ∈ ps := List.mem_of_getElem? hp
        have := PQ.kid_len l2 hk hpm
        refine ⟨.ref l, rfl, .inl ⟨rfl, _, .of hL⟩, x, rfl, x, p, rfl, hTp.to sm, hk p hpm, by omega, by omega, fun r H2 s2 hr0 hr2 => ?_⟩
        have hlr : l ≠ r := ne_of_none hL hr0
        refine ⟨l, r, _, _, rfl, rfl, s2 _ _ hL, hr2, ?_, ?_⟩
        · have a1 := lstL_take_le (ps := ps) (i := i)
          rw [List.length_map, List.length_map]
          exact small24 (by omega)
        · refine ⟨some x, rfl, same_mut (sm.trans s2) hl0, ?_⟩
          rw [upd_same, lstL_take hp, iL_app]
      · obtain ⟨z, rfl, sm, hL⟩ := hP
        refine ⟨.ref l, rfl, q l H' sm hl0 ?_⟩
        have e : ps.take ws.length = ps := List.take_of_length_le (by rw [h3.len]; exact Nat.le_refl _)
        rw [hL, e, PQ.lst_nd]

/-! ### least_thing -/
abbrev s_least_thing : Stmt := topS 17
abbrev n_least_thing : List Str := ["tree"]
abbrev p_least_thing : List Str := ["tree"]
theorem sc_least_thing : FnScope n_least_thing p_least_thing (defScope s_least_thing) := ⟨rfl, rfl, rfl, by decide +kernel, rfl, by decide +kernel, by decide +kernel⟩
/-- a tree of at most 24 things -/
def Sm (t : T) : Prop := PQ.wf t ∧ (PQ.lst t).length ≤ 24
def spLeast : Sp := fun vs H Q _ => ∃ v t, vs = [v] ∧ TA H v t ∧ Sm t ∧ ∀ H', Same H H' → Q (.int (PQ.least t)) H'
theorem c_least_thing (T : Txt K mg) (t : Tx K mg "least_thing" s_least_thing p_least_thing) (c_listed : Cb P w K mg base 25 "listed" p_listed (spListed 24)) : Cb P w K mg base 26 "least_thing" p_least_thing spLeast := by
  refine t.cb sc_least_thing (fun vs H Q E h => ?_) (fun f cdv A outer s H vs Q E hr h => ?_)
  · obtain ⟨v, t, rfl, _⟩ := h; rfl
  obtain ⟨v, t, rfl, hT, ⟨hw, hl⟩, q⟩ := h
  refine ⟨_, (pss_one (ps_ret (pe_callB (cr_min rfl) (by rfl) T.n_min (by decide +kernel) (pa_cons (pe_user c_listed hr (by omega) (pa_cons (pv 0) pa_nil)) pa_nil)))), ?_⟩
  refine ⟨_, rfl, v, t, rfl, hT, hw, hl, Nat.le_refl _, fun p H' sm hp hL => ?_⟩
  refine ⟨p, PQ.lst t, rfl, .of hL, PQ.len_pos hw, fun m hm hle => ?_⟩
  have e : m = PQ.least t := PQ.lmin_uniq hm fun x hx => hle x hx
  rw [e]
  exact q H' sm
end
end Wk
namespace Wk
open PySem PySem.Spec PyProof.Rows L2
open PQ (T)
/-! ### lists of ints as data -/
theorem dpI_all {K : PySem.W.Frag} {H : Hp} : ∀ l : List Int, DpAll K H (iL l) (l.map PyData.int)
  | [] => .nil
  | i :: l => .cons (.int i) (dpI_all l)
theorem dpI {K : PySem.W.Frag} {H : Hp} {p : Addr} {l : List Int} (h : SqL K H p (iL l)) : Dp K H (.ref p) (.list (l.map PyData.int)) := .lst h (dpI_all l)
theorem layI : ∀ l : List Int, PyData.canLayAll0 (l.map PyData.int) = true
  | [] => by simp [PyData.canLayAll0]
  | i :: l => by simp [PyData.canLayAll0, PyData.canLay0, layI l]
theorem depthI : ∀ l : List Int, PyData.depthAll (l.map PyData.int) = 0
  | [] => by simp [PyData.depthAll]
  | i :: l => by simp [PyData.depthAll, PyData.depth, depthI l]
theorem shapedI (l : List Int) : SeqAt.shaped (.list (l.map PyData.int)) = true := by
  unfold SeqAt.shaped
  rw [Bool.and_eq_true, decide_eq_true_eq]
  refine ⟨by simp [PyData.canLay0, layI l], ?_⟩
  simp only [PyData.depth, depthI l]; omega
theorem eqvI_all : ∀ l m : List Int, PyData.eqvAll (l.map PyData.int) (m.map PyData.int) = decide (l = m)
  | [], [] => by simp [PyData.eqvAll]
  | [], _ :: _ => by simp [PyData.eqvAll]
  | _ :: _, [] => by simp [PyData.eqvAll]
  | i :: l, j :: m => by
    simp only [List.map_cons, PyData.eqvAll, PyData.eqv, eqvI_all l m]
    by_cases e : i = j
    · subst e; simp
    · simp [e]
theorem eqvI (l m : List Int) : PyData.eqv (.list (l.map PyData.int)) (.list (m.map PyData.int)) = decide (l = m) := by
  simp only [PyData.eqv, eqvI_all]
theorem rgV_rng (n : Nat) : rgV 0 (n : Int) = iL (PQ.rng n) := by
  unfold rgV iL PQ.rng
  rw [List.map_map]
  have e : ((n : Int) - 0).toNat = n := by omega
  rw [e]
  apply List.map_congr_left
  intro i _
  show V.int (0 + (i : Int)) = V.int (i : Int)
  rw [Int.zero_add]
theorem sorted_rng {l : List Int} {n : Nat} (hp : l.Perm (PQ.rng n)) (hs : l.Pairwise (· ≤ ·)) : l = PQ.rng n :=
  List.Perm.eq_of_pairwise (le := fun a b => a ≤ b) (fun a b _ _ h1 h2 => by omega) hs ((PQ.rng_sorted n).imp fun h => Int.le_of_lt h) hp
section
variable {P : Program} {w : World} {K : PySem.W.Frag} {mg : Str → Option Value} {base : Heap}
/-! ### is_size, check_things -/
abbrev s_is_size : Stmt := topS 8
abbrev n_is_size : List Str := ["n"]
abbrev p_is_size : List Str := ["n"]
theorem sc_is_size : FnScope n_is_size p_is_size (defScope s_is_size) := ⟨rfl, rfl, rfl, by decide +kernel, rfl, by decide +kernel, by decide +kernel⟩
def Siz (n : Int) : Prop := 1 ≤ n ∧ n ≤ 24
def spSize : Sp := fun vs H Q _ => ∃ n, vs = [.int n] ∧ Siz n ∧ Q (.bl true) H
theorem c_is_size (T : Txt K mg) (t : Tx K mg "is_size" s_is_size p_is_size) : Cb P w K mg base 1 "is_size" p_is_size spSize := by
  refine t.cb sc_is_size (fun vs H Q E h => ?_) (fun f cdv A outer s H vs Q E hr h => ?_)
  · obtain ⟨n, rfl, _⟩ := h; rfl
  obtain ⟨n, rfl, hn, q⟩ := h
  refine ⟨_, (pss_one (ps_ret (pe_chain op_le op_le pe_int (pv 0) (pe_things T)))), ?_⟩
  refine ⟨.int n, rfl, 1, n, rfl, rfl, true, congrArg V.bl (decide_eq_true hn.1), iteT ⟨n, 24, rfl, rfl, ?_⟩⟩
  show Q (.bl (decide (n ≤ 24))) H
  rw [decide_eq_true hn.2]
  exact q
abbrev s_check_things : Stmt := topS 9
abbrev n_check_things : List Str := ["n"]
abbrev p_check_things : List Str := ["n"]
theorem sc_check_things : FnScope n_check_things p_check_things (defScope s_check_things) := ⟨rfl, rfl, rfl, by decide +kernel, rfl, by decide +kernel, by decide +kernel⟩
def spThings : Sp := fun vs H Q _ => ∃ n, vs = [.int n] ∧ Siz n ∧ Q (.int n) H
theorem c_check_things (T : Txt K mg) (t : Tx K mg "check_things" s_check_things p_check_things) (c_is_size : Cb P w K mg base 1 "is_size" p_is_size spSize) : Cb P w K mg base 2 "check_things" p_check_things spThings := by
  refine t.cb sc_check_things (fun vs H Q E h => ?_) (fun f cdv A outer s H vs Q E hr h => ?_)
  · obtain ⟨n, rfl, _⟩ := h; rfl
  obtain ⟨n, rfl, hn, q⟩ := h
  refine ⟨_,
    (pss_cons (ps_if (pt_not (pt_val (pe_user c_is_size hr (by omega) (pa_cons (pv 0) pa_nil))))
      (pss_one ps_never)
      pss_nil)
    (pss_one (ps_ret (pv 0)))), ?_⟩
  exact ⟨_, rfl, n, rfl, hn, true, rfl, iteF ⟨_, rfl, q⟩⟩
/-! ### is_set, check_set, check_table -/
abbrev s_is_set : Stmt := topS 10
abbrev n_is_set : List Str := ["n", "chosen", "at"]
abbrev p_is_set : List Str := ["n", "chosen"]
theorem sc_is_set : FnScope n_is_set p_is_set (defScope s_is_set) := ⟨rfl, rfl, rfl, by decide +kernel, rfl, by decide +kernel, by decide +kernel⟩
/-- a set of n things -/
def SetOk (n : Int) (S : List Int) : Prop := (∀ x ∈ S, 0 ≤ x ∧ x < n) ∧ S.Pairwise (· < ·)
theorem SetOk.len {n : Nat} {S : List Int} (h : SetOk n S) : S.length ≤ n := by
  have nd : S.Nodup := h.2.imp fun h => Int.ne_of_lt h
  have sub : ∀ x ∈ S, x ∈ PQ.rng n := fun x hx => PQ.mem_rng.mpr (h.1 x hx)
  have := nodup_len nd sub
  rwa [PQ.length_rng] at this
def spIsSet (K : PySem.W.Frag) : Sp := fun vs H Q _ => ∃ n a S, vs = [.int n, .ref a] ∧ SqT K H a (iL S) ∧ SetOk n S ∧ Siz n ∧ ∀ H', Same H H' → Q (.bl true) H'
theorem c_is_set (T : Txt K mg) (t : Tx K mg "is_set" s_is_set p_is_set) : Cb P w K mg base 1 "is_set" p_is_set (spIsSet K) := by
  refine t.cb sc_is_set (fun vs H Q E h => ?_) (fun f cdv A outer s H vs Q E hr h => ?_)
  · obtain ⟨n, a, S, rfl, _⟩ := h; rfl
  obtain ⟨n, a, S, rfl, hS, ok, hn, q⟩ := h
  have nd := sc_is_set.nd
  refine ⟨_,
    (pss_cons (ps_for PassesOwn.never rfl (pi_range1 (by rfl) T.n_range (pa_cons (pe_callB call_len_seq (by rfl) T.n_len PySem.boot_len (pa_cons (pv 1) pa_nil)) pa_nil)) (pg_name (i := 2) nd rfl (Or.inl rfl))
      (pss_cons (ps_if (pt_not (pt_chain op_le op_lt pe_int (pe_ix ix_tup (pv 1) (pv 2) (fun _ _ => rfl)) (pv 0)))
        (pss_one (ps_ret pe_bl))
        pss_nil)
      (pss_one (ps_if (PW.pt (pw_and (pt_cmpR op_gt (pv 2) pe_int (nomark _)) (pw_and1 (pt_cmpR op_ge (pe_ix ix_tup (pv 1) (pe_op op_sub (pv 2) pe_int) (fun _ _ => rfl)) (pe_ix ix_tup (pv 1) (pv 2) (fun _ _ => rfl)) (nomark _)))))
        (pss_one (ps_ret pe_bl))
        pss_nil))))
    (pss_one (ps_ret pe_bl))), ?_⟩
  have hlen : S.length ≤ 24 := by
    obtain ⟨m, rfl⟩ : ∃ m : Nat, n = (m : Int) := ⟨n.toNat, by have := hn.1; omega⟩
    have := ok.len
    have := hn.2
    omega
  have hlen2 : (iL S).length = S.length := List.length_map _
  refine ⟨_, rfl, a, _, rfl, .inr hS, _, rfl, by omega, by omega, ?_⟩
  refine for_range (lo := 0) (n := (((iL S).length : Nat) : Int).toNat) (fun i σ H' => (∃ z, σ = [some (.int n), some (.ref a), z]) ∧ H' = H) ⟨⟨none, rfl⟩, rfl⟩ (fun i σ H' hi hP => ?_) (fun σ H' hP => ?_)
  · obtain ⟨⟨z, rfl⟩, rfl⟩ := hP
    have hi' : i < S.length := by omega
    have hx : (iL S)[i]? = some (.int S[i]) := by rw [List.getElem?_map, List.getElem?_eq_getElem hi']; rfl
    have e0 : (0 : Int) + (i : Int) = ((i : Nat) : Int) := Int.zero_add _
    have hm := ok.1 S[i] (List.getElem_mem hi')
    refine ⟨.ref a, rfl, _, rfl, a, _, _, _, rfl, rfl, hS, at_of e0 hx, _, _, rfl, rfl, true, congrArg V.bl (decide_eq_true hm.1), iteT ⟨_, rfl, _, _, rfl, rfl, true, congrArg V.bl (decide_eq_true hm.2), ?_⟩⟩
    refine iteF ?_
    refine ⟨_, rfl, _, _, rfl, rfl, _, rfl, ?_⟩
    refine ite2 (fun c => ?_) (fun c => ?_)
    · have c' : (0 : Int) < 0 + (i : Int) := of_decide_eq_true c
      obtain ⟨j, rfl⟩ : ∃ j, i = j + 1 := ⟨i - 1, by omega⟩
      have hj : j < S.length := by omega
      have hy : (iL S)[j]? = some (.int S[j]) := by rw [List.getElem?_map, List.getElem?_eq_getElem hj]; rfl
      have hlt : S[j] < S[j + 1] := List.pairwise_iff_getElem.mp ok.2 j (j + 1) hj hi' (by omega)
      refine ⟨.ref a, rfl, _, rfl, _, _, rfl, rfl, a, _, _, _, rfl, rfl, hS, at_of (j := j) (by omega) hy, .ref a, rfl, _, rfl, a, _, _, _, rfl, rfl, hS, at_of e0 hx, _, _, rfl, rfl, false, congrArg V.bl (decide_eq_false (by omega)), iteF ⟨⟨_, rfl⟩, rfl⟩⟩
    · exact iteF ⟨⟨_, rfl⟩, rfl⟩
  · obtain ⟨⟨z, rfl⟩, rfl⟩ := hP
    exact q _ (Same.refl _)
abbrev s_check_set : Stmt := topS 11
abbrev n_check_set : List Str := ["n", "chosen"]
abbrev p_check_set : List Str := ["n", "chosen"]
theorem sc_check_set : FnScope n_check_set p_check_set (defScope s_check_set) := ⟨rfl, rfl, rfl, by decide +kernel, rfl, by decide +kernel, by decide +kernel⟩
def spCheckSet (K : PySem.W.Frag) : Sp := fun vs H Q _ => ∃ n a S, vs = [.int n, .ref a] ∧ SqT K H a (iL S) ∧ SetOk n S ∧ Siz n ∧ ∀ H', Same H H' → Q (.ref a) H'
theorem c_check_set (T : Txt K mg) (t : Tx K mg "check_set" s_check_set p_check_set) (c_is_size : Cb P w K mg base 1 "is_size" p_is_size spSize) (c_is_set : Cb P w K mg base 1 "is_set" p_is_set (spIsSet K)) : Cb P w K mg base 2 "check_set" p_check_set (spCheckSet K) := by
  refine t.cb sc_check_set (fun vs H Q E h => ?_) (fun f cdv A outer s H vs Q E hr h => ?_)
  · obtain ⟨n, a, S, rfl, _⟩ := h; rfl
  obtain ⟨n, a, S, rfl, hS, ok, hn, q⟩ := h
  refine ⟨_,
    (pss_cons (ps_if (PW.pt (pw_or (pt_not (pt_val (pe_user c_is_size hr (by omega) (pa_cons (pv 0) pa_nil)))) (pw_or1 (pt_not (pt_val (pe_user c_is_set hr (by omega) (pa_cons (pv 0) (pa_cons (pv 1) pa_nil))))))))
      (pss_one ps_never)
      pss_nil)
    (pss_one (ps_ret (pv 1)))), ?_⟩
  refine ⟨_, rfl, n, rfl, hn, true, rfl, iteF ⟨_, rfl, _, rfl, n, a, S, rfl, hS, ok, hn, fun H' sm => ⟨true, rfl, iteF ⟨_, rfl, q H' sm⟩⟩⟩⟩
abbrev s_check_table : Stmt := topS 12
abbrev n_check_table : List Str := ["n", "sets", "chosen"]
abbrev p_check_table : List Str := ["n", "sets"]
theorem sc_check_table : FnScope n_check_table p_check_table (defScope s_check_table) := ⟨rfl, rfl, rfl, by decide +kernel, rfl, by decide +kernel, by decide +kernel⟩
/-- sets at addresses -/
def SetsAt (K : PySem.W.Frag) (H : Hp) (n : Int) : List V → List (List Int) → Prop := Paired fun v S => ∃ a, v = .ref a ∧ SqT K H a (iL S) ∧ SetOk n S
theorem SetsAt.to {H H' : Hp} {n : Int} (e : Same H H') : ∀ {vs : List V} {ss : List (List Int)}, SetsAt K H n vs ss → SetsAt K H' n vs ss
  | _, _, .nil => .nil
  | _, _, .cons ⟨a, h1, h2, h3⟩ t => .cons ⟨a, h1, e.seqT h2, h3⟩ (SetsAt.to e t)
theorem SetsAt.get {H : Hp} {n : Int} : ∀ {vs : List V} {ss : List (List Int)} {i : Nat} {v : V}, SetsAt K H n vs ss → vs[i]? = some v → ∃ a S, ss[i]? = some S ∧ v = .ref a ∧ SqT K H a (iL S) ∧ SetOk n S
  | _, _, _, _, .nil, e => by simp at e
  | _, _, 0, v, .cons ⟨a, h1, h2, h3⟩ t, e => by simp at e; subst e; exact ⟨a, _, rfl, h1, h2, h3⟩
  | _, _, i + 1, v, .cons _ t, e => by
    obtain ⟨a, S, e1, r⟩ := SetsAt.get (i := i) (v := v) t (by simpa using e)
    exact ⟨a, S, by simpa using e1, r⟩
theorem SetsAt.length {H : Hp} {n : Int} {vs : List V} {ss : List (List Int)} (h : SetsAt K H n vs ss) : vs.length = ss.length := Paired.length h
theorem SetsAt.app {H : Hp} {n : Int} : ∀ {vs ws : List V} {ss tt : List (List Int)}, SetsAt K H n vs ss → SetsAt K H n ws tt → SetsAt K H n (vs ++ ws) (ss ++ tt)
  | _, _, _, _, .nil, h => h
  | _, _, _, _, .cons x t, h => .cons x (SetsAt.app t h)
/-- a table at an address -/
def TabAt (K : PySem.W.Frag) (H : Hp) (n : Int) (a : Addr) (ss : List (List Int)) : Prop := ∃ vs, SqT K H a vs ∧ SetsAt K H n vs ss
theorem TabAt.to {H H' : Hp} {n : Int} {a : Addr} {ss : List (List Int)} (e : Same H H') (h : TabAt K H n a ss) : TabAt K H' n a ss := by
  obtain ⟨vs, h1, h2⟩ := h
  exact ⟨vs, e.seqT h1, h2.to e⟩
def spTable (K : PySem.W.Frag) : Sp := fun vs H Q _ => ∃ n a ss, vs = [.int n, .ref a] ∧ TabAt K H n a ss ∧ Siz n ∧ ss.length ≤ 40 ∧ ∀ H', Same H H' → Q (.ref a) H'
theorem c_check_table (T : Txt K mg) (t : Tx K mg "check_table" s_check_table p_check_table) (c_is_size : Cb P w K mg base 1 "is_size" p_is_size spSize) (c_check_set : Cb P w K mg base 2 "check_set" p_check_set (spCheckSet K)) : Cb P w K mg base 3 "check_table" p_check_table (spTable K) := by
  refine t.cb sc_check_table (fun vs H Q E h => ?_) (fun f cdv A outer s H vs Q E hr h => ?_)
  · obtain ⟨n, a, S, rfl, _⟩ := h; rfl
  obtain ⟨n, a, ss, rfl, ⟨vs, h1, h2⟩, hn, h40, q⟩ := h
  have nd := sc_check_table.nd
  refine ⟨_,
    (pss_cons (ps_if (PW.pt (pw_or (pt_not (pt_val (pe_user c_is_size hr (by omega) (pa_cons (pv 0) pa_nil)))) (pw_or1 (pt_cmpR op_gt (pe_callB call_len_seq (by rfl) T.n_len PySem.boot_len (pa_cons (pv 1) pa_nil)) (pe_sets T) (nomark _)))))
      (pss_one ps_never)
      pss_nil)
    (pss_cons (ps_for PassesOwn.never rfl (pi_tup (pv 1)) (pg_name (i := 2) nd rfl (Or.inl rfl))
      (pss_one (ps_expr (pe_user c_check_set hr (by omega) (pa_cons (pv 0) (pa_cons (pv 2) pa_nil))))))
    (pss_one (ps_ret (pv 1))))), ?_⟩
  have hl := h2.length
  refine ⟨_, rfl, n, rfl, hn, true, rfl, iteF ⟨_, rfl, a, vs, rfl, .inr h1, _, _, rfl, rfl, false, congrArg V.bl (decide_eq_false (by omega)), iteF ?_⟩⟩
  refine ⟨_, rfl, a, rfl, ⟨vs, h1⟩, ?_⟩
  refine for_tup (xs := vs) (fun i σ H' => (∃ z, σ = [some (.int n), some (.ref a), z]) ∧ Same H H') ⟨⟨none, rfl⟩, Same.refl _⟩ (fun i σ H' _ hP => hP.2.seqT h1) (fun i x σ H' hx hP => ?_) (fun σ H' hP => ?_)
  · obtain ⟨⟨z, rfl⟩, sm⟩ := hP
    obtain ⟨b, S, _, rfl, hS, ok⟩ := h2.get hx
    exact ⟨_, rfl, _, rfl, n, b, S, rfl, sm.seqT hS, ok, hn, fun H2 s2 => ⟨⟨_, rfl⟩, sm.trans s2⟩⟩
  · obtain ⟨⟨z, rfl⟩, sm⟩ := hP
    exact ⟨_, rfl, q H' sm⟩
end
end Wk
namespace Wk
open PySem PySem.Spec PyProof.Rows L2
open PQ (T)
section
variable {P : Program} {w : World} {K : PySem.W.Frag} {mg : Str → Option Value} {base : Heap}
/-! ### has_form -/
abbrev s_has_form : Stmt := topS 18
abbrev n_has_form : List Str := ["tree", "part"]
abbrev p_has_form : List Str := ["tree"]
theorem sc_has_form : FnScope n_has_form p_has_form (defScope s_has_form) := ⟨rfl, rfl, rfl, by decide +kernel, rfl, by decide +kernel, by decide +kernel⟩
def spForm (n : Nat) : Sp := fun vs H Q _ => ∃ v t, vs = [v] ∧ TA H v t ∧ PQ.wf t ∧ (PQ.lst t).length ≤ n ∧ n ≤ 24 ∧ ∀ H', Same H H' → Q (.bl true) H'
theorem yesT {σ : L2.St} {H : Hp} {A B : Hp → Prop} (h : A H) : tYes σ H (fun b H3 => if b = true then A H3 else B H3) := by
  show (if true = true then A H else B H)
  exact iteT h
theorem bl_all (n : Nat) : (List.replicate n true).all id = true := by simp
theorem c_has_form (T : Txt K mg) (t : Tx K mg "has_form" s_has_form p_has_form) (c_is_thing : Cb P w K mg base 1 "is_thing" p_is_thing spThing) : ∀ n, Cb P w K mg base (n + 1) "has_form" p_has_form (spForm n) := by
  intro n
  induction n with
  | zero =>
    obtain ⟨f, fd, F, b, m⟩ := t
    refine ⟨f, fd, ⟨fun vs H Q E h => ?_, fun A outer s H args us vs Q E _ _ _ _ h => ?_⟩, m, F.kp, b⟩
    · obtain ⟨v, t, rfl, _⟩ := h; rfl
    · obtain ⟨v, t, rfl, _, hw, hl, _⟩ := h
      have := PQ.len_pos hw
      omega
  | succ n ih =>
    refine t.cb sc_has_form (fun vs H Q E h => ?_) (fun f cdv A outer s H vs Q E hr h => ?_)
    · obtain ⟨v, t, rfl, _⟩ := h; rfl
    obtain ⟨v, t, rfl, hT, hw, hl, h24, q⟩ := h
    have nd := sc_has_form.nd
    have c_has_form := ih
    refine ⟨_,
    (pss_cons (ps_if (pt_val (pe_user c_is_thing hr (by omega) (pa_cons (pv 0) pa_nil)))
      (pss_one (ps_ret pe_bl))
      pss_nil)
    (pss_cons (ps_if (PW.pt (pw_or (pt_cmpR op_ne (pe_callB call_len_seq (by rfl) T.n_len PySem.boot_len (pa_cons (pv 0) pa_nil)) pe_int (nomark _)) (pw_or (pt_cmpR op_notIn_seq (pe_ix ix_tup (pv 0) pe_int (fun _ _ => rfl)) (pe_words T) rfl) (pw_or (pt_val (pe_user c_is_thing hr (by omega) (pa_cons (pe_ix ix_tup (pv 0) pe_int (fun _ _ => rfl)) pa_nil))) (pw_or1 (pt_val (pe_callB call_isi (by rfl) T.n_isinstance (by decide +kernel) (pa_cons (pe_ix ix_tup (pv 0) pe_int (fun _ _ => rfl)) (pa_cons (pe_bltn (v := .ty "str") (by rfl) T.n_str (by decide +kernel) rfl) pa_nil)))))))))
      (pss_one (ps_ret pe_bl))
      pss_nil)
    (pss_cons (ps_if (PW.pt (pw_or (pt_cmpR op_lt (pe_callB call_len_seq (by rfl) T.n_len PySem.boot_len (pa_cons (pe_ix ix_tup (pv 0) pe_int (fun _ _ => rfl)) pa_nil)) pe_int (nomark _)) (pw_or1 (PW.pt (pw_and (pt_cmpR op_eq (pe_ix ix_tup (pv 0) pe_int (fun _ _ => rfl)) pe_str (nomark _)) (pw_and1 (pt_cmpR op_lt (pe_callB call_len_seq (by rfl) T.n_len PySem.boot_len (pa_cons (pe_ix ix_tup (pv 0) pe_int (fun _ _ => rfl)) pa_nil)) pe_int (nomark _))))))))
      (pss_one (ps_ret pe_bl))
      pss_nil)
    (pss_one (ps_ret (pe_callB (cr_all rfl) (by rfl) T.n_all (by decide +kernel) (pa_cons (pe_lc (own := [("part", 1)]) (g := gName 1) (by rfl) nd (pi_tup (pe_ix ix_tup (pv 0) pe_int (fun _ _ => rfl))) (blkOk_by (own := [("part", 1)]) (N := n_has_form) (sc := defScope s_has_form) (by decide +kernel)) (fun _ _ _ _ _ => (pg_name (i := 1) nd rfl (Or.inl rfl))) (fun _ _ _ _ _ => pts_nil) (fun _ _ _ _ _ => (pe_user c_has_form hr (by omega) (pa_cons (pv 1) pa_nil)))) pa_nil))))))), ?_⟩
    refine ⟨_, rfl, _, _, rfl, thV_of hT, _, rfl, ?_⟩
    cases t with
    | th i => exact iteT (q H (Same.refl H))
    | nd b ps =>
      obtain ⟨a, c, ws, rfl, h1, h2, h3⟩ := TA_nd.mp hT
      obtain ⟨l2, l3, hk⟩ := PQ.wf_nd.mp hw
      rw [PQ.lst_nd] at hl
      have hlen := h3.len
      have s1 := atI_nat (j := 1) (xs := [V.str (wd b), V.ref c]) rfl
      have s0 := atI_nat (j := 0) (xs := [V.str (wd b), V.ref c]) rfl
      refine iteF ?_
      -- len(tree) != 2
      refine ⟨.ref a, rfl, a, _, rfl, .inr (.of h1), rfl, false, by rfl, iteF ?_⟩
      -- tree[0] not in WORDS
      refine ⟨.ref a, rfl, a, _, 0, _, rfl, rfl, .of h1, s0, fun wa hW => ?_⟩
      refine ⟨wa, _, rfl, .inr (hW H), rfl, rfl, false, by cases b <;> decide +kernel, iteF ?_⟩
      -- is_thing(tree[1])
      refine ⟨.ref a, rfl, a, _, 1, _, rfl, rfl, .of h1, s1, _, false, rfl, .inr ⟨c, ws, rfl, h2, rfl⟩, false, rfl, iteF ?_⟩
      -- isinstance(tree[1], str)
      refine ⟨.ref a, rfl, a, _, 1, _, rfl, rfl, .of h1, s1, _, _, _, _, false, rfl, .ty _, .base (.tup h2), kit_ty (by decide +kernel), false, rfl, iteF ?_⟩
      -- len(tree[1]) < 2
      refine ⟨.ref a, rfl, a, _, 1, _, rfl, rfl, .of h1, s1, c, ws, rfl, .inr (.of h2), _, _, rfl, rfl, false, congrArg V.bl (decide_eq_false (by omega)), iteF ?_⟩
      -- tree[0] == 'row' and len(tree[1]) < 3
      refine ⟨.ref a, rfl, a, _, 0, _, rfl, rfl, .of h1, s0, rfl, b, by cases b <;> decide +kernel, ?_⟩
      have back : ∀ b2 : Bool, b2 = false → (if b2 = true then False else True) := fun b2 h => by rw [h]; trivial
      refine ite2 (fun hb => ⟨.ref a, rfl, a, _, 1, _, rfl, rfl, .of h1, s1, c, ws, rfl, .inr (.of h2), _, _, rfl, rfl, false, congrArg V.bl (decide_eq_false (by have := l3 hb; omega)), iteF ?_⟩) (fun hb => iteF ?_) <;>
      · refine ⟨.ref a, rfl, a, _, 1, _, rfl, rfl, .of h1, s1, c, rfl, ⟨ws, .of h2⟩, fun D hD => ?_⟩
        refine lc_tup (xs := ws) (fun i H' => Same H H' ∧ H' D = some (.lst ((List.replicate i true).map V.bl))) ⟨same_new hD, upd_same⟩ (fun i H' _ hP => .of (hP.1 _ _ h2)) (fun i x H' hx hP => ?_) (fun H' hP => ?_)
        · obtain ⟨sm, hL⟩ := hP
          obtain ⟨p, hp, hTp⟩ := h3.getV hx
          have hpm : p ∈ ps := List.mem_of_getElem? hp
          have := PQ.kid_len l2 hk hpm
          have hi := (List.getElem?_eq_some_iff.mp hp).1
          have := PQ.kids_len hk
          refine ⟨rfl, yesT ⟨x, rfl, x, p, rfl, hTp.to sm, hk p hpm, by omega, by omega, fun H2 s2 => ⟨_, s2 _ _ hL, ?_, same_mut (sm.trans s2) hD, ?_⟩⟩⟩
          · rw [List.length_map, List.length_replicate]; exact small24' (by omega)
          · rw [upd_same, List.replicate_succ', List.map_append]; rfl
        · obtain ⟨sm, hL⟩ := hP
          refine ⟨D, _, rfl, .of hL, ?_⟩
          rw [bl_all]
          exact q H' sm

/-! ### check_tree, need_tree, things_of -/
abbrev s_check_tree : Stmt := topS 19
abbrev n_check_tree : List Str := ["n", "tree"]
abbrev p_check_tree : List Str := ["n", "tree"]
theorem sc_check_tree : FnScope n_check_tree p_check_tree (defScope s_check_tree) := ⟨rfl, rfl, rfl, by decide +kernel, rfl, by decide +kernel, by decide +kernel⟩
/-- a tree over n things -/
def Ov (n : Nat) (t : T) : Prop := 1 ≤ n ∧ n ≤ 24 ∧ PQ.wf t ∧ (PQ.lst t).Perm (PQ.rng n)
theorem Ov.len {n : Nat} {t : T} (h : Ov n t) : (PQ.lst t).length = n := by rw [h.2.2.2.length_eq, PQ.length_rng]
theorem Ov.sm {n : Nat} {t : T} (h : Ov n t) : Sm t := ⟨h.2.2.1, by rw [h.len]; exact h.2.1⟩
theorem Ov.siz {n : Nat} {t : T} (h : Ov n t) : Siz (n : Int) := ⟨by have := h.1; omega, by have := h.2.1; omega⟩
theorem Ov.nd {n : Nat} {t : T} (h : Ov n t) : (PQ.lst t).Nodup := h.2.2.2.nodup_iff.mpr (PQ.rng_nodup n)
def spCheckTree : Sp := fun vs H Q _ => ∃ (n : Nat) (v : V) (t : T), vs = [.int n, v] ∧ TA H v t ∧ Ov n t ∧ ∀ H', Same H H' → Q v H'
theorem c_check_tree (T : Txt K mg) (t : Tx K mg "check_tree" s_check_tree p_check_tree) (c_is_size : Cb P w K mg base 1 "is_size" p_is_size spSize) (c_has_form : Cb P w K mg base 25 "has_form" p_has_form (spForm 24)) (c_listed : Cb P w K mg base 25 "listed" p_listed (spListed 24)) :
    Cb P w K mg base 26 "check_tree" p_check_tree spCheckTree := by
  refine t.cb sc_check_tree (fun vs H Q E h => ?_) (fun f cdv A outer s H vs Q E hr h => ?_)
  · obtain ⟨n, v, t, rfl, _⟩ := h; rfl
  obtain ⟨n, v, t, rfl, hT, ov, q⟩ := h
  refine ⟨_,
    (pss_cons (ps_if (PW.pt (pw_or (pt_not (pt_val (pe_user c_is_size hr (by omega) (pa_cons (pv 0) pa_nil)))) (pw_or (pt_not (pt_val (pe_user c_has_form hr (by omega) (pa_cons (pv 1) pa_nil)))) (pw_or1 (pt_cmpR (op_neD hr.units) (pe_callB cr_sortedI (by rfl) T.n_sorted (by decide +kernel) (pa_cons (pe_user c_listed hr (by omega) (pa_cons (pv 1) pa_nil)) pa_nil)) (pe_listRg rfl (by rfl) T.n_list (prg_1 (by rfl) T.n_range (pv 0))) (nomark _))))))
      (pss_one ps_never)
      pss_nil)
    (pss_one (ps_ret (pv 1)))), ?_⟩
  have hn := ov.2.1
  refine ⟨_, rfl, (n : Int), rfl, ov.siz, true, rfl, iteF ?_⟩
  refine ⟨_, rfl, v, t, rfl, hT, ov.2.2.1, ov.sm.2, Nat.le_refl _, fun H1 s1 => ⟨true, rfl, iteF ?_⟩⟩
  refine ⟨_, rfl, v, t, rfl, hT.to s1, ov.2.2.1, ov.sm.2, Nat.le_refl _, fun p H2 s2 hp0 hp => ?_⟩
  refine ⟨p, _, rfl, .of hp, fun ns' r hperm hsort hr0 => ?_⟩
  have e := sorted_rng (hperm.trans ov.2.2.2) hsort
  subst e
  refine ⟨_, rfl, (n : Int), rfl, .of_le (by decide) (by omega) (by decide) (by omega), fun z hz => ?_⟩
  have k1 : Same H2 (upd H2 r (.lst (iL (PQ.rng n)))) := same_new hr0
  have k2 : Same (upd H2 r (.lst (iL (PQ.rng n)))) (upd (upd H2 r (.lst (iL (PQ.rng n)))) z (.lst (rgV 0 (n : Int)))) := same_new hz
  refine ⟨_, _, dpI (.of (k2 _ _ upd_same)), dpI (l := PQ.rng n) (.of ?_), shapedI _, shapedI _, false, ?_, iteF ⟨_, rfl, q _ (((s1.trans s2).trans k1).trans k2)⟩⟩
  · rw [upd_same, rgV_rng]
  · rw [eqvI]; simp
abbrev s_need_tree : Stmt := topS 20
abbrev n_need_tree : List Str := ["tree"]
abbrev p_need_tree : List Str := ["tree"]
theorem sc_need_tree : FnScope n_need_tree p_need_tree (defScope s_need_tree) := ⟨rfl, rfl, rfl, by decide +kernel, rfl, by decide +kernel, by decide +kernel⟩
def spNeed : Sp := fun vs H Q _ => ∃ (n : Nat) (v : V) (t : T), vs = [v] ∧ TA H v t ∧ Ov n t ∧ ∀ H', Same H H' → Q .non H'
theorem c_need_tree (T : Txt K mg) (t : Tx K mg "need_tree" s_need_tree p_need_tree) (c_has_form : Cb P w K mg base 25 "has_form" p_has_form (spForm 24)) (c_listed : Cb P w K mg base 25 "listed" p_listed (spListed 24)) (c_check_tree : Cb P w K mg base 26 "check_tree" p_check_tree spCheckTree) :
    Cb P w K mg base 27 "need_tree" p_need_tree spNeed := by
  refine t.cb sc_need_tree (fun vs H Q E h => ?_) (fun f cdv A outer s H vs Q E hr h => ?_)
  · obtain ⟨n, v, t, rfl, _⟩ := h; rfl
  obtain ⟨n, v, t, rfl, hT, ov, q⟩ := h
  refine ⟨_,
    (pss_cons (ps_if (pt_not (pt_val (pe_user c_has_form hr (by omega) (pa_cons (pv 0) pa_nil))))
      (pss_one ps_never)
      pss_nil)
    (pss_one (ps_expr (pe_user c_check_tree hr (by omega) (pa_cons (pe_callB call_len_seq (by rfl) T.n_len PySem.boot_len (pa_cons (pe_user c_listed hr (by omega) (pa_cons (pv 0) pa_nil)) pa_nil)) (pa_cons (pv 0) pa_nil)))))), ?_⟩
  refine ⟨_, rfl, v, t, rfl, hT, ov.2.2.1, ov.sm.2, Nat.le_refl _, fun H1 s1 => ⟨true, rfl, iteF ?_⟩⟩
  refine ⟨_, rfl, v, t, rfl, hT.to s1, ov.2.2.1, ov.sm.2, Nat.le_refl _, fun p H2 s2 hp0 hp => ?_⟩
  refine ⟨p, _, rfl, .inl (.of hp), _, rfl, n, v, t, ?_, hT.to (s1.trans s2), ov, fun H3 s3 => q H3 ((s1.trans s2).trans s3)⟩
  rw [List.length_map, ov.len]; rfl
abbrev s_things_of : Stmt := topS 21
abbrev n_things_of : List Str := ["tree", "found"]
abbrev p_things_of : List Str := ["tree"]
theorem sc_things_of : FnScope n_things_of p_things_of (defScope s_things_of) := ⟨rfl, rfl, rfl, by decide +kernel, rfl, by decide +kernel, by decide +kernel⟩
def spThingsOf : Sp := fun vs H Q _ => ∃ (n : Nat) (v : V) (t : T), vs = [v] ∧ TA H v t ∧ Ov n t ∧ ∀ v' H', Same H H' → Q v' H'
theorem c_things_of (T : Txt K mg) (t : Tx K mg "things_of" s_things_of p_things_of) (c_has_form : Cb P w K mg base 25 "has_form" p_has_form (spForm 24)) (c_listed : Cb P w K mg base 25 "listed" p_listed (spListed 24)) :
    Cb P w K mg base 26 "things_of" p_things_of spThingsOf := by
  refine t.cb sc_things_of (fun vs H Q E h => ?_) (fun f cdv A outer s H vs Q E hr h => ?_)
  · obtain ⟨n, v, t, rfl, _⟩ := h; rfl
  obtain ⟨n, v, t, rfl, hT, ov, q⟩ := h
  have nd := sc_things_of.nd
  refine ⟨_,
    (pss_cons (ps_if (pt_not (pt_val (pe_user c_has_form hr (by omega) (pa_cons (pv 0) pa_nil))))
      (pss_one ps_never)
      pss_nil)
    (pss_cons (ps_set (i := 1) nd rfl (Or.inl rfl) (pe_callTy call_tuple_of (by rfl) T.n_tuple (by decide +kernel) (pa_cons (pe_callB cr_sortedI (by rfl) T.n_sorted (by decide +kernel) (pa_cons (pe_user c_listed hr (by omega) (pa_cons (pv 0) pa_nil)) pa_nil)) pa_nil)))
    (pss_cons (ps_if (PW.pt (pw_or (pt_cmpR op_lt (pe_ix ix_tup (pv 1) pe_int (fun _ _ => rfl)) pe_int (nomark _)) (pw_or1 (pt_cmpR op_lt (pe_lenSetT rfl (by rfl) T.n_len (by rfl) T.n_set (pv 1)) (pe_callB call_len_seq (by rfl) T.n_len PySem.boot_len (pa_cons (pv 1) pa_nil)) (nomark _)))))
      (pss_one ps_never)
      pss_nil)
    (pss_one (ps_ret (pv 1)))))), ?_⟩
  refine ⟨_, rfl, v, t, rfl, hT, ov.2.2.1, ov.sm.2, Nat.le_refl _, fun H1 s1 => ⟨true, rfl, iteF ?_⟩⟩
  refine ⟨_, rfl, v, t, rfl, hT.to s1, ov.2.2.1, ov.sm.2, Nat.le_refl _, fun p H2 s2 hp0 hp => ?_⟩
  refine ⟨p, _, rfl, .of hp, fun ns' r hperm hsort hr0 => ?_⟩
  have e := sorted_rng (hperm.trans ov.2.2.2) hsort
  subst e
  refine ⟨r, _, rfl, .inl ⟨.of upd_same, fun l hl => ?_⟩⟩
  have k1 : Same H2 (upd H2 r (.lst (iL (PQ.rng n)))) := same_new hr0
  have k2 : Same (upd H2 r (.lst (iL (PQ.rng n)))) (upd (upd H2 r (.lst (iL (PQ.rng n)))) l (.tup (iL (PQ.rng n)))) := same_new hl
  have hU : SqT K (upd (upd H2 r (.lst (iL (PQ.rng n)))) l (.tup (iL (PQ.rng n)))) l (iL (PQ.rng n)) := .of upd_same
  have h0 : (iL (PQ.rng n))[0]? = some (.int 0) := by
    have := ov.1
    unfold iL PQ.rng
    rw [List.getElem?_map, List.getElem?_map, List.getElem?_range (by omega)]; rfl
  have hlen := PQ.length_rng n
  have := ov.2.1
  refine ⟨_, rfl, l, _, _, _, rfl, rfl, hU, atI_nat (j := 0) h0, _, _, rfl, rfl, false, congrArg V.bl (decide_eq_false (by omega)), iteF ?_⟩
  refine ⟨_, rfl, l, _, rfl, hU, by omega, PQ.rng_nodup n, _, rfl, l, _, rfl, .inr hU, _, _, rfl, rfl, false, congrArg V.bl (decide_eq_false ?_), iteF ⟨_, rfl, q _ _ (((s1.trans s2).trans k1).trans k2)⟩⟩
  rw [List.length_map]; omega
end
end Wk
namespace Wk
open PySem PySem.Spec PyProof.Rows L2
open PQ (T)
/-! ### plain: the sort by least things -/
theorem srt_of_pairs {qs : List T} (hw : PQ.WfL qs) (hn : (PQ.lstL qs).Nodup) {zs : List (Int × Int)} (hp : zs.Perm ((List.range qs.length).map fun j => (PQ.least (qs.getD j (.th 0)), (j : Int)))) (hs : zs.Pairwise fun p q => SrtO.lexB q p = false) :
    zs.map (fun p => qs.getD p.2.toNat (.th 0)) = PQ.srt qs := by
  have e1 : ((List.range qs.length).map fun j : Nat => (PQ.least (qs.getD j (.th 0)), (j : Int))).map (fun p => qs.getD p.2.toNat (.th 0)) = qs := by
    rw [List.map_map]
    apply List.ext_getElem
    · simp
    · intro i h1 h2
      simp [List.getD_eq_getElem?_getD, h2]
  have perm : (zs.map fun p => qs.getD p.2.toNat (.th 0)).Perm qs := by
    have := hp.map fun p : Int × Int => qs.getD p.2.toNat (.th 0)
    rw [e1] at this
    exact this
  refine List.Perm.eq_of_pairwise (le := fun a b => PQ.least a ≤ PQ.least b) (fun a b ha hb h1 h2 => ?_) ?_ (PQ.srt_sorted qs) (perm.trans (PQ.srt_perm qs).symm)
  · have ha' := perm.mem_iff.mp ha
    have hb' := (PQ.srt_perm qs).mem_iff.mp hb
    have e : PQ.least a = PQ.least b := by omega
    exact PQ.kid_eq hn ha' hb' (PQ.least_mem (hw a ha')) (e ▸ PQ.least_mem (hw b hb'))
  · rw [List.pairwise_map]
    refine List.Pairwise.imp_of_mem (fun {p q} hpm hqm h => ?_) hs
    have hq := SrtO.lexB_no.mp h
    have fst : ∀ p ∈ zs, PQ.least (qs.getD p.2.toNat (.th 0)) = p.1 := fun p hp' => by
      obtain ⟨j, _, rfl⟩ := List.mem_map.mp (hp.mem_iff.mp hp')
      simp
    rw [fst p hpm, fst q hqm]
    omega
section
variable {P : Program} {w : World} {K : PySem.W.Frag} {mg : Str → Option Value} {base : Heap}
/-! ### make_any, make_row -/
abbrev s_make_any : Stmt := topS 22
abbrev n_make_any : List Str := ["parts"]
abbrev p_make_any : List Str := ["parts"]
theorem sc_make_any : FnScope n_make_any p_make_any (defScope s_make_any) := ⟨rfl, rfl, rfl, by decide +kernel, rfl, by decide +kernel, by decide +kernel⟩
def spMake (f : List T → T) : Sp := fun vs H Q _ => ∃ (l : Addr) (us : List V) (ps : List T), vs = [.ref l] ∧ SqL K H l us ∧ TAs H us ps ∧ ps.length ≤ 1000 ∧ ∀ v H', Same H H' → TA H' v (f ps) → Q v H'
theorem c_make_any (T : Txt K mg) (t : Tx K mg "make_any" s_make_any p_make_any) : Cb P w K mg base 1 "make_any" p_make_any (spMake (K := K) PQ.mkAny) := by
  refine t.cb sc_make_any (fun vs H Q E h => ?_) (fun f cdv A outer s H vs Q E hr h => ?_)
  · obtain ⟨l, us, ps, rfl, _⟩ := h; rfl
  obtain ⟨l, us, ps, rfl, hL, hT, hz, q⟩ := h
  refine ⟨_, (pss_cons (ps_if (pt_cmpR op_eq (pe_callB call_len_seq (by rfl) T.n_len PySem.boot_len (pa_cons (pv 0) pa_nil)) pe_int (nomark _))
      (pss_one (ps_ret (pe_ix ix_list (pv 0) pe_int (fun _ _ => rfl))))
      pss_nil)
    (pss_one (ps_ret (pe_tup (pa_cons pe_str (pa_cons (pe_callTy call_tuple_of (by rfl) T.n_tuple (by decide +kernel) (pa_cons (pv 0) pa_nil)) pa_nil)))))), ?_⟩
  have hl := hT.len
  refine ⟨.ref l, rfl, l, us, rfl, .inl hL, rfl, _, rfl, ite2 (fun c => ?_) (fun c => ?_)⟩
  · have c' : (us.length : Int) = 1 := V.int.inj (of_decide_eq_true c)
    match ps, hT, hl with
    | [p], hT, hl =>
      obtain ⟨v, vr, rfl, h1, h2⟩ := TAs_cons.mp hT
      exact ⟨.ref l, rfl, l, _, 0, v, rfl, rfl, hL, atI_nat (j := 0) rfl, q v H (Same.refl H) h1⟩
    | [], _, hl => have h0 : us.length = 0 := hl; omega
    | a :: b :: r, _, hl => have h0 : us.length = r.length + 1 + 1 := hl; omega
  · have c' : ¬ us.length = 1 := fun e => c (decide_eq_true (congrArg V.int (by omega)))
    refine ⟨.ref l, rfl, l, us, rfl, .inl ⟨hL, fun c hc => ⟨by show 2 ≤ sizeLine; decide, fun a ha => ?_⟩⟩⟩
    have s1 : Same H (upd H c (.tup us)) := same_new hc
    have s2 : Same (upd H c (.tup us)) (upd (upd H c (.tup us)) a (.tup [.str "any", .ref c])) := same_new ha
    refine q _ _ (s1.trans s2) ?_
    have e : PQ.mkAny ps = .nd false ps := by
      unfold PQ.mkAny
      split
      · rename_i p; simp at hl; omega
      · rfl
    rw [e, TA_nd]
    exact ⟨a, c, us, rfl, upd_same, s2 _ _ upd_same, hT.to (s1.trans s2)⟩
abbrev s_make_row : Stmt := topS 23
abbrev n_make_row : List Str := ["parts"]
abbrev p_make_row : List Str := ["parts"]
theorem sc_make_row : FnScope n_make_row p_make_row (defScope s_make_row) := ⟨rfl, rfl, rfl, by decide +kernel, rfl, by decide +kernel, by decide +kernel⟩
theorem c_make_row (T : Txt K mg) (t : Tx K mg "make_row" s_make_row p_make_row) (c_make_any : Cb P w K mg base 1 "make_any" p_make_any (spMake (K := K) PQ.mkAny)) : Cb P w K mg base 2 "make_row" p_make_row (spMake (K := K) PQ.mkRow) := by
  refine t.cb sc_make_row (fun vs H Q E h => ?_) (fun f cdv A outer s H vs Q E hr h => ?_)
  · obtain ⟨l, us, ps, rfl, _⟩ := h; rfl
  obtain ⟨l, us, ps, rfl, hL, hT, hz, q⟩ := h
  refine ⟨_, (pss_cons (ps_if (pt_cmpR op_lt (pe_callB call_len_seq (by rfl) T.n_len PySem.boot_len (pa_cons (pv 0) pa_nil)) pe_int (nomark _))
      (pss_one (ps_ret (pe_user c_make_any hr (by omega) (pa_cons (pv 0) pa_nil))))
      pss_nil)
    (pss_one (ps_ret (pe_tup (pa_cons pe_str (pa_cons (pe_callTy call_tuple_of (by rfl) T.n_tuple (by decide +kernel) (pa_cons (pv 0) pa_nil)) pa_nil)))))), ?_⟩
  have hl := hT.len
  refine ⟨.ref l, rfl, l, us, rfl, .inl hL, _, _, rfl, rfl, _, rfl, ite2 (fun c => ?_) (fun c => ?_)⟩
  · have c' : (us.length : Int) < 3 := of_decide_eq_true c
    refine ⟨.ref l, rfl, l, us, ps, rfl, hL, hT, hz, fun v H' sm h => q v H' sm ?_⟩
    have e : PQ.mkRow ps = PQ.mkAny ps := by
      unfold PQ.mkRow
      rw [if_pos (by omega)]
    rw [e]; exact h
  · have c' : ¬ (us.length : Int) < 3 := fun e => c (decide_eq_true e)
    refine ⟨.ref l, rfl, l, us, rfl, .inl ⟨hL, fun c hc => ⟨by show 2 ≤ sizeLine; decide, fun a ha => ?_⟩⟩⟩
    have s1 : Same H (upd H c (.tup us)) := same_new hc
    have s2 : Same (upd H c (.tup us)) (upd (upd H c (.tup us)) a (.tup [.str "row", .ref c])) := same_new ha
    refine q _ _ (s1.trans s2) ?_
    have e : PQ.mkRow ps = .nd true ps := by
      unfold PQ.mkRow
      rw [if_neg (by omega)]
    rw [e, TA_nd]
    exact ⟨a, c, us, rfl, upd_same, s2 _ _ upd_same, hT.to (s1.trans s2)⟩
/-! ### plain_tree -/
abbrev s_plain_tree : Stmt := topS 25
abbrev n_plain_tree : List Str := ["n"]
abbrev p_plain_tree : List Str := ["n"]
theorem sc_plain_tree : FnScope n_plain_tree p_plain_tree (defScope s_plain_tree) := ⟨rfl, rfl, rfl, by decide +kernel, rfl, by decide +kernel, by decide +kernel⟩
def spPlain : Sp := fun vs H Q _ => ∃ (n : Nat), vs = [.int n] ∧ 1 ≤ n ∧ n ≤ 24 ∧ ∀ v H', Same H H' → TA H' v (PQ.plain n) → Q v H'
theorem tas_ths {H : Hp} : ∀ l : List Int, TAs H (iL l) (l.map T.th)
  | [] => TAs_nil.mpr rfl
  | i :: l => TAs_cons.mpr ⟨.int i, iL l, rfl, TA_th.mpr rfl, tas_ths l⟩
theorem c_plain_tree (T : Txt K mg) (t : Tx K mg "plain_tree" s_plain_tree p_plain_tree) (c_check_things : Cb P w K mg base 2 "check_things" p_check_things spThings) (c_make_any : Cb P w K mg base 1 "make_any" p_make_any (spMake (K := K) PQ.mkAny)) :
    Cb P w K mg base 3 "plain_tree" p_plain_tree spPlain := by
  refine t.cb sc_plain_tree (fun vs H Q E h => ?_) (fun f cdv A outer s H vs Q E hr h => ?_)
  · obtain ⟨n, rfl, _⟩ := h; rfl
  obtain ⟨n, rfl, h1, h2, q⟩ := h
  refine ⟨_, (pss_cons (ps_expr (pe_user c_check_things hr (by omega) (pa_cons (pv 0) pa_nil)))
    (pss_one (ps_ret (pe_user c_make_any hr (by omega) (pa_cons (pe_listRg rfl (by rfl) T.n_list (prg_1 (by rfl) T.n_range (pv 0))) pa_nil))))), ?_⟩
  refine ⟨_, rfl, (n : Int), rfl, ⟨by omega, by omega⟩, _, rfl, (n : Int), rfl, .of_le (by decide) (by omega) (by decide) (by omega), fun l hl => ?_⟩
  refine ⟨l, iL (PQ.rng n), _, rfl, .of ?_, tas_ths _, ?_, fun v H' sm h => q v H' ((same_new hl).trans sm) h⟩
  · rw [upd_same, rgV_rng]
  · rw [List.length_map, PQ.length_rng]; omega
end
end Wk
namespace Wk
open PySem PySem.Spec PyProof.Rows L2
open PQ (T)
theorem orient_ends (a b : T) (mid : List T) : PQ.orient (a :: (mid ++ [b])) = if PQ.least b < PQ.least a then (a :: (mid ++ [b])).reverse else a :: (mid ++ [b]) := by
  unfold PQ.orient
  have : (a :: (mid ++ [b])).getLast? = some b := by
    rw [← List.cons_append, List.getLast?_append]; simp
  rw [this]
  rfl
/-- the two ints of a pair on the heap -/
def kOf (H : Hp) (v : V) : Int × Int := match v with
  | .ref t => match H t with
    | some (.tup [.int i, .int j]) => (i, j)
    | _ => (0, 0)
  | _ => (0, 0)
theorem kOf_at {H : Hp} {t : Addr} {i j : Int} (h : H t = some (.tup [.int i, .int j])) : kOf H (.ref t) = (i, j) := by
  unfold kOf
  simp only [h]
/-- the pairs (least thing, index) of some trees -/
def PairsAt (H : Hp) (ys : List V) (qs : List T) (i : Nat) : Prop := ys.length = i ∧ ∀ j, j < i → ∃ t, ys[j]? = some (.ref t) ∧ H t = some (.tup [.int (PQ.least (qs.getD j (.th 0))), .int ((j : Nat) : Int)])
theorem PairsAt.et {H H' : Hp} {ys : List V} {qs : List T} {i : Nat} (e : Et H H') (h : PairsAt H ys qs i) : PairsAt H' ys qs i := ⟨h.1, fun j hj => by
  obtain ⟨t, h1, h2⟩ := h.2 j hj
  exact ⟨t, h1, e _ _ h2⟩⟩
theorem PairsAt.more {H : Hp} {ys : List V} {qs : List T} {i : Nat} {t : Addr} (h : PairsAt H ys qs i) (ht : H t = some (.tup [.int (PQ.least (qs.getD i (.th 0))), .int ((i : Nat) : Int)])) : PairsAt H (ys ++ [.ref t]) qs (i + 1) := by
  obtain ⟨h1, h2⟩ := h
  refine ⟨by rw [List.length_append, h1]; rfl, fun j hj => ?_⟩
  by_cases e : j = i
  · subst e
    exact ⟨t, by rw [← h1]; simp, ht⟩
  · obtain ⟨u, k1, k2⟩ := h2 j (by omega)
    exact ⟨u, by rw [List.getElem?_append_left (by omega)]; exact k1, k2⟩
theorem PairsAt.keys {H : Hp} {ys : List V} {qs : List T} {i : Nat} (h : PairsAt H ys qs i) : ys.map (kOf H) = (List.range i).map fun j => (PQ.least (qs.getD j (.th 0)), ((j : Nat) : Int)) := by
  obtain ⟨h1, h2⟩ := h
  apply List.ext_getElem
  · simp [h1]
  · intro j k1 k2
    have hj : j < i := by simpa using k2
    obtain ⟨t, e1, e2⟩ := h2 j hj
    have e3 : ys[j]'(by omega) = .ref t := by
      have := List.getElem?_eq_getElem (l := ys) (i := j) (by omega)
      rw [this] at e1
      exact Option.some.inj e1
    simp only [List.getElem_map, List.getElem_range, e3]
    exact kOf_at e2
theorem PairsAt.all {H : Hp} {ys : List V} {qs : List T} {i : Nat} (h : PairsAt H ys qs i) : ∀ x ∈ ys, ∃ t, x = .ref t ∧ H t = some (.tup [.int (kOf H x).1, .int (kOf H x).2]) := by
  intro x hx
  obtain ⟨j, hj, e⟩ := List.getElem_of_mem hx
  obtain ⟨t, e1, e2⟩ := h.2 j (by rw [← h.1]; exact hj)
  rw [List.getElem?_eq_getElem hj, e] at e1
  have e3 := Option.some.inj e1
  subst e3
  exact ⟨t, rfl, by rw [kOf_at e2]; exact e2⟩
theorem take_map_more {f : T → T} {ps : List T} {i : Nat} {p : T} (h : ps[i]? = some p) : (ps.take (i + 1)).map f = (ps.take i).map f ++ [f p] := by
  rw [List.take_add_one, h, List.map_append]; rfl
section
variable {P : Program} {w : World} {K : PySem.W.Frag} {mg : Str → Option Value} {base : Heap}
/-! ### normalized -/
abbrev s_normalized : Stmt := topS 24
abbrev n_normalized : List Str := ["tree", "parts", "order", "part", "index", "_"]
abbrev p_normalized : List Str := ["tree"]
theorem sc_normalized : FnScope n_normalized p_normalized (defScope s_normalized) := ⟨rfl, rfl, rfl, by decide +kernel, rfl, by decide +kernel, by decide +kernel⟩
def spNorm (n : Nat) : Sp := fun vs H Q _ => ∃ v t, vs = [v] ∧ TA H v t ∧ PQ.wf t ∧ (PQ.lst t).Nodup ∧ (PQ.lst t).length ≤ n ∧ n ≤ 24 ∧ ∀ v' H', Same H H' → TA H' v' (PQ.norm t) → Q v' H'
theorem c_normalized (T : Txt K mg) (t : Tx K mg "normalized" s_normalized p_normalized) (c_is_thing : Cb P w K mg base 1 "is_thing" p_is_thing spThing) (c_least_thing : Cb P w K mg base 26 "least_thing" p_least_thing spLeast) : ∀ n, Cb P w K mg base (n + 26) "normalized" p_normalized (spNorm n) := by
  intro n
  induction n with
  | zero =>
    obtain ⟨f, fd, F, b, m⟩ := t
    refine ⟨f, fd, ⟨fun vs H Q E h => ?_, fun A outer s H args us vs Q E _ _ _ _ h => ?_⟩, m, F.kp, b⟩
    · obtain ⟨v, t, rfl, _⟩ := h; rfl
    · obtain ⟨v, t, rfl, _, hw, _, hl, _⟩ := h
      have := PQ.len_pos hw
      omega
  | succ n ih =>
    have e27 : n + 1 + 26 = (n + 26) + 1 := by omega
    rw [e27]
    refine t.cb sc_normalized (fun vs H Q E h => ?_) (fun f cdv A outer s H vs Q E hr h => ?_)
    · obtain ⟨v, t, rfl, _⟩ := h; rfl
    obtain ⟨v, t, rfl, hT, hw, hn, hl, h24, q⟩ := h
    have nd := sc_normalized.nd
    have c_normalized := ih
    refine ⟨_, (pss_cons (ps_if (pt_val (pe_user c_is_thing hr (by omega) (pa_cons (pv 0) pa_nil)))
      (pss_one (ps_ret (pv 0)))
      pss_nil)
    (pss_cons (ps_set (i := 1) nd rfl (Or.inr rfl) (pe_lc (own := [("part", 3)]) (g := gName 3) (by rfl) nd (pi_tup (pe_ix ix_tup (pv 0) pe_int (fun _ _ => rfl))) (blkOk_by (own := [("part", 3)]) (N := n_normalized) (sc := defScope s_normalized) (by decide +kernel)) (fun _ _ _ _ _ => (pg_name (i := 3) nd rfl (Or.inl rfl))) (fun _ _ _ _ _ => pts_nil) (fun _ _ _ _ _ => (pe_user c_normalized hr (by omega) (pa_cons (pv 3) pa_nil)))))
    (pss_cons (ps_if (pt_cmpR op_eq (pe_ix ix_tup (pv 0) pe_int (fun _ _ => rfl)) pe_str (nomark _))
      (pss_cons (ps_set (i := 2) nd rfl (Or.inl rfl) (pe_callB cr_sortedPO (by rfl) T.n_sorted (by decide +kernel) (pa_cons (pe_lc (own := [("index", 4), ("part", 3)]) (g := gTup K 2 (gCons (gName 4) (gCons (gName 3) gNil))) (by rfl) nd (pi_enum (by rfl) T.n_enumerate (pa_cons (pv 1) pa_nil)) (blkOk_by (own := [("index", 4), ("part", 3)]) (N := n_normalized) (sc := defScope s_normalized) (by decide +kernel)) (fun _ _ _ _ _ => (pg_tup (by rfl) (pgs_cons (pg_name (i := 4) nd rfl (Or.inl rfl)) (pgs_cons (pg_name (i := 3) nd rfl (Or.inl rfl)) pgs_nil)))) (fun _ _ _ _ _ => pts_nil) (fun _ _ _ _ _ => (pe_tup (pa_cons (pe_user c_least_thing hr (by omega) (pa_cons (pv 3) pa_nil)) (pa_cons (pv 4) pa_nil))))) pa_nil)))
      (pss_one (ps_ret (pe_tup (pa_cons pe_str (pa_cons (pe_callTy call_tuple_of (by rfl) T.n_tuple (by decide +kernel) (pa_cons (pe_lc (own := [("_", 5), ("index", 4)]) (g := gTup K 2 (gCons (gName 5) (gCons (gName 4) gNil))) (by rfl) nd (pi_list (pv 2)) (blkOk_by (own := [("_", 5), ("index", 4)]) (N := n_normalized) (sc := defScope s_normalized) (by decide +kernel)) (fun _ _ _ _ _ => (pg_tup (by rfl) (pgs_cons (pg_name (i := 5) nd rfl (Or.inl rfl)) (pgs_cons (pg_name (i := 4) nd rfl (Or.inl rfl)) pgs_nil)))) (fun _ _ _ _ _ => pts_nil) (fun _ _ _ _ _ => (pe_ix (r := rIxL K) ix_list (pv 1) (pv 4) (fun _ _ => rfl)))) pa_nil)) pa_nil))))))
      pss_nil)
    (pss_cons (ps_if (pt_cmpR op_gt (pe_user c_least_thing hr (by omega) (pa_cons (pe_ix ix_list (pv 1) pe_int (fun _ _ => rfl)) pa_nil)) (pe_user c_least_thing hr (by omega) (pa_cons (pe_ix ix_list (pv 1) (pe_un un_neg pe_int) (fun _ _ => rfl)) pa_nil)) (nomark _))
      (pss_one (ps_set (i := 1) nd rfl (Or.inr rfl) (pe_revL (pv 1))))
      pss_nil)
    (pss_one (ps_ret (pe_tup (pa_cons pe_str (pa_cons (pe_callTy call_tuple_of (by rfl) T.n_tuple (by decide +kernel) (pa_cons (pv 1) pa_nil)) pa_nil))))))))), ?_⟩
    refine ⟨_, rfl, _, _, rfl, thV_of hT, _, rfl, ?_⟩
    cases t with
    | th i => exact iteT ⟨_, rfl, q v H (Same.refl H) (by rw [PQ.norm_th]; exact hT)⟩
    | nd b ps =>
      obtain ⟨a, c, ws, rfl, h1, h2, h3⟩ := TA_nd.mp hT
      obtain ⟨l2, l3, hk⟩ := PQ.wf_nd.mp hw
      rw [PQ.lst_nd] at hl hn
      have hlen := h3.len
      have hkl := PQ.kids_len hk
      have s1 := atI_nat (j := 1) (xs := [V.str (wd b), V.ref c]) rfl
      have s0 := atI_nat (j := 0) (xs := [V.str (wd b), V.ref c]) rfl
      refine iteF ⟨.ref a, rfl, a, _, 1, _, rfl, rfl, .of h1, s1, c, rfl, ⟨ws, .of h2⟩, fun D hD => ?_⟩
      -- parts = [normalized(part) for part in tree[1]]
      refine lc_tup (xs := ws) (fun i H' => Same H H' ∧ ∃ us, H' D = some (.lst us) ∧ TAs H' us ((ps.take i).map PQ.norm)) ⟨same_new hD, [], upd_same, TAs_nil.mpr rfl⟩ (fun i H' _ hP => .of (hP.1 _ _ h2)) (fun i x H' hx hP => ?_) (fun H1 hP => ?_)
      · obtain ⟨sm, us, hL, hU⟩ := hP
        obtain ⟨p, hp, hTp⟩ := h3.getV hx
        have hpm : p ∈ ps := List.mem_of_getElem? hp
        have := PQ.kid_len l2 hk hpm
        have hi := (List.getElem?_eq_some_iff.mp hp).1
        refine ⟨rfl, yesT ⟨x, rfl, x, p, rfl, hTp.to sm, hk p hpm, PQ.kid_nodup hn hpm, by omega, by omega, fun v' H2 s2 hv => ⟨us, s2 _ _ hL, ?_, same_mut (sm.trans s2) hD, us ++ [v'], upd_same, ?_⟩⟩⟩
        · rw [hU.len, List.length_map, List.length_take]; exact small24' (by omega)
        · rw [take_map_more hp]
          have hL2 := s2 _ _ hL
          exact ((hU.to s2).app (.one hv)).et (et_lst hL2)
      obtain ⟨sm, us, hL, hU⟩ := hP
      have e : ps.take ws.length = ps := List.take_of_length_le (by omega)
      rw [e] at hU
      have hulen : us.length = ps.length := by rw [hU.len, List.length_map]
      have hlq : (PQ.lstL (ps.map PQ.norm)).Perm (PQ.lstL ps) := PQ.FrL_perm ((PQ.FrL_map (fun p _ o => PQ.Fr_norm p o) _).mp (PQ.FrL_some _))
      have hwq : PQ.WfL (ps.map PQ.norm) := fun p hp => by
        obtain ⟨r, hr, rfl⟩ := List.mem_map.mp hp
        exact PQ.wf_norm r (hk r hr)
      have hnq : (PQ.lstL (ps.map PQ.norm)).Nodup := hlq.nodup_iff.mpr hn
      have smq : ∀ p ∈ ps.map PQ.norm, Sm p := fun p hp => ⟨hwq p hp, by
        obtain ⟨x, y, e⟩ := List.append_of_mem hp
        have := hlq.length_eq
        rw [e, PQ.lstL_append, PQ.lstL_cons, List.length_append, List.length_append] at this
        omega⟩
      generalize hqs : ps.map PQ.norm = qs at *
      have hqlen : qs.length = ps.length := by rw [← hqs, List.length_map]
      have h1' := sm _ _ h1
      cases b with
      | false =>
        refine ⟨.ref a, rfl, a, _, 0, _, rfl, rfl, .of h1', s0, rfl, true, by decide +kernel, iteT ?_⟩
        -- sorted([(least_thing(part), index) for index, part in enumerate(parts)])
        refine ⟨.ref D, rfl, D, us, rfl, .of hL, fun D2 hD2 => ?_⟩
        refine lc_it (walk_enum (xs := us)) (fun i H' => Same H1 H' ∧ ∃ ys, H' D2 = some (.lst ys) ∧ PairsAt H' ys qs i) ⟨same_new hD2, [], upd_same, rfl, fun j hj => absurd hj (by omega)⟩ (fun i H' _ hP => .of (hP.1 _ _ hL)) (fun i x H2 H3 hi hP hy => ?_) (fun H2 hP => ?_)
        · obtain ⟨sm2, ys, hL2, hP2⟩ := hP
          obtain ⟨tt, x1, y1, rfl, htt, rfl, ex, ey⟩ := hy
          have ex1 : x1 = .int ((i : Nat) : Int) := (Option.some.inj ex).symm
          subst ex1
          obtain ⟨p, hp, hTp⟩ := hU.getV ey
          have k1 : Same H2 (upd H2 tt (.tup [.int ((i : Nat) : Int), y1])) := same_new htt
          refine ⟨tt, _, rfl, .of upd_same, rfl, _, _, rfl, _, _, rfl, rfl, rfl, yesT ?_⟩
          refine ⟨y1, rfl, y1, p, rfl, (hTp.to sm2).to k1, smq p (List.mem_of_getElem? hp), fun H4 k2 => ⟨_, rfl, (by show 2 ≤ sizeLine; decide), fun z hz => ?_⟩⟩
          have k3 := (k1.trans k2).trans (same_new (o := .tup [.int (PQ.least p), .int ((i : Nat) : Int)]) hz)
          have hL4 := k3 _ _ hL2
          have hge : qs.getD i (.th 0) = p := by rw [List.getD_eq_getElem?_getD, hp]; rfl
          refine ⟨ys, hL4, ?_, same_mut (sm2.trans k3) hD2, ys ++ [.ref z], upd_same, ?_⟩
          · rw [hP2.1]; exact small24' (by omega)
          · refine (PairsAt.more (hP2.et (et_of k3)) ?_).et (et_lst hL4)
            rw [hge]; exact upd_same
        obtain ⟨sm2, ys, hL2, hP2⟩ := hP
        refine ⟨D2, ys, kOf H2, rfl, .of hL2, hP2.all, fun zs r hs hb hr0 => ?_⟩
        have hperm := hb.perm.map (kOf H2)
        rw [hP2.keys, hulen, ← hqlen] at hperm
        have hsz : (zs.map (kOf H2)).Pairwise fun p q => SrtO.lexB q p = false := List.pairwise_map.mpr hs
        have hsrt := srt_of_pairs hwq hnq hperm hsz
        have k4 : Same H2 (upd H2 r (.lst zs)) := same_new hr0
        have hall : ∀ x ∈ zs, ∃ t, x = .ref t ∧ H2 t = some (.tup [.int (kOf H2 x).1, .int (kOf H2 x).2]) := fun x hx => hP2.all x (hb.perm.mem_iff.mp hx)
        have hin : ∀ x ∈ zs, 0 ≤ (kOf H2 x).2 ∧ (kOf H2 x).2 < qs.length := fun x hx => by
          obtain ⟨j, hj, e⟩ := List.mem_map.mp (hperm.mem_iff.mp (List.mem_map.mpr ⟨x, hx, rfl⟩))
          rw [← e]
          have := List.mem_range.mp hj
          refine ⟨?_, ?_⟩ <;> show _ <;> simp <;> omega
        have hzlen : zs.length = ps.length := by rw [hb.perm.length_eq, hP2.1, hulen]
        -- tuple([parts[index] for _, index in order])
        refine ⟨.ref r, rfl, r, rfl, ⟨zs, .of upd_same⟩, fun D3 hD3 => ?_⟩
        refine lc_list (xs := zs) (fun i H' => Same (upd H2 r (.lst zs)) H' ∧ ∃ acc, H' D3 = some (.lst acc) ∧ TAs H' acc (((zs.take i).map (kOf H2)).map fun p => qs.getD p.2.toNat (.th 0))) ⟨same_new hD3, [], upd_same, TAs_nil.mpr rfl⟩
          (fun i H' _ hP => .of (hP.1 _ _ upd_same)) (fun i x H3 hx hP => ?_) (fun H3 hP => ?_)
        · obtain ⟨sm3, acc, hL3, hA⟩ := hP
          obtain ⟨tt, rfl, htt⟩ := hall x (List.mem_of_getElem? hx)
          have hx2 := hin _ (List.mem_of_getElem? hx)
          generalize hkx : kOf H2 (.ref tt) = kx at *
          obtain ⟨k1, k2⟩ := kx
          have htt3 := sm3 _ _ (k4 _ _ htt)
          have hL3' := sm3 _ _ (k4 _ _ (sm2 _ _ hL))
          obtain ⟨u, hu, hTu⟩ := hU.get (i := k2.toNat) (p := qs.getD k2.toNat (.th 0)) (by
            have : k2.toNat < qs.length := by have := hx2.1; have := hx2.2; simp only at *; omega
            rw [List.getD_eq_getElem?_getD, List.getElem?_eq_getElem this]; rfl)
          have hat : atI us k2 = some u := at_of (j := k2.toNat) (by have := hx2.1; simp only at *; omega) hu
          refine ⟨tt, _, rfl, .of htt3, rfl, _, _, rfl, _, _, rfl, rfl, rfl, yesT ?_⟩
          refine ⟨.ref D, rfl, _, rfl, D, us, _, u, rfl, rfl, .of hL3', hat, acc, hL3, ?_, ?_, acc ++ [u], upd_same, ?_⟩
          · rw [hA.len]
            simp only [List.length_map, List.length_take]
            exact small24' (by omega)
          · exact same_mut sm3 hD3
          · have e : zs.take (i + 1) = zs.take i ++ [.ref tt] := by rw [List.take_add_one, hx]; rfl
            rw [e, List.map_append, List.map_append]
            refine (hA.app ?_).et (et_lst hL3)
            simp only [List.map_cons, List.map_nil, hkx]
            exact .one (((hTu.to sm2).to k4).to sm3)
        obtain ⟨sm3, acc, hL3, hA⟩ := hP
        rw [List.take_length, hsrt] at hA
        refine ⟨D3, acc, rfl, .inl ⟨.of hL3, fun c2 hc2 => ⟨(by show 2 ≤ sizeLine; decide), fun a2 ha2 => ?_⟩⟩⟩
        have k5 : Same H3 (upd H3 c2 (.tup acc)) := same_new hc2
        have k6 : Same (upd H3 c2 (.tup acc)) (upd (upd H3 c2 (.tup acc)) a2 (.tup [.str "any", .ref c2])) := same_new ha2
        refine q _ _ (((((sm.trans sm2).trans k4).trans sm3).trans k5).trans k6) ?_
        rw [PQ.norm_any, hqs, TA_nd]
        exact ⟨a2, c2, acc, rfl, upd_same, k6 _ _ upd_same, hA.to (k5.trans k6)⟩
      | true =>
        refine ⟨.ref a, rfl, a, _, 0, _, rfl, rfl, .of h1', s0, rfl, false, by decide +kernel, iteF ?_⟩
        obtain ⟨q0, mid, ql, rfl⟩ : ∃ q0 mid ql, qs = q0 :: (mid ++ [ql]) := by
          have := l3 rfl
          match qs, hqlen with
          | [], h => simp at h; omega
          | q0 :: r, h =>
            rcases List.eq_nil_or_concat r with rfl | ⟨mid, ql, e⟩
            · simp at h; omega
            · exact ⟨q0, mid, ql, by rw [e, List.concat_eq_append]⟩
        obtain ⟨u0, ur, rfl, hT0, hUr⟩ := TAs_cons.mp hU
        obtain ⟨um, ue, rfl, hTm, hTe⟩ := hUr.split
        obtain ⟨ul, uz, rfl, hTl, hz⟩ := TAs_cons.mp hTe
        rw [TAs_nil] at hz
        subst hz
        have at1 : atI (u0 :: (um ++ [ul])) (-1) = some ul := by
          rw [← List.cons_append]; exact atI_last _ _
        refine ⟨.ref D, rfl, D, _, 0, u0, rfl, rfl, .of hL, atI_nat (j := 0) rfl, u0, q0, rfl, hT0, smq q0 (by simp), fun H2 k1 => ?_⟩
        refine ⟨.ref D, rfl, 1, rfl, D, _, _, ul, rfl, rfl, .of (k1 _ _ hL), at1, ul, ql, rfl, hTl.to k1, smq ql (by simp), fun H3 k2 => ?_⟩
        have eo := orient_ends q0 ql mid
        have k12 := k1.trans k2
        refine ⟨_, _, rfl, rfl, _, rfl, ite2 (fun cc => ?_) (fun cc => ?_)⟩
        · have cc' : PQ.least ql < PQ.least q0 := of_decide_eq_true cc
          rw [if_pos cc'] at eo
          refine ⟨.ref D, rfl, D, _, rfl, .of (k12 _ _ hL), fun R hR => ?_⟩
          have k3 : Same H3 (upd H3 R (.lst (u0 :: (um ++ [ul])).reverse)) := same_new hR
          refine ⟨.ref R, rfl, R, _, rfl, .inl ⟨.of upd_same, fun c2 hc2 => ⟨(by show 2 ≤ sizeLine; decide), fun a2 ha2 => ?_⟩⟩⟩
          have k5 := k3.trans (same_new (o := .tup (u0 :: (um ++ [ul])).reverse) hc2)
          have k6 := same_new (o := .tup [.str "row", .ref c2]) ha2
          refine q _ _ (((sm.trans k12).trans k5).trans k6) ?_
          rw [PQ.norm_row, hqs, eo, TA_nd]
          exact ⟨a2, c2, _, rfl, upd_same, k6 _ _ upd_same, ((hU.to k12).to (k5.trans k6)).rev⟩
        · have cc' : ¬ PQ.least ql < PQ.least q0 := fun e => cc (decide_eq_true e)
          rw [if_neg cc'] at eo
          refine ⟨.ref D, rfl, D, _, rfl, .inl ⟨.of (k12 _ _ hL), fun c2 hc2 => ⟨(by show 2 ≤ sizeLine; decide), fun a2 ha2 => ?_⟩⟩⟩
          have k5 := same_new (o := .tup (u0 :: (um ++ [ul]))) hc2
          have k6 := same_new (o := .tup [.str "row", .ref c2]) ha2
          refine q _ _ (((sm.trans k12).trans k5).trans k6) ?_
          rw [PQ.norm_row, hqs, eo, TA_nd]
          exact ⟨a2, c2, _, rfl, upd_same, k6 _ _ upd_same, (hU.to k12).to (k5.trans k6)⟩
end
end Wk
namespace PQ
theorem pairs_more : ∀ {ps : List T} {i : Nat} {a b : T}, ps[i]? = some a → ps[i + 1]? = some b → pairs (ps.take (i + 2)) = pairs (ps.take (i + 1)) ++ [isort (lst a ++ lst b)]
  | [], _, _, _, h, _ => by simp at h
  | [_], i, _, _, _, h => by simp at h
  | x :: y :: r, 0, a, b, h1, h2 => by
    simp at h1 h2
    subst h1; subst h2
    simp [pairs]
  | x :: y :: r, i + 1, a, b, h1, h2 => by
    have := pairs_more (ps := y :: r) (i := i) (by simpa using h1) (by simpa using h2)
    rw [List.take_succ_cons, List.take_succ_cons (i := i + 1)]
    rw [List.take_succ_cons] at this ⊢
    rw [List.take_succ_cons] at this ⊢
    simp only [pairs]
    rw [this]
    rfl
theorem csetsL_more {ps : List T} {i : Nat} {p : T} (h : ps[i]? = some p) : csetsL (ps.take (i + 1)) = csetsL (ps.take i) ++ csets p := by
  rw [csetsL_eq, csetsL_eq, List.take_add_one, h, List.flatMap_append]
  simp
theorem pairs_len : ∀ ps : List T, (pairs ps).length = ps.length - 1
  | [] => by simp [pairs]
  | [_] => by simp [pairs]
  | x :: y :: r => by
    have := pairs_len (y :: r)
    simp only [pairs, List.length_cons] at this ⊢
    omega
theorem csetsL_len : ∀ ps : List T, (∀ p ∈ ps, (csets p).length + 1 ≤ (lst p).length) → (csetsL ps).length + ps.length ≤ (lstL ps).length
  | [], _ => by simp [csetsL_eq]
  | p :: r, h => by
    have h1 := h p (by simp)
    have h2 := csetsL_len r fun q hq => h q (by simp [hq])
    rw [csetsL_eq] at h2 ⊢
    rw [lstL_cons, List.flatMap_cons, List.length_append, List.length_append, List.length_cons]
    omega
theorem csets_len : ∀ t : T, wf t → (csets t).length + 1 ≤ (lst t).length := by
  intro t
  induction t using T.ind with
  | h1 i => intro _; simp [csets_th, lst_th]
  | h2 b ps ih =>
    intro hw
    obtain ⟨l2, _, hk⟩ := wf_nd.mp hw
    have h := csetsL_len ps fun p hp => ih p hp (hk p hp)
    rw [lst_nd]
    cases b with
    | false => rw [csets_any, List.length_cons]; omega
    | true =>
      rw [csets_row, List.length_append]
      have := pairs_len ps
      omega
theorem csets_ne : ∀ t : T, wf t → ∀ S ∈ csets t, S ≠ [] := by
  intro t
  induction t using T.ind with
  | h1 i => intro _ S h; simp [csets_th] at h
  | h2 b ps ih =>
    intro hw S hS
    obtain ⟨l2, _, hk⟩ := wf_nd.mp hw
    have hL : S ∈ csetsL ps → S ≠ [] := fun h => by
      obtain ⟨p, hp, h⟩ := mem_csetsL.mp h
      exact ih p hp (hk p hp) S h
    cases b with
    | false =>
      rw [csets_any] at hS
      rcases List.mem_cons.mp hS with rfl | h
      · intro e
        have h1 := (isort_perm (lstL ps)).length_eq
        rw [e] at h1
        have h2 := kids_len hk
        rw [List.length_nil] at h1
        omega
      · exact hL h
    | true =>
      rw [csets_row] at hS
      rcases List.mem_append.mp hS with h | h
      · obtain ⟨x, u, v, y, rfl, rfl⟩ := mem_pairs.mp h
        intro e
        have h1 := (isort_perm (lst u ++ lst v)).length_eq
        rw [e, List.length_append] at h1
        have h2 := len_pos (hk u (by simp))
        rw [List.length_nil] at h1
        omega
      · exact hL h
end PQ
namespace Wk
open PySem PySem.Spec PyProof.Rows L2
open PQ (T)
/-- the addresses of some sets -/
def refsOf (ks : List (Addr × List Int)) : List V := ks.map fun p => V.ref p.1
/-- the sets stand there -/
def KsAt (H : Hp) (ks : List (Addr × List Int)) : Prop := ∀ p ∈ ks, H p.1 = some (.tup (iL p.2))
theorem KsAt.et {H H' : Hp} {ks : List (Addr × List Int)} (e : Et H H') (h : KsAt H ks) : KsAt H' ks := fun p hp => e _ _ (h p hp)
theorem KsAt.app {H : Hp} {ks ls : List (Addr × List Int)} (h1 : KsAt H ks) (h2 : KsAt H ls) : KsAt H (ks ++ ls) := fun p hp => by
  rcases List.mem_append.mp hp with h | h
  · exact h1 p h
  · exact h2 p h
theorem KsAt.one {H : Hp} {a : Addr} {S : List Int} (h : H a = some (.tup (iL S))) : KsAt H [(a, S)] := fun p hp => by
  rw [List.mem_singleton] at hp; subst hp; exact h
theorem KsAt.nil {H : Hp} : KsAt H [] := fun p hp => by simp at hp
theorem refs_len (ks : List (Addr × List Int)) : (refsOf ks).length = ks.length := List.length_map _
theorem refs_app (ks ls : List (Addr × List Int)) : refsOf (ks ++ ls) = refsOf ks ++ refsOf ls := List.map_append
section
variable {P : Program} {w : World} {K : PySem.W.Frag} {mg : Str → Option Value} {base : Heap}
/-! ### collect_sets -/
abbrev s_collect_sets : Stmt := topS 26
abbrev n_collect_sets : List Str := ["tree", "found", "parts", "index", "part"]
abbrev p_collect_sets : List Str := ["tree", "found"]
theorem sc_collect_sets : FnScope n_collect_sets p_collect_sets (defScope s_collect_sets) := ⟨rfl, rfl, rfl, by decide +kernel, rfl, by decide +kernel, by decide +kernel⟩
def spCollect (n : Nat) : Sp := fun vs H Q _ => ∃ (v : V) (l : Addr) (t : T) (ks : List (Addr × List Int)), vs = [v, .ref l] ∧ TA H v t ∧ PQ.wf t ∧ (PQ.lst t).length ≤ n ∧ n ≤ 24 ∧ H l = some (.lst (refsOf ks)) ∧ ks.length + (PQ.csets t).length ≤ 60 ∧
  ∀ ls H', But l H H' → H' l = some (.lst (refsOf (ks ++ ls))) → KsAt H' ls → ls.map (·.2) = PQ.csets t → Q .non H'
theorem c_collect_sets (T : Txt K mg) (t : Tx K mg "collect_sets" s_collect_sets p_collect_sets) (c_is_thing : Cb P w K mg base 1 "is_thing" p_is_thing spThing) (c_listed : Cb P w K mg base 25 "listed" p_listed (spListed 24)) : ∀ n, Cb P w K mg base (n + 26) "collect_sets" p_collect_sets (spCollect n) := by
  intro n
  induction n with
  | zero =>
    obtain ⟨f, fd, F, b, m⟩ := t
    refine ⟨f, fd, ⟨fun vs H Q E h => ?_, fun A outer s H args us vs Q E _ _ _ _ h => ?_⟩, m, F.kp, b⟩
    · obtain ⟨v, l, t, ks, rfl, _⟩ := h; rfl
    · obtain ⟨v, l, t, ks, rfl, _, hw, hl, _⟩ := h
      have := PQ.len_pos hw
      omega
  | succ n ih =>
    have e27 : n + 1 + 26 = (n + 26) + 1 := by omega
    rw [e27]
    refine t.cb sc_collect_sets (fun vs H Q E h => ?_) (fun f cdv A outer s H vs Q E hr h => ?_)
    · obtain ⟨v, l, t, ks, rfl, _⟩ := h; rfl
    obtain ⟨v, l, t, ks, rfl, hT, hw, hl, h24, hL, hz, q⟩ := h
    have nd := sc_collect_sets.nd
    have c_collect_sets := ih
    refine ⟨_, (pss_cons (ps_if (pt_val (pe_user c_is_thing hr (by omega) (pa_cons (pv 0) pa_nil)))
      (pss_one ps_retN)
      pss_nil)
    (pss_cons (ps_set (i := 2) nd rfl (Or.inl rfl) (pe_ix ix_tup (pv 0) pe_int (fun _ _ => rfl)))
    (pss_cons (ps_if (pt_cmpR op_eq (pe_ix ix_tup (pv 0) pe_int (fun _ _ => rfl)) pe_str (nomark _))
      (pss_one (ps_expr (pe_bm PySem.F.plainAttrs_list PySem.F.slot_list_append PySem.F.type_list_append mt_append (pv 1) (pa_cons (pe_callTy call_tuple_of (by rfl) T.n_tuple (by decide +kernel) (pa_cons (pe_callB cr_sortedI (by rfl) T.n_sorted (by decide +kernel) (pa_cons (pe_user c_listed hr (by omega) (pa_cons (pv 0) pa_nil)) pa_nil)) pa_nil)) pa_nil))))
      (pss_one (ps_for PassesOwn.never rfl (pi_range2 (by rfl) T.n_range (pa_cons pe_int (pa_cons (pe_callB call_len_seq (by rfl) T.n_len PySem.boot_len (pa_cons (pv 2) pa_nil)) pa_nil))) (pg_name (i := 3) nd rfl (Or.inl rfl))
        (pss_one (ps_expr (pe_bm PySem.F.plainAttrs_list PySem.F.slot_list_append PySem.F.type_list_append mt_append (pv 1) (pa_cons (pe_callTy call_tuple_of (by rfl) T.n_tuple (by decide +kernel) (pa_cons (pe_callB cr_sortedI (by rfl) T.n_sorted (by decide +kernel) (pa_cons (pe_op op_cat (pe_user c_listed hr (by omega) (pa_cons (pe_ix ix_tup (pv 2) (pe_op op_sub (pv 3) pe_int) (fun _ _ => rfl)) pa_nil)) (pe_user c_listed hr (by omega) (pa_cons (pe_ix ix_tup (pv 2) (pv 3) (fun _ _ => rfl)) pa_nil))) pa_nil)) pa_nil)) pa_nil)))))))
    (pss_one (ps_for PassesOwn.never rfl (pi_tup (pv 2)) (pg_name (i := 4) nd rfl (Or.inl rfl))
      (pss_one (ps_expr (pe_user c_collect_sets hr (by omega) (pa_cons (pv 4) (pa_cons (pv 1) pa_nil)))))))))), ?_⟩
    refine ⟨_, rfl, _, _, rfl, thV_of hT, _, rfl, ?_⟩
    cases t with
    | th i => exact iteT (q [] H (But.refl l H) (by rw [List.append_nil]; exact hL) .nil (by rw [PQ.csets_th]; rfl))
    | nd b ps =>
      have hT0 := hT
      obtain ⟨a, c, ws, rfl, h1, h2, h3⟩ := TA_nd.mp hT
      obtain ⟨l2, l3, hk⟩ := PQ.wf_nd.mp hw
      have hl0 := hl
      rw [PQ.lst_nd] at hl
      have hlen := h3.len
      have hkl := PQ.kids_len hk
      have s1 := atI_nat (j := 1) (xs := [V.str (wd b), V.ref c]) rfl
      have s0 := atI_nat (j := 0) (xs := [V.str (wd b), V.ref c]) rfl
      refine iteF ⟨.ref a, rfl, a, _, 1, _, rfl, rfl, .of h1, s1, ?_⟩
      have step : ∀ {i : Nat} {x : V} {H' : Hp} {pre : List (List Int)} {ls : List (Addr × List Int)} {Qn : Hp → Prop}, (pre ++ PQ.csetsL ps).length = (PQ.csets (.nd b ps)).length → ws[i]? = some x → But l H H' → H' l = some (.lst (refsOf (ks ++ ls))) → KsAt H' ls → ls.map (·.2) = pre ++ PQ.csetsL (ps.take i) →
          (∀ H2 ls2, But l H H2 → H2 l = some (.lst (refsOf (ks ++ ls2))) → KsAt H2 ls2 → ls2.map (·.2) = pre ++ PQ.csetsL (ps.take (i + 1)) → Qn H2) →
          spCollect n [x, .ref l] H' (fun _ H2 => Qn H2) (fun _ _ _ => False) := by
        intro i x H' pre ls Qn hpre hx bt hL1 hK hm q1
        obtain ⟨p, hp, hTp⟩ := h3.getV hx
        have hpm : p ∈ ps := List.mem_of_getElem? hp
        have hkl2 := PQ.kid_len l2 hk hpm
        have hsum : (PQ.csetsL (ps.take i)).length + (PQ.csets p).length ≤ (PQ.csetsL ps).length := by
          have e := PQ.csetsL_more hp
          have : (PQ.csetsL (ps.take (i + 1))).length ≤ (PQ.csetsL ps).length := by
            conv => rhs; rw [← List.take_append_drop (i + 1) ps]
            rw [PQ.csetsL_eq, PQ.csetsL_eq, List.flatMap_append, List.length_append]; omega
          rw [e, List.length_append] at this
          exact this
        refine ⟨x, l, p, ks ++ ls, rfl, hTp.et (et_but hL bt), hk p hpm, by omega, by omega, hL1, ?_, fun ls2 H2 bt2 hL2 hK2 hm2 => q1 H2 (ls ++ ls2) (bt.trans bt2) (by rw [← List.append_assoc]; exact hL2) ((hK.et (et_but hL1 bt2)).app hK2) ?_⟩
        · have e1 := congrArg List.length hm
          rw [List.length_map, List.length_append] at e1
          rw [List.length_append] at hpre
          rw [List.length_append]
          omega
        · rw [List.map_append, hm, hm2, PQ.csetsL_more hp, List.append_assoc]
      cases b with
      | false =>
        refine ⟨.ref a, rfl, a, _, 0, _, rfl, rfl, .of h1, s0, rfl, true, by decide +kernel, iteT ?_⟩
        refine ⟨.ref l, rfl, .inl ⟨rfl, _, .of hL⟩, _, rfl, .ref a, _, rfl, hT0, hw, by omega, Nat.le_refl _, fun p H2 s2 hp0 hp => ?_⟩
        refine ⟨p, _, rfl, .of hp, fun ns' r hperm hsort hr0 => ⟨r, _, rfl, .inl ⟨.of upd_same, fun z hz0 => ?_⟩⟩⟩
        have k1 : Same H2 (upd H2 r (.lst (iL ns'))) := same_new hr0
        have k2 : Same H (upd (upd H2 r (.lst (iL ns'))) z (.tup (iL ns'))) := (s2.trans k1).trans (same_new hz0)
        have e : ns' = PQ.isort (PQ.lstL ps) := PQ.isort_uniq (by rw [PQ.lst_nd] at hperm; exact hperm) hsort
        have hL2 := k2 _ _ hL
        refine ⟨l, _, .ref z, rfl, rfl, hL2, ?_, ?_⟩
        · rw [refs_len]; exact small24' (by omega)
        have hcs : ([PQ.isort (PQ.lstL ps)] ++ PQ.csetsL ps).length = (PQ.csets (.nd false ps)).length := by rw [PQ.csets_any]; rfl
        refine ⟨.ref c, rfl, c, rfl, ⟨ws, .of (et_lst hL2 _ _ (k2 _ _ h2))⟩, ?_⟩
        refine for_tup (xs := ws) (fun i σ H' => ∃ zp ls, σ = [some (.ref a), some (.ref l), some (.ref c), none, zp] ∧ But l H H' ∧ H' l = some (.lst (refsOf (ks ++ ls))) ∧ KsAt H' ls ∧ ls.map (·.2) = [PQ.isort (PQ.lstL ps)] ++ PQ.csetsL (ps.take i))
          ⟨none, [(z, ns')], rfl, (but_of k2).trans but_upd, ?_, ?_, ?_⟩ (fun i σ H' _ hP => ?_) (fun i x σ H' hx hP => ?_) (fun σ H' hP => ?_)
        · rw [upd_same, refs_app]; rfl
        · exact (KsAt.one upd_same).et (et_lst hL2)
        · rw [List.map_cons, e]; simp [PQ.csetsL_eq]
        · obtain ⟨zp, ls, rfl, bt, _⟩ := hP
          exact .of (et_but hL bt _ _ h2)
        · obtain ⟨zp, ls, rfl, bt, hL1, hK, hm⟩ := hP
          refine ⟨_, rfl, .ref l, rfl, ?_⟩
          exact step hcs hx bt hL1 hK hm fun H3 ls2 b3 l3 k3 m3 => ⟨_, ls2, rfl, b3, l3, k3, m3⟩
        · obtain ⟨zp, ls, rfl, bt, hL1, hK, hm⟩ := hP
          refine q ls H' bt hL1 hK ?_
          rw [hm, List.take_of_length_le (by omega), PQ.csets_any]; rfl
      | true =>
        refine ⟨.ref a, rfl, a, _, 0, _, rfl, rfl, .of h1, s0, rfl, false, by decide +kernel, iteF ?_⟩
        have hcs : (PQ.pairs ps ++ PQ.csetsL ps).length = (PQ.csets (.nd true ps)).length := by rw [PQ.csets_row]
        have hpl := PQ.pairs_len ps
        refine ⟨.ref c, rfl, c, _, rfl, .inr (.of h2), 1, _, rfl, ⟨by decide, by decide, by omega, by omega⟩, ?_⟩
        refine for_range (lo := 1) (n := (((ws.length : Nat) : Int) - 1).toNat) (fun i σ H' => ∃ zi ls, σ = [some (.ref a), some (.ref l), some (.ref c), zi, none] ∧ But l H H' ∧ H' l = some (.lst (refsOf (ks ++ ls))) ∧ KsAt H' ls ∧ ls.map (·.2) = PQ.pairs (ps.take (i + 1)))
          ⟨none, [], rfl, But.refl l H, by rw [List.append_nil]; exact hL, .nil, ?_⟩ (fun i σ H' hi hP => ?_) (fun σ H' hP => ?_)
        · match ps, l2 with
          | x :: r, _ => simp [PQ.pairs]
        · obtain ⟨zi, ls, rfl, bt, hL1, hK, hm⟩ := hP
          have hi2 : i + 1 < ps.length := by omega
          obtain ⟨u, hu, hTu⟩ := h3.get (i := i) (p := ps[i]) (List.getElem?_eq_getElem (by omega))
          obtain ⟨u', hu', hTu'⟩ := h3.get (i := i + 1) (p := ps[i + 1]) (List.getElem?_eq_getElem hi2)
          have hmore := PQ.pairs_more (List.getElem?_eq_getElem (l := ps) (i := i) (by omega)) (List.getElem?_eq_getElem hi2)
          have m1 : ps[i] ∈ ps := List.getElem_mem _
          have m2 : ps[i + 1] ∈ ps := List.getElem_mem _
          generalize ps[i] = pa at *
          generalize ps[i + 1] = pb at *
          have g1 := PQ.kid_len l2 hk m1
          have g2 := PQ.kid_len l2 hk m2
          have et := et_but hL bt
          have hl1 := congrArg List.length hm
          rw [List.length_map, PQ.pairs_len, List.length_take] at hl1
          rw [PQ.csets_row, List.length_append] at hz
          refine ⟨.ref l, rfl, .inl ⟨rfl, _, .of hL1⟩, .ref c, rfl, _, rfl, _, _, rfl, rfl, c, _, _, u, rfl, rfl, .of (et _ _ h2), at_of (j := i) (by omega) hu, u, pa, rfl, hTu.et et, hk pa m1, by omega, Nat.le_refl _, fun p H2 s2 hp0 hp => ?_⟩
          have et2 := et.trans (et_of s2)
          refine ⟨.ref c, rfl, _, rfl, c, _, _, u', rfl, rfl, .of (et2 _ _ h2), at_of (j := i + 1) (by omega) hu', u', pb, rfl, hTu'.et et2, hk pb m2, by omega, Nat.le_refl _, fun p' H3 s3 hp0' hp' => ?_⟩
          refine ⟨p, p', _, _, rfl, rfl, s3 _ _ hp, hp', ?_, fun pc hpc => ⟨pc, PQ.lst pa ++ PQ.lst pb, rfl, .of (by rw [upd_same]; show some (HO.lst _) = some (HO.lst (iL (PQ.lst pa ++ PQ.lst pb))); rw [iL_app]), fun ns' r hperm hsort hr0 => ⟨r, _, rfl, .inl ⟨.of upd_same, fun z hz0 => ?_⟩⟩⟩⟩
          · rw [List.length_map, List.length_map]; exact small24 (by omega)
          have e : ns' = PQ.isort (PQ.lst pa ++ PQ.lst pb) := PQ.isort_uniq hperm hsort
          have k1 := ((s2.trans s3).trans (same_new (o := .lst (iL (PQ.lst pa) ++ iL (PQ.lst pb))) hpc)).trans (same_new (o := .lst (iL ns')) hr0)
          have k2 := k1.trans (same_new (o := .tup (iL ns')) hz0)
          have hL2 := k2 _ _ hL1
          refine ⟨l, _, .ref z, rfl, rfl, hL2, ?_, ?_⟩
          · rw [refs_len, List.length_append]; exact small24' (by omega)
          refine ⟨_, ls ++ [(z, ns')], rfl, (bt.trans (but_of k2)).trans but_upd, ?_, ?_, ?_⟩
          · rw [upd_same, ← List.append_assoc, refs_app (ks ++ ls) [(z, ns')]]; rfl
          · exact ((hK.et (et_of k2)).app (KsAt.one upd_same)).et (et_lst hL2)
          · rw [List.map_append, hm, hmore, ← e]; rfl
        · obtain ⟨zi, ls, rfl, bt, hL1, hK, hm⟩ := hP
          have e : ps.take ((((ws.length : Nat) : Int) - 1).toNat + 1) = ps := List.take_of_length_le (by omega)
          rw [e] at hm
          refine ⟨.ref c, rfl, c, rfl, ⟨ws, .of (et_but hL bt _ _ h2)⟩, ?_⟩
          refine for_tup (xs := ws) (fun i σ H' => ∃ zp ls, σ = [some (.ref a), some (.ref l), some (.ref c), zi, zp] ∧ But l H H' ∧ H' l = some (.lst (refsOf (ks ++ ls))) ∧ KsAt H' ls ∧ ls.map (·.2) = PQ.pairs ps ++ PQ.csetsL (ps.take i))
            ⟨none, ls, rfl, bt, hL1, hK, by rw [hm]; simp [PQ.csetsL_eq]⟩ (fun i σ H' _ hP => ?_) (fun i x σ H' hx hP => ?_) (fun σ H' hP => ?_)
          · obtain ⟨zp, ls, rfl, bt, _⟩ := hP
            exact .of (et_but hL bt _ _ h2)
          · obtain ⟨zp, ls, rfl, bt, hL1, hK, hm⟩ := hP
            refine ⟨_, rfl, .ref l, rfl, ?_⟩
            exact step hcs hx bt hL1 hK hm fun H3 ls2 b3 l3 k3 m3 => ⟨_, ls2, rfl, b3, l3, k3, m3⟩
          · obtain ⟨zp, ls, rfl, bt, hL1, hK, hm⟩ := hP
            refine q ls H' bt hL1 hK ?_
            rw [hm, List.take_of_length_le (by omega), PQ.csets_row]
/-! ### sets_of -/
/-- sets at addresses -/
def RefsAt (K : PySem.W.Frag) (H : Hp) : List V → List (List Int) → Prop := Paired fun v S => ∃ a, v = .ref a ∧ SqT K H a (iL S)
theorem RefsAt.to {H H' : Hp} (e : Same H H') : ∀ {vs : List V} {ss : List (List Int)}, RefsAt K H vs ss → RefsAt K H' vs ss
  | _, _, .nil => .nil
  | _, _, .cons ⟨a, h1, h2⟩ t => .cons ⟨a, h1, e.seqT h2⟩ (RefsAt.to e t)
theorem RefsAt.get {H : Hp} : ∀ {vs : List V} {ss : List (List Int)} {i : Nat} {v : V}, RefsAt K H vs ss → vs[i]? = some v → ∃ a S, ss[i]? = some S ∧ v = .ref a ∧ SqT K H a (iL S)
  | _, _, _, _, .nil, e => by simp at e
  | _, _, 0, _, .cons ⟨a, h1, h2⟩ t, e => by simp at e; subst e; exact ⟨a, _, rfl, h1, h2⟩
  | _, _, i + 1, v, .cons _ t, e => by
    obtain ⟨a, S, e1, r⟩ := RefsAt.get (i := i) (v := v) t (by simpa using e)
    exact ⟨a, S, by simpa using e1, r⟩
theorem RefsAt.length {H : Hp} {vs : List V} {ss : List (List Int)} (h : RefsAt K H vs ss) : vs.length = ss.length := Paired.length h
theorem refsAt_of {H : Hp} {n : Int} : ∀ {vs : List V} {ss : List (List Int)}, SetsAt K H n vs ss → RefsAt K H vs ss
  | _, _, .nil => .nil
  | _, _, .cons ⟨a, h1, h2, _⟩ t => .cons ⟨a, h1, h2⟩ (refsAt_of t)
theorem refsAt_ks {H : Hp} : ∀ {ks : List (Addr × List Int)}, (∀ p ∈ ks, SqT K H p.1 (iL p.2)) → RefsAt K H (refsOf ks) (ks.map (·.2))
  | [], _ => .nil
  | p :: r, h => .cons ⟨p.1, rfl, h p (by simp)⟩ (refsAt_ks fun q hq => h q (by simp [hq]))
abbrev s_sets_of : Stmt := topS 27
abbrev n_sets_of : List Str := ["tree", "found"]
abbrev p_sets_of : List Str := ["tree"]
theorem sc_sets_of : FnScope n_sets_of p_sets_of (defScope s_sets_of) := ⟨rfl, rfl, rfl, by decide +kernel, rfl, by decide +kernel, by decide +kernel⟩
def spSetsOf (K : PySem.W.Frag) : Sp := fun vs H Q _ => ∃ (n : Nat) (v : V) (t : T), vs = [v] ∧ TA H v t ∧ Ov n t ∧ ∀ p us ss H', Same H H' → SqT K H' p us → RefsAt K H' us ss → ss.length ≤ 64 → (∀ S, S ∈ ss ↔ S ∈ PQ.csets t) → Q (.ref p) H'
theorem c_sets_of (T : Txt K mg) (t : Tx K mg "sets_of" s_sets_of p_sets_of) (c_things_of : Cb P w K mg base 26 "things_of" p_things_of spThingsOf) (c_collect_sets : Cb P w K mg base 50 "collect_sets" p_collect_sets (spCollect 24)) :
    Cb P w K mg base 51 "sets_of" p_sets_of (spSetsOf K) := by
  refine t.cb sc_sets_of (fun vs H Q E h => ?_) (fun f cdv A outer s H vs Q E hr h => ?_)
  · obtain ⟨n, v, t, rfl, _⟩ := h; rfl
  obtain ⟨n, v, t, rfl, hT, ov, q⟩ := h
  have nd := sc_sets_of.nd
  refine ⟨_, (pss_cons (ps_expr (pe_user c_things_of hr (by omega) (pa_cons (pv 0) pa_nil)))
    (pss_cons (ps_set (i := 1) nd rfl (Or.inl rfl) (pe_lst pa_nil))
    (pss_cons (ps_expr (pe_user c_collect_sets hr (by omega) (pa_cons (pv 0) (pa_cons (pv 1) pa_nil))))
    (pss_one (ps_ret (pe_callTy call_tuple_of (by rfl) T.n_tuple (by decide +kernel) (pa_cons (pe_callB (cr_sortedV rfl) (by rfl) T.n_sorted (by decide +kernel) (pa_cons (pe_callTy (cr_setOfT rfl hr.units) (by rfl) T.n_set (by decide +kernel) (pa_cons (pv 1) pa_nil)) pa_nil)) pa_nil))))))), ?_⟩
  refine ⟨_, rfl, n, v, t, rfl, hT, ov, fun v' H1 s1 => ?_⟩
  refine ⟨Nat.zero_le _, fun l hl0 => ?_⟩
  have k1 : Same H1 (upd H1 l (.lst [])) := same_new hl0
  have hcl := PQ.csets_len t ov.2.2.1
  have hle := ov.sm.2
  refine ⟨_, rfl, .ref l, rfl, v, l, t, [], rfl, hT.to (s1.trans k1), ov.2.2.1, hle, Nat.le_refl _, upd_same, by simp; omega, fun ls H2 bt hL hK hm => ?_⟩
  have k2 : Same H1 H2 := same_but k1 hl0 bt
  rw [List.nil_append] at hL
  have hml := congrArg List.length hm
  rw [List.length_map] at hml
  refine ⟨.ref l, rfl, l, ls, rfl, .of hL, fun p hp => .of (hK p hp), by omega, fun a L ha h1 h2 => ?_⟩
  have k3 : Same H2 (upd H2 a (SetTO P w a L)) := same_new ha
  have hK3 : ∀ p ∈ L, (upd H2 a (SetTO P w a L)) p.1 = some (.tup (iL p.2)) := fun p hp => k3 _ _ (hK p (h1 p hp))
  have mem : ∀ S, S ∈ L.map (·.2) ↔ S ∈ PQ.csets t := fun S => by
    rw [← hm]
    constructor
    · intro h
      obtain ⟨p, hp, rfl⟩ := List.mem_map.mp h
      exact List.mem_map.mpr ⟨p, h1 p hp, rfl⟩
    · intro h
      obtain ⟨p, hp, rfl⟩ := List.mem_map.mp h
      exact h2 p hp
  refine ⟨a, L, rfl, upd_same, fun p hp => .of (hK3 p hp), fun p hp => PQ.csets_ne t ov.2.2.1 p.2 ((mem _).mp (List.mem_map.mpr ⟨p, hp, rfl⟩)), fun L' r hL' hmem hr0 => ?_⟩
  have k4 := k3.trans (same_new (o := .lst (refsOf L')) hr0)
  refine ⟨r, _, rfl, .inl ⟨.of upd_same, fun z hz => ?_⟩⟩
  have k5 := k4.trans (same_new (o := .tup (refsOf L')) hz)
  refine q z (refsOf L') (L'.map (·.2)) _ ((s1.trans k2).trans k5) (.of upd_same) (refsAt_ks fun p hp => .of (k5 _ _ (hK p (h1 p ((hmem p).mp hp))))) (by rw [List.length_map]; omega) fun S => ?_
  rw [← mem S]
  constructor
  · intro h
    obtain ⟨p, hp, rfl⟩ := List.mem_map.mp h
    exact List.mem_map.mpr ⟨p, (hmem p).mp hp, rfl⟩
  · intro h
    obtain ⟨p, hp, rfl⟩ := List.mem_map.mp h
    exact List.mem_map.mpr ⟨p, (hmem p).mpr hp, rfl⟩
end
end Wk
namespace PQ
/-- the shares of some parts ascend -/
def AscL (shs : List Sh) : Prop := (shs.map rank).Pairwise (· ≤ ·) ∧ (shs.map rank).count 1 < 2
theorem ascL_iff {S : List Int} {ps : List T} : AscL (ps.map (share S)) ↔ asc S ps := by
  unfold AscL asc
  rw [List.map_map]
  have e : ((ps.map (rank ∘ share S)).count 1) = (withSh S .some ps).length := by
    unfold withSh
    rw [List.count_eq_countP, List.countP_map, List.countP_eq_length_filter]
    congr 1
    apply List.filter_congr
    intro p _
    show (rank (share S p) == 1) = decide (share S p = .some)
    cases share S p <;> rfl
  rw [e]
  rfl
end PQ
namespace Wk
open PySem PySem.Spec PyProof.Rows L2
open PQ (T)
/-- the index in a tuple of texts -/
def rIdx (K : PySem.W.Frag) : V → List V → Hp → VK → Prop := fun x xs H Q => ∃ p, ∃ ys : List Str, ∃ z j, x = .ref p ∧ xs = [.str z] ∧ SqT K H p (ys.map V.str) ∧ ys[j]? = some z ∧ (∀ m, m < j → ys[m]? ≠ some z) ∧ Q (.int (j : Nat)) H
/-- a method of a tuple that is written there -/
def tTupM (r : V → List V → Hp → VK → Prop) (t0 t : L2.TA) : TE := fun σ H Q => t0 σ H fun ys H1 => ys.length ≤ sizeLine ∧ ∀ p, H1 p = none → t σ (upd H1 p (.tup ys)) fun xs H2 => r (.ref p) xs H2 Q
theorem pe_bmT {X : Cx} {K : PySem.W.Frag} {e : Expr} {es es0 : List Expr} {t0 t : L2.TA} {name : Str} {x1 : Nat} {tpos apos cpos : Pos} {id : String} {r' : PySem.W.Frag → V → List V → Hp → VK → Prop} (hK : X.K = K) (pa : PlainAttrs "tuple") (slot : Slot "tuple" name id) (hty : typeOf (.builtin id) = pure (.type "method_descriptor")) (hm : MtR X id (r' X.K)) (h0 : PA X es0 t0) (ha : PA X (e :: es) t)
    (hbase : attributeBase (.Tuple es0 x1 tpos) name X.env (eval (.Tuple es0 x1 tpos) X.env) = eval (.Tuple es0 x1 tpos) X.env := by rfl)
    (hfew : ((backTo cpos (starEach (e :: es) X.env)).all (fun x => !x.1) && (backToKw cpos (keywordEach [] X.env)).all (fun x => x.1.isSome)
      && decide ((e :: es).length + ([] : List Keyword).length + (if ([] : List Keyword).isEmpty then 0 else 1) < 30)) = true := by rfl)
    (hline : (apos.endLine == cpos.line) = true := by rfl) (hs : starEach (e :: es) X.env = (false, eval e X.env) :: starEach es X.env := by rfl) (hplain : (backTo cpos (starEach es X.env)).any (·.1) = false := by rfl) :
    PE X (.Call (.Attribute (.Tuple es0 x1 tpos) name apos) (e :: es) [] cpos) (tTupM (r' K) t0 t) := by
  subst hK
  refine ⟨fun pins s σ H Q I h => ?_⟩
  refine wpAny_Call_method_late hbase hfew hline rfl ?_
  refine wpAny_Tuple_spliced (thn (h0.run tpos pins s σ H _ I h) fun us s1 ⟨xs, H1, I1, r, z, q⟩ => ⟨by rw [← r.length]; exact z, ?_⟩)
  have hf : H1 s1.heap.objs.size = none := I1.hok.fresh (Nat.le_refl _)
  refine ⟨"tuple", id, pa, slot, hty, ⟨_, Heap.get?_push_size _ rfl, rfl⟩, fun a e => ⟨_, by cases e; exact Heap.get?_push_size _ rfl, rfl⟩, ?_⟩
  have I2 := I1.laid (o := .tup xs) (t' := s1.toks) (h' := s1.heap.push { cls := .type "tuple", data := .seq us.toArray }) (fun b u e => Heap.get?_push_of_some _ e) (Nat.le_refl _) ⟨z, us, r, ⟨_, Heap.get?_push_size _ rfl, rfl, _, rfl⟩⟩
  have hA := ha.run cpos pins _ σ _ _ I2 (q _ hf)
  rw [hs] at hA ⊢
  refine Calls.callWith_builtin (by show (false || (backTo cpos (starEach es X.env)).any (·.1)) = false; rw [hplain] <;> rfl) (Calls.evalArgs_plain ?_)
  exact thn hA fun us2 s2 ⟨vs, H2, I3, r3, q2⟩ => hm pins s2 σ H2 (.ref s1.heap.objs.size) vs _ us2 Q I3 rfl r3 q2
def shS : PQ.Sh → Str
  | .none => "none"
  | .some => "some"
  | .all => "all"
theorem shS_inj {a b : PQ.Sh} (h : shS a = shS b) : a = b := by
  cases a <;> cases b <;> first | rfl | (exfalso; revert h; decide +kernel)
theorem inV_iL (x : Int) : ∀ S : List Int, inV (.int x) (iL S) = decide (x ∈ S)
  | [] => rfl
  | y :: S => by
    have := inV_iL x S
    unfold inV iL at this ⊢
    simp only [List.map_cons, List.any_cons]
    rw [this]
    by_cases e : x = y
    · subst e; simp [eqV]
    · have e2 : ¬ y = x := fun h => e h.symm
      simp [e, e2, eqV]
theorem _root_.L2.Same.seqL {K : PySem.W.Frag} {H H' : Hp} {a : Addr} {xs : List V} (e : Same H H') (h : SqL K H a xs) : SqL K H' a xs := by
  rcases h with (h | ⟨o, h⟩) | h
  · exact .inl (.inl (e _ _ h))
  · exact .inl (.inr ⟨o, e _ _ h⟩)
  · exact .inr h
section
variable {P : Program} {w : World} {K : PySem.W.Frag} {mg : Str → Option Value} {base : Heap}
/-! ### share -/
abbrev s_share : Stmt := topS 29
abbrev n_share : List Str := ["tree", "chosen", "things", "count", "thing"]
abbrev p_share : List Str := ["tree", "chosen"]
theorem sc_share : FnScope n_share p_share (defScope s_share) := ⟨rfl, rfl, rfl, by decide +kernel, rfl, by decide +kernel, by decide +kernel⟩
def spShare (K : PySem.W.Frag) : Sp := fun vs H Q _ => ∃ v a S t, vs = [v, .ref a] ∧ TA H v t ∧ SqT K H a (iL S) ∧ Sm t ∧ ∀ H', Same H H' → Q (.str (shS (PQ.share S t))) H'
theorem c_share (T : Txt K mg) (t : Tx K mg "share" s_share p_share) (c_listed : Cb P w K mg base 25 "listed" p_listed (spListed 24)) : Cb P w K mg base 26 "share" p_share (spShare K) := by
  refine t.cb sc_share (fun vs H Q E h => ?_) (fun f cdv A outer s H vs Q E hr h => ?_)
  · obtain ⟨v, a, S, t, rfl, _⟩ := h; rfl
  obtain ⟨v, a, S, t, rfl, hT, hS, ⟨hw, hl⟩, q⟩ := h
  have nd := sc_share.nd
  refine ⟨_, (pss_cons (ps_set (i := 2) nd rfl (Or.inl rfl) (pe_user c_listed hr (by omega) (pa_cons (pv 0) pa_nil)))
    (pss_cons (ps_set (i := 3) nd rfl (Or.inl rfl) (pe_callB call_len_seq (by rfl) T.n_len PySem.boot_len (pa_cons (pe_lc (own := [("thing", 4)]) (g := gName 4) (by rfl) nd (pi_list (pv 2)) (blkOk_by (own := [("thing", 4)]) (N := n_share) (sc := defScope s_share) (by decide +kernel)) (fun _ _ _ _ _ => (pg_name (i := 4) nd rfl (Or.inl rfl))) (fun _ _ _ _ _ => (pts_one (pt_cmpR (r := rIn K false) op_in_seq (pv 4) (pv 1) rfl))) (fun _ _ _ _ _ => (pv 4))) pa_nil)))
    (pss_cons (ps_if (pt_cmpR op_eq (pv 3) pe_int (nomark _))
      (pss_one (ps_ret pe_str))
      pss_nil)
    (pss_cons (ps_if (pt_cmpR op_eq (pv 3) (pe_callB call_len_seq (by rfl) T.n_len PySem.boot_len (pa_cons (pv 2) pa_nil)) (nomark _))
      (pss_one (ps_ret pe_str))
      pss_nil)
    (pss_one (ps_ret pe_str)))))), ?_⟩
  refine ⟨_, rfl, v, t, rfl, hT, hw, hl, Nat.le_refl _, fun p H1 s1 hp0 hp => ?_⟩
  refine ⟨.ref p, rfl, p, rfl, ⟨_, .of hp⟩, fun D hD => ?_⟩
  refine lc_list (xs := iL (PQ.lst t)) (fun i H' => Same H1 H' ∧ H' D = some (.lst (iL (((PQ.lst t).take i).filter fun x => decide (x ∈ S))))) ⟨same_new hD, upd_same⟩ (fun i H' _ hP => .of (hP.1 _ _ hp)) (fun i x H' hx hP => ?_) (fun H' hP => ?_)
  · obtain ⟨sm, hL⟩ := hP
    obtain ⟨y, hy, rfl⟩ : ∃ y, (PQ.lst t)[i]? = some y ∧ V.int y = x := by
      have := hx
      unfold iL at this
      rw [List.getElem?_map] at this
      obtain ⟨y, h1, h2⟩ := Option.map_eq_some_iff.mp this
      exact ⟨y, h1, h2⟩
    have e : ((PQ.lst t).take (i + 1)).filter (fun x => decide (x ∈ S)) = ((PQ.lst t).take i).filter (fun x => decide (x ∈ S)) ++ if y ∈ S then [y] else [] := by
      rw [List.take_add_one, hy, List.filter_append]
      congr 1
      by_cases c : y ∈ S
      · simp [c]
      · simp [c]
    have hle : (((PQ.lst t).take i).filter fun x => decide (x ∈ S)).length ≤ 24 := by
      have h1 := List.length_filter_le (fun x => decide (x ∈ S)) ((PQ.lst t).take i)
      rw [List.length_take] at h1
      omega
    refine ⟨rfl, _, rfl, .ref a, rfl, a, iL S, rfl, .inr ((s1.trans sm).seqT hS), rfl, by simp [iL, flatV], _, rfl, ?_⟩
    rw [inV_iL]
    refine ite2 (fun c => ?_) (fun c => ?_)
    · have c' : y ∈ S := of_decide_eq_true c
      rw [if_pos c'] at e
      refine ⟨_, rfl, _, hL, ?_, same_mut sm hD, ?_⟩
      · rw [List.length_map]; exact small24' (by omega)
      · rw [upd_same, e]; unfold iL; rw [List.map_append]; rfl
    · have c' : y ∉ S := fun h => c (decide_eq_true h)
      rw [if_neg c', List.append_nil] at e
      exact ⟨sm, by rw [e]; exact hL⟩
  · obtain ⟨sm, hL⟩ := hP
    rw [List.take_of_length_le (by rw [List.length_map]; exact Nat.le_refl _)] at hL
    have hc : ((iL ((PQ.lst t).filter fun x => decide (x ∈ S))).length : Nat) = PQ.cntIn S t := by
      rw [List.length_map]; rfl
    refine ⟨D, _, rfl, .inl (.of hL), ?_⟩
    rw [hc]
    have hsh : PQ.share S t = if PQ.cntIn S t = 0 then .none else if PQ.cntIn S t = (PQ.lst t).length then .all else .some := rfl
    refine ⟨_, rfl, rfl, _, rfl, ite2 (fun c => ?_) (fun c => ?_)⟩
    · have c' : PQ.cntIn S t = 0 := by
        have := V.int.inj (of_decide_eq_true c); omega
      rw [if_pos c'] at hsh
      have := q H' (s1.trans sm)
      rw [hsh] at this
      exact this
    · have c' : ¬ PQ.cntIn S t = 0 := fun e => c (decide_eq_true (congrArg V.int (by omega)))
      rw [if_neg c'] at hsh
      refine ⟨_, rfl, .ref p, rfl, p, _, rfl, .inl (.of (sm _ _ hp)), rfl, _, rfl, ite2 (fun d => ?_) (fun d => ?_)⟩
      · have d' : PQ.cntIn S t = (PQ.lst t).length := by
          have := V.int.inj (of_decide_eq_true d)
          rw [List.length_map] at this
          omega
        rw [if_pos d'] at hsh
        have := q H' (s1.trans sm)
        rw [hsh] at this
        exact this
      · have d' : ¬ PQ.cntIn S t = (PQ.lst t).length := fun e => d (decide_eq_true (congrArg V.int (by rw [List.length_map]; omega)))
        rw [if_neg d'] at hsh
        have := q H' (s1.trans sm)
        rw [hsh] at this
        exact this
/-! ### with_share -/
abbrev s_with_share : Stmt := topS 30
abbrev n_with_share : List Str := ["parts", "chosen", "wanted", "part"]
abbrev p_with_share : List Str := ["parts", "chosen", "wanted"]
theorem sc_with_share : FnScope n_with_share p_with_share (defScope s_with_share) := ⟨rfl, rfl, rfl, by decide +kernel, rfl, by decide +kernel, by decide +kernel⟩
def spWith (K : PySem.W.Frag) : Sp := fun vs H Q _ => ∃ c us ps a S z sh, vs = [.ref c, .ref a, .str z] ∧ SqT K H c us ∧ TAs H us ps ∧ (∀ p ∈ ps, Sm p) ∧ ps.length ≤ 24 ∧ SqT K H a (iL S) ∧ z = shS sh ∧ ∀ D vs' H', Same H H' → H' D = some (.lst vs') → TAs H' vs' (PQ.withSh S sh ps) → Q (.ref D) H'
theorem c_with_share (T : Txt K mg) (t : Tx K mg "with_share" s_with_share p_with_share) (c_share : Cb P w K mg base 26 "share" p_share (spShare K)) : Cb P w K mg base 27 "with_share" p_with_share (spWith K) := by
  refine t.cb sc_with_share (fun vs H Q E h => ?_) (fun f cdv A outer s H vs Q E hr h => ?_)
  · obtain ⟨c, us, ps, a, S, z, sh, rfl, _⟩ := h; rfl
  obtain ⟨c, us, ps, a, S, z, sh, rfl, hc, hU, hsm, hle, hS, rfl, q⟩ := h
  have nd := sc_with_share.nd
  refine ⟨_, (pss_one (ps_ret (pe_lc (own := [("part", 3)]) (g := gName 3) (by rfl) nd (pi_tup (pv 0)) (blkOk_by (own := [("part", 3)]) (N := n_with_share) (sc := defScope s_with_share) (by decide +kernel)) (fun _ _ _ _ _ => (pg_name (i := 3) nd rfl (Or.inl rfl))) (fun _ _ _ _ _ => (pts_one (pt_cmpR op_eq (pe_user c_share hr (by omega) (pa_cons (pv 3) (pa_cons (pv 1) pa_nil))) (pv 2) (nomark _)))) (fun _ _ _ _ _ => (pv 3))))), ?_⟩
  have hlen := hU.len
  refine ⟨.ref c, rfl, c, rfl, ⟨us, hc⟩, fun D hD => ?_⟩
  refine lc_tup (xs := us) (fun i H' => Same H H' ∧ ∃ vs', H' D = some (.lst vs') ∧ TAs H' vs' (PQ.withSh S sh (ps.take i))) ⟨same_new hD, [], upd_same, TAs_nil.mpr rfl⟩ (fun i H' _ hP => hP.1.seqT hc) (fun i x H' hx hP => ?_) (fun H' hP => ?_)
  · obtain ⟨sm, vs', hL, hV⟩ := hP
    obtain ⟨p, hp, hTp⟩ := hU.getV hx
    refine ⟨rfl, _, rfl, .ref a, rfl, x, a, S, p, rfl, hTp.to sm, sm.seqT hS, hsm p (List.mem_of_getElem? hp), fun H2 s2 => ?_⟩
    have e : PQ.withSh S sh (ps.take (i + 1)) = PQ.withSh S sh (ps.take i) ++ if PQ.share S p = sh then [p] else [] := by
      unfold PQ.withSh
      rw [List.take_add_one, hp, List.filter_append]
      congr 1
      by_cases c : PQ.share S p = sh
      · simp [c]
      · simp [c]
    refine ⟨_, rfl, rfl, _, rfl, ite2 (fun d => ?_) (fun d => ?_)⟩
    · have d' : PQ.share S p = sh := shS_inj (V.str.inj (of_decide_eq_true d))
      rw [if_pos d'] at e
      have hL2 := s2 _ _ hL
      refine ⟨_, rfl, _, hL2, ?_, same_mut (sm.trans s2) hD, _, upd_same, ?_⟩
      · rw [hV.len]
        have h1 := List.length_filter_le (fun p => decide (PQ.share S p = sh)) (ps.take i)
        rw [List.length_take] at h1
        exact small24' (by unfold PQ.withSh; omega)
      · rw [e]
        exact ((hV.to s2).app (.one (hTp.to (sm.trans s2)))).et (et_lst hL2)
    · have d' : ¬ PQ.share S p = sh := fun h => d (decide_eq_true (congrArg (fun s => V.str (shS s)) h))
      rw [if_neg d', List.append_nil] at e
      exact ⟨sm.trans s2, vs', s2 _ _ hL, by rw [e]; exact hV.to s2⟩
  · obtain ⟨sm, vs', hL, hV⟩ := hP
    rw [List.take_of_length_le (by omega)] at hV
    exact q D vs' H' sm hL hV
/-! ### ascends -/
abbrev s_ascends : Stmt := topS 32
abbrev n_ascends : List Str := ["shares", "ranks", "told"]
abbrev p_ascends : List Str := ["shares"]
theorem sc_ascends : FnScope n_ascends p_ascends (defScope s_ascends) := ⟨rfl, rfl, rfl, by decide +kernel, rfl, by decide +kernel, by decide +kernel⟩
def spAscends (K : PySem.W.Frag) : Sp := fun vs H Q _ => ∃ (l : Addr) (shs : List PQ.Sh), vs = [.ref l] ∧ SqL K H l (shs.map fun s => V.str (shS s)) ∧ shs.length ≤ 24 ∧ ∀ b H', Same H H' → (b = true ↔ PQ.AscL shs) → Q (.bl b) H'
theorem c_ascends (T : Txt K mg) (t : Tx K mg "ascends" s_ascends p_ascends) : Cb P w K mg base 1 "ascends" p_ascends (spAscends K) := by
  refine t.cb sc_ascends (fun vs H Q E h => ?_) (fun f cdv A outer s H vs Q E hr h => ?_)
  · obtain ⟨l, shs, rfl, _⟩ := h; rfl
  obtain ⟨l, shs, rfl, hL, hle, q⟩ := h
  have nd := sc_ascends.nd
  refine ⟨_, (pss_cons (ps_setLc (i := 1) (own := [("told", 2)]) (g := gName 2) (by rfl) nd rfl rfl (sw_true rfl rfl rfl (by decide +kernel)) (pi_list (pv 0)) (blkOk_by (own := [("told", 2)]) (N := n_ascends) (sc := defScope s_ascends) (by decide +kernel)) (fun _ _ _ _ _ => (pg_name (i := 2) nd rfl (Or.inl rfl))) (fun _ _ _ _ _ => pts_nil) (fun _ _ _ _ _ => (pe_bmT (K := K) (r' := rIdx) rfl PySem.F.plainAttrs_tuple PySem.F.slot_tuple_index PySem.F.type_tuple_index mt_tup_index (pa_cons pe_str (pa_cons pe_str (pa_cons pe_str pa_nil))) (pa_cons (pv 2) pa_nil))))
    (pss_one (ps_ret (pe_and (pe_cmpR (op_eqD hr.units) (pv 1) (pe_callB cr_sortedI (by rfl) T.n_sorted (by decide +kernel) (pa_cons (pv 1) pa_nil)) (nomark _)) (pe_one (pe_cmpR op_lt (pe_bm PySem.F.plainAttrs_list PySem.F.slot_list_count PySem.F.type_list_count mt_lcount (pv 1) (pa_cons pe_int pa_nil)) pe_int (nomark _))))))), ?_⟩
  refine ⟨.ref l, rfl, l, rfl, ⟨_, hL⟩, fun D hD => ?_⟩
  refine lc_list (xs := shs.map fun s => V.str (shS s)) (fun i H' => Same H H' ∧ H' D = some (.lst (iL ((shs.take i).map fun s => ((PQ.rank s : Nat) : Int))))) ⟨same_new hD, upd_same⟩ (fun i H' _ hP => hP.1.seqL hL) (fun i x H' hx hP => ?_) (fun H' hP => ?_)
  · obtain ⟨sm, hL2⟩ := hP
    obtain ⟨s, hs, rfl⟩ : ∃ s, shs[i]? = some s ∧ V.str (shS s) = x := by
      rw [List.getElem?_map] at hx
      obtain ⟨y, h1, h2⟩ := Option.map_eq_some_iff.mp hx
      exact ⟨y, h1, h2⟩
    refine ⟨rfl, yesT ⟨(by show 3 ≤ sizeLine; decide), fun z hz => ⟨_, rfl, z, ["none", "some", "all"], shS s, PQ.rank s, rfl, rfl, .of upd_same, ?_, ?_, _, same_new hz _ _ hL2, ?_, same_mut (sm.trans (same_new hz)) hD, ?_⟩⟩⟩
    · cases s <;> rfl
    · cases s <;> intro m hm <;> simp [PQ.rank] at hm
      · subst hm; decide +kernel
      · rcases (by omega : m = 0 ∨ m = 1) with rfl | rfl <;> decide +kernel
    · rw [List.length_map, List.length_map, List.length_take]; exact small24' (by omega)
    · rw [upd_same, List.take_add_one, hs, List.map_append]; unfold iL; rw [List.map_append]; rfl
  · obtain ⟨sm, hL2⟩ := hP
    rw [List.take_of_length_le (by rw [List.length_map]; exact Nat.le_refl _)] at hL2
    generalize hr : (shs.map fun s => ((PQ.rank s : Nat) : Int)) = rs at *
    have hA : PQ.AscL shs ↔ rs.Pairwise (· ≤ ·) ∧ rs.count 1 < 2 := by
      unfold PQ.AscL
      have e : rs = (shs.map PQ.rank).map fun k : Nat => (k : Int) := by rw [← hr, List.map_map]; rfl
      rw [e, List.pairwise_map (f := fun k : Nat => (k : Int))]
      refine and_congr ⟨fun h => h.imp fun h => by omega, fun h => h.imp fun h => by omega⟩ ?_
      have : ∀ l : List Nat, (l.map fun k : Nat => (k : Int)).count 1 = l.count 1 := fun l => by
        rw [List.count_eq_countP, List.countP_map, List.count_eq_countP]
        apply List.countP_congr
        intro k _
        simp
        omega
      rw [this]
    refine ⟨.ref D, rfl, .ref D, rfl, D, rs, rfl, .of hL2, fun ns' r hperm hsort hr0 => ?_⟩
    have k1 : Same H' (upd H' r (.lst (iL ns'))) := same_new hr0
    refine ⟨_, _, dpI (.of (k1 _ _ hL2)), dpI (l := ns') (.of upd_same), shapedI _, shapedI _, _, rfl, ?_⟩
    rw [eqvI]
    refine ite2 (fun c => ?_) (fun c => ?_)
    · have c' : rs = ns' := of_decide_eq_true c
      refine ⟨.ref D, rfl, .inl ⟨rfl, _, .of (k1 _ _ hL2)⟩, D, rs, 1, rfl, rfl, .of (k1 _ _ hL2), _, _, rfl, rfl, q _ _ (sm.trans k1) ?_⟩
      rw [hA, decide_eq_true_iff]
      constructor
      · intro h; exact ⟨by rw [c']; exact hsort, by omega⟩
      · intro h; have := h.2; omega
    · refine q _ _ (sm.trans k1) ?_
      rw [hA]
      refine ⟨fun h => (by cases h), fun h => absurd (decide_eq_true ?_) c⟩
      exact List.Perm.eq_of_pairwise (le := fun a b => a ≤ b) (fun a b _ _ h1 h2 => by omega) h.1 hsort hperm.symm
end
end Wk
namespace PQ
theorem cat_none (a : Option (List T)) : cat a none = none := by cases a <;> rfl
theorem cat_assoc (a b c : Option (List T)) : cat (cat a b) c = cat a (cat b c) := by
  cases a <;> cases b <;> cases c <;> first | rfl | (show some _ = some _; rw [List.append_assoc])
theorem expand_append {S : List Int} {f : T → Option (List T)} : ∀ a b : List T, expand S f (a ++ b) = cat (expand S f a) (expand S f b)
  | [], b => by
    show expand S f b = cat (some []) (expand S f b)
    cases expand S f b <;> rfl
  | p :: r, b => by
    show cat (exp1 S f p) (expand S f (r ++ b)) = cat (cat (exp1 S f p) (expand S f r)) (expand S f b)
    rw [expand_append r b, cat_assoc]
theorem expand_one {S : List Int} {f : T → Option (List T)} (p : T) : expand S f [p] = exp1 S f p := by
  show cat (exp1 S f p) (some []) = _
  cases exp1 S f p with
  | none => rfl
  | some L => show some (L ++ []) = _; rw [List.append_nil]
theorem expand_take {S : List Int} {f : T → Option (List T)} {ps : List T} {i : Nat} {p : T} (h : ps[i]? = some p) : expand S f (ps.take (i + 1)) = cat (expand S f (ps.take i)) (exp1 S f p) := by
  rw [List.take_add_one, h, expand_append]
  show cat _ (expand S f [p]) = _
  rw [expand_one]
theorem expand_no {S : List Int} {f : T → Option (List T)} {ps : List T} {p : T} (h : p ∈ ps) (e : exp1 S f p = none) : expand S f ps = none := by
  obtain ⟨x, y, rfl⟩ := List.append_of_mem h
  rw [expand_append]
  show cat _ (cat (exp1 S f p) _) = none
  rw [e]
  show cat _ none = none
  rw [cat_none]
theorem split_len {S : List Int} {t : T} {L : List T} (hw : wf t) (hs : share S t = .some) (e : split S t = some L) : L.length ≤ (lst t).length := by
  have h1 := (split_perm hw hs e).length_eq
  have h2 := kids_len (split_wf S t hw L e)
  omega
theorem opt_len (ps : List T) : (opt ps).length ≤ 1 := by cases ps <;> simp [opt]
end PQ
namespace Wk
open PySem PySem.Spec PyProof.Rows L2
open PQ (T)
/-- an `if` whose ends meet again -/
theorem if_join {b : Bool} {X : Prop} {k : L2.St → Hp → Prop} {σ : L2.St} {H : Hp} (I : L2.St → Hp → Prop) (hx : b = true → (∀ σ' H', I σ' H' → k σ' H') → X) (hy : b = false → I σ H) (hk : ∀ σ' H', I σ' H' → k σ' H') : if b = true then X else k σ H := by
  cases b with
  | true => exact iteT (hx rfl hk)
  | false => exact iteF (hk σ H (hy rfl))
/-- a list of trees or None -/
def LO (H : Hp) : V → Option (List T) → Prop
  | v, none => v = .non
  | v, some L => ∃ D us, v = .ref D ∧ H D = some (.lst us) ∧ TAs H us L
/-- a new list of trees or None -/
def LN (H H' : Hp) : V → Option (List T) → Prop
  | v, none => v = .non
  | v, some L => ∃ D us, v = .ref D ∧ H D = none ∧ H' D = some (.lst us) ∧ TAs H' us L
theorem none_back {H H' : Hp} {a : Addr} (e : Same H H') (h : H' a = none) : H a = none := by
  cases e2 : H a with
  | none => rfl
  | some o => rw [e a o e2] at h; cases h
theorem eqv_nil (ps : List T) : (!PyData.eqv (.list (ps.map pd)) (.list [])) = !ps.isEmpty := by
  cases ps <;> simp [PyData.eqv, PyData.eqvAll]
theorem shaped_nil : SeqAt.shaped (.list []) = true := shaped_list (ps := []) (by simp)
section
variable {P : Program} {w : World} {K : PySem.W.Frag} {mg : Str → Option Value} {base : Heap}
/-! ### split -/
def spSplit (K : PySem.W.Frag) (n : Nat) : Sp := fun vs H Q _ => ∃ v a S t, vs = [v, .ref a] ∧ TA H v t ∧ SqT K H a (iL S) ∧ PQ.wf t ∧ (PQ.lst t).length ≤ n ∧ n ≤ 24 ∧ PQ.share S t = .some ∧ ∀ v' H', Same H H' → LN H H' v' (PQ.split S t) → Q v' H'
def spSplitKids (K : PySem.W.Frag) (n : Nat) (g : List Int → List T → Option (List T)) : Sp := fun vs H Q _ => ∃ c a S us ps, vs = [.ref c, .ref a] ∧ SqT K H c us ∧ TAs H us ps ∧ SqT K H a (iL S) ∧ PQ.WfL ps ∧ (∀ p ∈ ps, (PQ.lst p).length ≤ n) ∧ n ≤ 24 ∧ (PQ.lstL ps).length ≤ 24 ∧ ∀ v' H', Same H H' → LN H H' v' (g S ps) → Q v' H'
abbrev s_split_any : Stmt := topS 31
abbrev n_split_any : List Str := ["parts", "chosen", "empty", "full", "mixed", "found", "inner"]
abbrev p_split_any : List Str := ["parts", "chosen"]
theorem sc_split_any : FnScope n_split_any p_split_any (defScope s_split_any) := ⟨rfl, rfl, rfl, by decide +kernel, rfl, by decide +kernel, by decide +kernel⟩
theorem c_split_any (T : Txt K mg) (t : Tx K mg "split_any" s_split_any p_split_any) (c_with_share : Cb P w K mg base 27 "with_share" p_with_share (spWith K)) (c_make_any : Cb P w K mg base 1 "make_any" p_make_any (spMake (K := K) PQ.mkAny))
    {n : Nat} (c_split : Cb P w K mg base (2 * n + 27) "split" ["tree", "chosen"] (spSplit K n)) : Cb P w K mg base (2 * n + 28) "split_any" p_split_any (spSplitKids K n fun S ps => PQ.splitAny S (PQ.split S) ps) := by
  refine t.cb sc_split_any (fun vs H Q E h => ?_) (fun f cdv A outer s H vs Q E hr h => ?_)
  · obtain ⟨c, a, S, us, ps, rfl, _⟩ := h; rfl
  obtain ⟨c, a, S, us, ps, rfl, hc, hU, hS, hw, hkn, hn24, hl, q⟩ := h
  have nd := sc_split_any.nd
  refine ⟨_, (pss_cons (ps_set (i := 2) nd rfl (Or.inl rfl) (pe_user c_with_share hr (by omega) (pa_cons (pv 0) (pa_cons (pv 1) (pa_cons pe_str pa_nil)))))
    (pss_cons (ps_set (i := 3) nd rfl (Or.inl rfl) (pe_user c_with_share hr (by omega) (pa_cons (pv 0) (pa_cons (pv 1) (pa_cons pe_str pa_nil)))))
    (pss_cons (ps_set (i := 4) nd rfl (Or.inl rfl) (pe_user c_with_share hr (by omega) (pa_cons (pv 0) (pa_cons (pv 1) (pa_cons pe_str pa_nil)))))
    (pss_cons (ps_if (pt_cmpR op_gt (pe_callB call_len_seq (by rfl) T.n_len PySem.boot_len (pa_cons (pv 4) pa_nil)) pe_int (nomark _))
      (pss_one (ps_ret pe_non))
      pss_nil)
    (pss_cons (ps_set (i := 5) nd rfl (Or.inl rfl) (pe_lst pa_nil))
    (pss_cons (ps_if (pt_cmpR (op_neD hr.units) (pv 2) (pe_lst pa_nil) (nomark _))
      (pss_one (ps_expr (pe_bm PySem.F.plainAttrs_list PySem.F.slot_list_append PySem.F.type_list_append mt_append (pv 5) (pa_cons (pe_user c_make_any hr (by omega) (pa_cons (pv 2) pa_nil)) pa_nil))))
      pss_nil)
    (pss_cons (ps_if (pt_cmpR (op_neD hr.units) (pv 4) (pe_lst pa_nil) (nomark _))
      (pss_cons (ps_set (i := 6) nd rfl (Or.inl rfl) (pe_user c_split hr (by omega) (pa_cons (pe_ix ix_list (pv 4) pe_int (fun _ _ => rfl)) (pa_cons (pv 1) pa_nil))))
      (pss_cons (ps_if (pt_cmpR op_isN (pv 6) pe_non (nomark _))
        (pss_one (ps_ret pe_non))
        pss_nil)
      (pss_one (ps_expr (pe_bm PySem.F.plainAttrs_list PySem.F.slot_list_extend PySem.F.type_list_extend mt_extend (pv 5) (pa_cons (pv 6) pa_nil))))))
      pss_nil)
    (pss_cons (ps_if (pt_cmpR (op_neD hr.units) (pv 3) (pe_lst pa_nil) (nomark _))
      (pss_one (ps_expr (pe_bm PySem.F.plainAttrs_list PySem.F.slot_list_append PySem.F.type_list_append mt_append (pv 5) (pa_cons (pe_user c_make_any hr (by omega) (pa_cons (pv 3) pa_nil)) pa_nil))))
      pss_nil)
    (pss_one (ps_ret (pv 5))))))))))), ?_⟩
  have hkl := PQ.kids_len hw
  have hsm : ∀ p ∈ ps, Sm p := fun p hp => ⟨hw p hp, by have := hkn p hp; omega⟩
  have hwl : ∀ sh, (PQ.withSh S sh ps).length ≤ ps.length := fun sh => List.length_filter_le _ _
  have hws : ∀ sh, ∀ p ∈ PQ.withSh S sh ps, PQ.wf p ∧ (PQ.lst p).length ≤ 24 := fun sh p hp => hsm p (PQ.mem_withSh.mp hp).1
  refine ⟨.ref c, rfl, .ref a, rfl, c, us, ps, a, S, _, .none, rfl, hc, hU, hsm, by omega, hS, rfl, fun De ue H1 s1 hDe hE => ?_⟩
  refine ⟨.ref c, rfl, .ref a, rfl, c, us, ps, a, S, _, .all, rfl, s1.seqT hc, hU.to s1, hsm, by omega, s1.seqT hS, rfl, fun Df uf H2 s2 hDf hF => ?_⟩
  have s12 := s1.trans s2
  refine ⟨.ref c, rfl, .ref a, rfl, c, us, ps, a, S, _, .some, rfl, s12.seqT hc, hU.to s12, hsm, by omega, s12.seqT hS, rfl, fun Dm um H3 s3 hDm hM => ?_⟩
  have s23 := s2.trans s3
  have s13 := s12.trans s3
  have hDe3 := s23 _ _ hDe
  have hDf3 := s3 _ _ hDf
  have hE3 := hE.to s23
  have hF3 := hF.to s3
  have hwE := hwl .none
  have hwF := hwl .all
  have hwM := hwl .some
  have gE := hws .none
  have gF := hws .all
  have gM := hws .some
  have hlm := hM.len
  have hsp : PQ.splitAny S (PQ.split S) ps = (match PQ.withSh S .some ps with
      | [] => some (PQ.opt (PQ.withSh S .none ps) ++ PQ.opt (PQ.withSh S .all ps))
      | [m] => (PQ.split S m).map fun inner => PQ.opt (PQ.withSh S .none ps) ++ (inner ++ PQ.opt (PQ.withSh S .all ps))
      | _ => none) := by unfold PQ.splitAny; rfl
  have hMs : ∀ m ∈ PQ.withSh S .some ps, m ∈ ps ∧ PQ.share S m = .some := fun m hm => PQ.mem_withSh.mp hm
  generalize PQ.withSh S .none ps = E0 at *
  generalize PQ.withSh S .all ps = F0 at *
  generalize PQ.withSh S .some ps = M0 at *
  refine ⟨.ref Dm, rfl, Dm, um, rfl, .inl (.of hDm), _, _, rfl, rfl, _, rfl, ite2 (fun d => ?_) (fun d => ?_)⟩
  · have d' : (1 : Int) < (um.length : Int) := of_decide_eq_true d
    refine q .non H3 s13 ?_
    have e : PQ.splitAny S (PQ.split S) ps = none := by
      rw [hsp]
      match M0, hlm with
      | [], h => have : um.length = 0 := h; omega
      | [m], h => have : um.length = 1 := h; omega
      | m :: m' :: r, _ => rfl
    show LN H H3 .non (PQ.splitAny S (PQ.split S) ps)
    rw [e]; rfl
  have d' : ¬ (1 : Int) < (um.length : Int) := fun e => d (decide_eq_true e)
  refine ⟨Nat.zero_le _, fun l hl0 => ?_⟩
  have k0 : Same H3 (upd H3 l (.lst [])) := same_new hl0
  -- if empty != []
  refine ⟨.ref De, rfl, Nat.zero_le _, fun z1 hz1 => ⟨_, _, .lst (.of ((k0.trans (same_new hz1)) _ _ hDe3)) (hE3.to (k0.trans (same_new hz1))).dp, .lst (.of upd_same) .nil, shaped_list gE, shaped_nil, _, rfl, ?_⟩⟩
  rw [eqv_nil]
  have k1 : Same H3 (upd (upd H3 l (.lst [])) z1 (.lst [])) := k0.trans (same_new hz1)
  have hl1 : (upd (upd H3 l (.lst [])) z1 (.lst [])) l = some (.lst []) := same_new hz1 _ _ upd_same
  refine if_join (fun σ' H' => σ' = [some (.ref c), some (.ref a), some (.ref De), some (.ref Df), some (.ref Dm), some (.ref l), none] ∧ Same H3 H' ∧ ∃ u, H' l = some (.lst u) ∧ TAs H' u (PQ.opt E0)) (fun hb back => ?_) (fun hb => ?_) (fun σ' H' hI => ?_)
  · refine ⟨.ref l, rfl, .inl ⟨rfl, _, .of hl1⟩, .ref De, rfl, De, ue, E0, rfl, .of (k1 _ _ hDe3), hE3.to k1, by omega, fun v H' sm tv => ⟨l, _, v, rfl, rfl, sm _ _ hl1, small24' (Nat.zero_le _), back _ _ ⟨rfl, same_mut (k1.trans sm) hl0, _, upd_same, ?_⟩⟩⟩
    match E0, hb with
    | p :: r, _ => exact (TAs.one tv).et (et_lst (sm _ _ hl1))
  · match E0, hb with
    | [], _ => exact ⟨rfl, k1, [], hl1, TAs_nil.mpr rfl⟩
  obtain ⟨rfl, k2, u, hu, tu⟩ := hI
  have hul := tu.len
  have hoE := PQ.opt_len E0
  -- if mixed != []
  refine ⟨.ref Dm, rfl, Nat.zero_le _, fun z2 hz2 => ⟨_, _, .lst (.of ((k2.trans (same_new hz2)) _ _ hDm)) (hM.to (k2.trans (same_new hz2))).dp, .lst (.of upd_same) .nil, shaped_list gM, shaped_nil, _, rfl, ?_⟩⟩
  rw [eqv_nil]
  have k3 : Same H3 (upd H' z2 (.lst [])) := k2.trans (same_new hz2)
  have hu3 : (upd H' z2 (.lst [])) l = some (.lst u) := same_new hz2 _ _ hu
  have tu3 := tu.to (same_new (o := .lst []) hz2)
  refine if_join (fun σ' H' => ∃ zi inner, σ' = [some (.ref c), some (.ref a), some (.ref De), some (.ref Df), some (.ref Dm), some (.ref l), zi] ∧ Same H3 H' ∧ inner.length ≤ 24 ∧ (∃ u, H' l = some (.lst u) ∧ TAs H' u (PQ.opt E0 ++ inner)) ∧ ((M0 = [] ∧ inner = []) ∨ ∃ m, M0 = [m] ∧ PQ.split S m = some inner)) (fun hb back => ?_) (fun hb => ?_) (fun σ' H' hI => ?_)
  · rcases M0 with _ | ⟨m, _ | ⟨m', r⟩⟩
    · simp at hb
    · obtain ⟨v0, vr, rfl, hm0, hvr⟩ := TAs_cons.mp hM
      obtain ⟨hmp, hms⟩ := hMs m (by simp)
      refine ⟨.ref Dm, rfl, Dm, _, 0, v0, rfl, rfl, .of (k3 _ _ hDm), atI_nat (j := 0) rfl, .ref a, rfl, v0, a, S, m, rfl, hm0.to k3, (s13.trans k3).seqT hS, hw m hmp, hkn m hmp, hn24, hms, fun v' H5 s5 hLO => ?_⟩
      cases hsm2 : PQ.split S m with
      | none =>
        rw [hsm2] at hLO
        cases (show v' = .non from hLO)
        refine ⟨_, rfl, rfl, true, rfl, iteT (q .non H5 ((s13.trans k3).trans s5) ?_)⟩
        show LN H H5 .non (PQ.splitAny S (PQ.split S) ps)
        rw [hsp]
        show LN H H5 .non (Option.map _ (PQ.split S m))
        rw [hsm2]; rfl
      | some inner =>
        rw [hsm2] at hLO
        obtain ⟨D, ui, rfl, _, hD, hTi⟩ := hLO
        have hil : inner.length ≤ 24 := by
          have := PQ.split_len (hw m hmp) hms hsm2
          have := hkn m hmp
          omega
        have hul2 := hTi.len
        refine ⟨_, rfl, rfl, false, rfl, iteF ⟨.ref l, rfl, .inl ⟨rfl, _, .of (s5 _ _ hu3)⟩, .ref D, rfl, l, D, u, ui, rfl, rfl, s5 _ _ hu3, hD, small24 (by omega), back _ _ ⟨_, inner, rfl, same_mut (k3.trans s5) hl0, hil, ⟨_, upd_same, ?_⟩, .inr ⟨m, rfl, hsm2⟩⟩⟩⟩
        exact ((tu3.to s5).app hTi).et (et_lst (s5 _ _ hu3))
    · have : um.length = r.length + 1 + 1 := hlm
      omega
  · match M0, hb with
    | [], _ => exact ⟨none, [], rfl, k3, by simp, ⟨u, hu3, by rw [List.append_nil]; exact tu3⟩, .inl ⟨rfl, rfl⟩⟩
  obtain ⟨zi, inner, rfl, k4, hil, ⟨u4, hu4, tu4⟩, hcase⟩ := hI
  have hul4 := tu4.len
  rw [List.length_append] at hul4
  -- if full != []
  refine ⟨.ref Df, rfl, Nat.zero_le _, fun z3 hz3 => ⟨_, _, .lst (.of ((k4.trans (same_new hz3)) _ _ hDf3)) (hF3.to (k4.trans (same_new hz3))).dp, .lst (.of upd_same) .nil, shaped_list gF, shaped_nil, _, rfl, ?_⟩⟩
  rw [eqv_nil]
  have k5 : Same H3 (upd H' z3 (.lst [])) := k4.trans (same_new hz3)
  have hu5 : (upd H' z3 (.lst [])) l = some (.lst u4) := same_new hz3 _ _ hu4
  have tu5 := tu4.to (same_new (o := .lst []) hz3)
  refine if_join (fun σ' H' => σ' = [some (.ref c), some (.ref a), some (.ref De), some (.ref Df), some (.ref Dm), some (.ref l), zi] ∧ Same H3 H' ∧ ∃ u, H' l = some (.lst u) ∧ TAs H' u (PQ.opt E0 ++ inner ++ PQ.opt F0)) (fun hb back => ?_) (fun hb => ?_) (fun σ' H' hI => ?_)
  · refine ⟨.ref l, rfl, .inl ⟨rfl, _, .of hu5⟩, .ref Df, rfl, Df, uf, F0, rfl, .of (k5 _ _ hDf3), hF3.to k5, by omega, fun v H' sm tv => ⟨l, _, v, rfl, rfl, sm _ _ hu5, small24 (by omega), back _ _ ⟨rfl, same_mut (k5.trans sm) hl0, _, upd_same, ?_⟩⟩⟩
    match F0, hb with
    | p :: r, _ => exact ((tu5.to sm).app (TAs.one tv)).et (et_lst (sm _ _ hu5))
  · match F0, hb with
    | [], _ => exact ⟨rfl, k5, u4, hu5, by show TAs _ u4 (_ ++ []); rw [List.append_nil]; exact tu5⟩
  obtain ⟨rfl, k6, u6, hu6, tu6⟩ := hI
  refine ⟨.ref l, rfl, q (.ref l) H' (s13.trans k6) ?_⟩
  show LN H H' (.ref l) (PQ.splitAny S (PQ.split S) ps)
  have e : PQ.splitAny S (PQ.split S) ps = some (PQ.opt E0 ++ inner ++ PQ.opt F0) := by
    rw [hsp]
    rcases hcase with ⟨rfl, rfl⟩ | ⟨m, rfl, em⟩
    · rw [List.append_nil]
    · show Option.map _ (PQ.split S m) = _
      rw [em, List.append_assoc]; rfl
  rw [e]
  exact ⟨l, u6, rfl, none_back s13 hl0, hu6, tu6⟩
abbrev s_split_row : Stmt := topS 33
abbrev n_split_row : List Str := ["parts", "chosen", "told", "found", "part", "inner"]
abbrev p_split_row : List Str := ["parts", "chosen"]
theorem sc_split_row : FnScope n_split_row p_split_row (defScope s_split_row) := ⟨rfl, rfl, rfl, by decide +kernel, rfl, by decide +kernel, by decide +kernel⟩
theorem shares_step {H1 H' : Hp} {D : Addr} {S : List Int} {ps : List T} {i : Nat} {p : T} (hp : ps[i]? = some p) (hD : H1 D = none) (sm : Same H1 H') {ys : List V} (hy : ys = ((ps.take i).map (PQ.share S)).map fun s => V.str (shS s)) :
    Same H1 (upd H' D (.lst (ys ++ [.str (shS (PQ.share S p))]))) ∧ (upd H' D (.lst (ys ++ [.str (shS (PQ.share S p))]))) D = some (.lst (((ps.take (i + 1)).map (PQ.share S)).map fun s => V.str (shS s))) := by
  refine ⟨same_mut sm hD, ?_⟩
  rw [upd_same, List.take_add_one, hp, List.map_append, List.map_append, ← hy]; rfl
theorem c_split_row (T : Txt K mg) (t : Tx K mg "split_row" s_split_row p_split_row) (c_share : Cb P w K mg base 26 "share" p_share (spShare K)) (c_ascends : Cb P w K mg base 1 "ascends" p_ascends (spAscends K))
    {n : Nat} (c_split : Cb P w K mg base (2 * n + 27) "split" ["tree", "chosen"] (spSplit K n)) : Cb P w K mg base (2 * n + 28) "split_row" p_split_row (spSplitKids K n fun S ps => PQ.splitRow S (PQ.split S) ps) := by
  refine t.cb sc_split_row (fun vs H Q E h => ?_) (fun f cdv A outer s H vs Q E hr h => ?_)
  · obtain ⟨c, a, S, us, ps, rfl, _⟩ := h; rfl
  obtain ⟨c, a, S, us, ps, rfl, hc, hU, hS, hw, hkn, hn24, hl, q⟩ := h
  have nd := sc_split_row.nd
  refine ⟨_, (pss_cons (ps_set (i := 2) nd rfl (Or.inl rfl) (pe_callTy call_list_of (by rfl) T.n_list (by decide +kernel) (pa_cons (pv 0) pa_nil)))
    (pss_cons (ps_if (pt_not (pt_val (pe_user c_ascends hr (by omega) (pa_cons (pe_lc (own := [("part", 4)]) (g := gName 4) (by rfl) nd (pi_list (pv 2)) (blkOk_by (own := [("part", 4)]) (N := n_split_row) (sc := defScope s_split_row) (by decide +kernel)) (fun _ _ _ _ _ => (pg_name (i := 4) nd rfl (Or.inl rfl))) (fun _ _ _ _ _ => pts_nil) (fun _ _ _ _ _ => (pe_user c_share hr (by omega) (pa_cons (pv 4) (pa_cons (pv 1) pa_nil))))) pa_nil))))
      (pss_one (ps_expr (pe_bm0 PySem.F.plainAttrs_list PySem.F.slot_list_reverse PySem.F.type_list_reverse mt_reverse (pv 2))))
      pss_nil)
    (pss_cons (ps_if (pt_not (pt_val (pe_user c_ascends hr (by omega) (pa_cons (pe_lc (own := [("part", 4)]) (g := gName 4) (by rfl) nd (pi_list (pv 2)) (blkOk_by (own := [("part", 4)]) (N := n_split_row) (sc := defScope s_split_row) (by decide +kernel)) (fun _ _ _ _ _ => (pg_name (i := 4) nd rfl (Or.inl rfl))) (fun _ _ _ _ _ => pts_nil) (fun _ _ _ _ _ => (pe_user c_share hr (by omega) (pa_cons (pv 4) (pa_cons (pv 1) pa_nil))))) pa_nil))))
      (pss_one (ps_ret pe_non))
      pss_nil)
    (pss_cons (ps_set (i := 3) nd rfl (Or.inl rfl) (pe_lst pa_nil))
    (pss_cons (ps_for PassesOwn.never rfl (pi_list (pv 2)) (pg_name (i := 4) nd rfl (Or.inl rfl))
      (pss_one (ps_if (pt_cmpR op_eq (pe_user c_share hr (by omega) (pa_cons (pv 4) (pa_cons (pv 1) pa_nil))) pe_str (nomark _))
        (pss_cons (ps_set (i := 5) nd rfl (Or.inl rfl) (pe_user c_split hr (by omega) (pa_cons (pv 4) (pa_cons (pv 1) pa_nil))))
        (pss_cons (ps_if (pt_cmpR op_isN (pv 5) pe_non (nomark _))
          (pss_one (ps_ret pe_non))
          pss_nil)
        (pss_one (ps_expr (pe_bm PySem.F.plainAttrs_list PySem.F.slot_list_extend PySem.F.type_list_extend mt_extend (pv 3) (pa_cons (pv 5) pa_nil))))))
        (pss_one (ps_expr (pe_bm PySem.F.plainAttrs_list PySem.F.slot_list_append PySem.F.type_list_append mt_append (pv 3) (pa_cons (pv 4) pa_nil)))))))
    (pss_one (ps_ret (pv 3)))))))), ?_⟩
  have hkl := PQ.kids_len hw
  have hlen := hU.len
  have hsm : ∀ p ∈ ps, Sm p := fun p hp => ⟨hw p hp, by have := hkn p hp; omega⟩
  refine ⟨.ref c, rfl, c, us, rfl, .inr hc, fun l hl0 => ?_⟩
  have k0 : Same H (upd H l (.lst us)) := same_new hl0
  refine ⟨.ref l, rfl, l, rfl, ⟨us, .of upd_same⟩, fun D hD => ?_⟩
  refine lc_list (xs := us) (fun i H' => Same (upd H l (.lst us)) H' ∧ H' D = some (.lst (((ps.take i).map (PQ.share S)).map fun s => V.str (shS s)))) ⟨same_new hD, upd_same⟩ (fun i H' _ hP => .of (hP.1 _ _ upd_same)) (fun i x H' hx hP => ?_) (fun H' hP => ?_)
  · obtain ⟨sm, hL⟩ := hP
    obtain ⟨p, hp, hTp⟩ := hU.getV hx
    have km := k0.trans sm
    refine ⟨rfl, yesT ⟨x, rfl, .ref a, rfl, x, a, S, p, rfl, hTp.to km, km.seqT hS, hsm p (List.mem_of_getElem? hp), fun H2 s2 => ⟨_, s2 _ _ hL, ?_, shares_step hp hD (sm.trans s2) rfl⟩⟩⟩
    rw [List.length_map, List.length_map, List.length_take]; exact small24' (by omega)
  obtain ⟨sm, hL⟩ := hP
  rw [List.take_of_length_le (by omega)] at hL
  have hl1 := sm _ _ upd_same
  refine ⟨D, ps.map (PQ.share S), rfl, .of hL, by rw [List.length_map]; omega, fun b1 H2 s2 hb1 => ⟨b1, rfl, ?_⟩⟩
  rw [PQ.ascL_iff] at hb1
  have k2 : Same H H2 := (k0.trans sm).trans s2
  refine if_join (fun σ' H' => σ' = [some (.ref c), some (.ref a), some (.ref l), none, none, none] ∧ Same H H' ∧ ∃ us' ps', H' l = some (.lst us') ∧ TAs H' us' ps' ∧ ((PQ.asc S ps ∧ ps' = ps) ∨ (¬ PQ.asc S ps ∧ ps' = ps.reverse))) (fun hb back => ?_) (fun hb => ?_) (fun σ' H' hI => ?_)
  · have hna : ¬ PQ.asc S ps := fun h => by
      have := hb1.mpr h
      subst this
      cases hb
    refine ⟨.ref l, rfl, .inl ⟨rfl, _, .of (s2 _ _ hl1)⟩, l, us, rfl, rfl, s2 _ _ hl1, back _ _ ⟨rfl, same_mut k2 hl0, us.reverse, ps.reverse, upd_same, ?_, .inr ⟨hna, rfl⟩⟩⟩
    exact (hU.to k2).rev.et (et_lst (s2 _ _ hl1))
  · have hA : PQ.asc S ps := hb1.mp (by cases b1 with
      | true => rfl
      | false => cases hb)
    exact ⟨rfl, k2, us, ps, s2 _ _ hl1, hU.to k2, .inl ⟨hA, rfl⟩⟩
  obtain ⟨rfl, k3, us', ps', hl3, hU', hcase⟩ := hI
  clear hb1
  have hpp : ps'.Perm ps := by
    rcases hcase with ⟨_, rfl⟩ | ⟨_, rfl⟩
    · exact .refl _
    · exact List.reverse_perm _
  have hsm' : ∀ p ∈ ps', Sm p := fun p hp => hsm p (hpp.mem_iff.mp hp)
  have hkn' : ∀ p ∈ ps', (PQ.lst p).length ≤ n := fun p hp => hkn p (hpp.mem_iff.mp hp)
  have hll' : (PQ.lstL ps').length ≤ 24 := by rw [(PQ.lstL_perm hpp).length_eq]; exact hl
  have hpl := hpp.length_eq
  have hlen' := hU'.len
  refine ⟨.ref l, rfl, l, rfl, ⟨us', .of hl3⟩, fun D2 hD2 => ?_⟩
  refine lc_list (xs := us') (fun i H'' => Same H' H'' ∧ H'' D2 = some (.lst (((ps'.take i).map (PQ.share S)).map fun s => V.str (shS s)))) ⟨same_new hD2, upd_same⟩ (fun i H'' _ hP => .of (hP.1 _ _ hl3)) (fun i x H'' hx hP => ?_) (fun H4 hP => ?_)
  · obtain ⟨sm, hL⟩ := hP
    obtain ⟨p, hp, hTp⟩ := hU'.getV hx
    refine ⟨rfl, yesT ⟨x, rfl, .ref a, rfl, x, a, S, p, rfl, hTp.to sm, (k3.trans sm).seqT hS, hsm' p (List.mem_of_getElem? hp), fun H2 s2 => ⟨_, s2 _ _ hL, ?_, shares_step hp hD2 (sm.trans s2) rfl⟩⟩⟩
    rw [List.length_map, List.length_map, List.length_take]; exact small24' (by omega)
  obtain ⟨sm4, hL4⟩ := hP
  rw [List.take_of_length_le (by omega)] at hL4
  refine ⟨D2, ps'.map (PQ.share S), rfl, .of hL4, by rw [List.length_map]; omega, fun b2 H5 s5 hb2 => ⟨b2, rfl, ?_⟩⟩
  rw [PQ.ascL_iff] at hb2
  have k5' : Same H' H5 := sm4.trans s5
  have k5 : Same H H5 := k3.trans k5'
  cases b2 with
  | false =>
    have hna : ¬ PQ.asc S ps' := fun h => by cases hb2.mpr h
    refine iteT (q .non H5 k5 ?_)
    have e : PQ.splitRow S (PQ.split S) ps = none := by
      unfold PQ.splitRow
      rcases hcase with ⟨h1, rfl⟩ | ⟨h1, rfl⟩
      · exact absurd h1 hna
      · rw [if_neg h1, if_neg hna]
    show LN H H5 .non (PQ.splitRow S (PQ.split S) ps)
    rw [e]; rfl
  | true =>
    have hA : PQ.asc S ps' := hb2.mp rfl
    have hsp : PQ.splitRow S (PQ.split S) ps = PQ.expand S (PQ.split S) ps' := by
      unfold PQ.splitRow
      rcases hcase with ⟨h1, rfl⟩ | ⟨h1, rfl⟩
      · rw [if_pos h1]
      · rw [if_neg h1, if_pos hA]
    refine iteF ⟨Nat.zero_le _, fun lf hlf => ?_⟩
    have hl5 := k5' _ _ hl3
    have hU5 := hU'.to k5'
    have kf : Same H5 (upd H5 lf (.lst [])) := same_new hlf
    refine ⟨.ref l, rfl, l, rfl, ⟨us', .of (kf _ _ hl5)⟩, ?_⟩
    refine for_list (xs := us') (fun i σ H'' => ∃ zp zi L u, σ = [some (.ref c), some (.ref a), some (.ref l), some (.ref lf), zp, zi] ∧ Same H5 H'' ∧ H'' lf = some (.lst u) ∧ TAs H'' u L ∧ PQ.expand S (PQ.split S) (ps'.take i) = some L ∧ L.length ≤ (PQ.lstL (ps'.take i)).length)
      ⟨none, none, [], [], rfl, kf, upd_same, TAs_nil.mpr rfl, rfl, Nat.le_refl _⟩ (fun i σ H'' _ hP => ?_) (fun i x σ H'' hx hP => ?_) (fun σ H'' hP => ?_)
    · obtain ⟨zp, zi, L, u, rfl, km, _⟩ := hP
      exact .of (km _ _ hl5)
    · obtain ⟨zp, zi, L, u, rfl, km, hu, hTu, hex, hLl⟩ := hP
      obtain ⟨p, hp, hTp⟩ := hU5.getV hx
      have hpm : p ∈ ps' := List.mem_of_getElem? hp
      have hmore := PQ.expand_take (S := S) (f := PQ.split S) hp
      have hlm := lstL_take hp
      have hle2 := lstL_take_le (ps := ps') (i := i + 1)
      rw [hlm, List.length_append] at hle2
      rw [hex] at hmore
      have hul := hTu.len
      refine ⟨x, rfl, .ref a, rfl, x, a, S, p, rfl, hTp.to km, (k5.trans km).seqT hS, hsm' p hpm, fun H6 s6 => ?_⟩
      have km6 := km.trans s6
      refine ⟨rfl, _, rfl, ite2 (fun d => ?_) (fun d => ?_)⟩
      · have d' : PQ.share S p = .some := shS_inj (b := .some) (V.str.inj (of_decide_eq_true d))
        have e1 : PQ.exp1 S (PQ.split S) p = PQ.split S p := by unfold PQ.exp1; rw [if_pos d']
        refine ⟨x, rfl, .ref a, rfl, x, a, S, p, rfl, hTp.to km6, (k5.trans km6).seqT hS, (hsm' p hpm).1, hkn' p hpm, hn24, d', fun v' H7 s7 hLO => ?_⟩
        cases hspl : PQ.split S p with
        | none =>
          rw [hspl] at hLO
          cases (show v' = .non from hLO)
          refine ⟨_, rfl, rfl, true, rfl, iteT (q .non H7 (k5.trans (km6.trans s7)) ?_)⟩
          show LN H H7 .non (PQ.splitRow S (PQ.split S) ps)
          rw [hsp, PQ.expand_no hpm (by rw [e1, hspl])]; rfl
        | some inner =>
          rw [hspl] at hLO
          obtain ⟨Di, ui, rfl, _, hDi, hTi⟩ := hLO
          have hil := PQ.split_len (hsm' p hpm).1 d' hspl
          have hil2 := hTi.len
          have hu7 := (s6.trans s7) _ _ hu
          refine ⟨_, rfl, rfl, false, rfl, iteF ⟨.ref lf, rfl, .inl ⟨rfl, _, .of hu7⟩, .ref Di, rfl, lf, Di, u, ui, rfl, rfl, hu7, hDi, small24 (by omega), _, _, L ++ inner, _, rfl, same_mut (km6.trans s7) hlf, upd_same, ?_, ?_, ?_⟩⟩
          · exact ((hTu.to (s6.trans s7)).app hTi).et (et_lst hu7)
          · rw [hmore, e1, hspl]; rfl
          · rw [hlm, List.length_append, List.length_append]; omega
      · have d' : ¬ PQ.share S p = .some := fun h => d (decide_eq_true (congrArg (fun s => V.str (shS s)) h))
        have e1 : PQ.exp1 S (PQ.split S) p = some [p] := by unfold PQ.exp1; rw [if_neg d']
        have hpos := PQ.len_pos (hsm' p hpm).1
        have hu6 := s6 _ _ hu
        refine ⟨.ref lf, rfl, .inl ⟨rfl, _, .of hu6⟩, x, rfl, lf, u, x, rfl, rfl, hu6, small24' (by omega), _, _, L ++ [p], _, rfl, same_mut km6 hlf, upd_same, ?_, ?_, ?_⟩
        · exact ((hTu.to s6).app (.one (hTp.to km6))).et (et_lst hu6)
        · rw [hmore, e1]; rfl
        · rw [hlm, List.length_append, List.length_append, List.length_singleton]; omega
    · obtain ⟨zp, zi, L, u, rfl, km, hu, hTu, hex, hLl⟩ := hP
      rw [List.take_of_length_le (by omega)] at hex
      refine ⟨.ref lf, rfl, q (.ref lf) H'' (k5.trans km) ?_⟩
      show LN H H'' (.ref lf) (PQ.splitRow S (PQ.split S) ps)
      rw [hsp, hex]
      exact ⟨lf, u, rfl, none_back k5 hlf, hu, hTu⟩
abbrev s_split : Stmt := topS 34
abbrev n_split : List Str := ["tree", "chosen"]
abbrev p_split : List Str := ["tree", "chosen"]
theorem sc_split : FnScope n_split p_split (defScope s_split) := ⟨rfl, rfl, rfl, by decide +kernel, rfl, by decide +kernel, by decide +kernel⟩
theorem c_split (T : Txt K mg) (t : Tx K mg "split" s_split p_split) (ta : Tx K mg "split_any" s_split_any p_split_any) (tr : Tx K mg "split_row" s_split_row p_split_row) (c_share : Cb P w K mg base 26 "share" p_share (spShare K)) (c_ascends : Cb P w K mg base 1 "ascends" p_ascends (spAscends K))
    (c_with_share : Cb P w K mg base 27 "with_share" p_with_share (spWith K)) (c_make_any : Cb P w K mg base 1 "make_any" p_make_any (spMake (K := K) PQ.mkAny)) : ∀ n, Cb P w K mg base (2 * n + 27) "split" p_split (spSplit K n) := by
  intro n
  induction n with
  | zero =>
    obtain ⟨f, fd, F, b, m⟩ := t
    refine ⟨f, fd, ⟨fun vs H Q E h => ?_, fun A outer s H args us vs Q E _ _ _ _ h => ?_⟩, m, F.kp, b⟩
    · obtain ⟨v, a, S, t, rfl, _⟩ := h; rfl
    · obtain ⟨v, a, S, t, rfl, _, _, hw, hl, _⟩ := h
      have := PQ.len_pos hw
      omega
  | succ n ih =>
    have c_split_any := c_split_any T ta c_with_share c_make_any ih
    have c_split_row := c_split_row T tr c_share c_ascends ih
    have e27 : 2 * (n + 1) + 27 = (2 * n + 28) + 1 := by omega
    rw [e27]
    refine t.cb sc_split (fun vs H Q E h => ?_) (fun f cdv A outer s H vs Q E hr h => ?_)
    · obtain ⟨v, a, S, t, rfl, _⟩ := h; rfl
    obtain ⟨v, a, S, t, rfl, hT, hS, hw, hl, h24, hsh, q⟩ := h
    refine ⟨_, (pss_cons (ps_if (pt_cmpR op_eq (pe_ix ix_tup (pv 0) pe_int (fun _ _ => rfl)) pe_str (nomark _))
      (pss_one (ps_ret (pe_user c_split_any hr (by omega) (pa_cons (pe_ix ix_tup (pv 0) pe_int (fun _ _ => rfl)) (pa_cons (pv 1) pa_nil)))))
      pss_nil)
    (pss_one (ps_ret (pe_user c_split_row hr (by omega) (pa_cons (pe_ix ix_tup (pv 0) pe_int (fun _ _ => rfl)) (pa_cons (pv 1) pa_nil)))))), ?_⟩
    cases t with
    | th i => exact absurd hsh PQ.share_th
    | nd b ps =>
      obtain ⟨ad, c, ws, rfl, h1, h2, h3⟩ := TA_nd.mp hT
      obtain ⟨l2, l3, hk⟩ := PQ.wf_nd.mp hw
      rw [PQ.lst_nd] at hl
      have s1 := atI_nat (j := 1) (xs := [V.str (wd b), V.ref c]) rfl
      have s0 := atI_nat (j := 0) (xs := [V.str (wd b), V.ref c]) rfl
      have hkn : ∀ p ∈ ps, (PQ.lst p).length ≤ n := fun p hp => by
        have := PQ.kid_len l2 hk hp
        omega
      cases b with
      | false =>
        refine ⟨.ref ad, rfl, ad, _, 0, _, rfl, rfl, .of h1, s0, rfl, true, by decide +kernel, iteT ?_⟩
        refine ⟨.ref ad, rfl, ad, _, 1, _, rfl, rfl, .of h1, s1, .ref a, rfl, c, a, S, ws, ps, rfl, .of h2, h3, hS, hk, hkn, by omega, by omega, fun v' H' sm hLO => q v' H' sm ?_⟩
        rw [PQ.split_any]; exact hLO
      | true =>
        refine ⟨.ref ad, rfl, ad, _, 0, _, rfl, rfl, .of h1, s0, rfl, false, by decide +kernel, iteF ?_⟩
        refine ⟨.ref ad, rfl, ad, _, 1, _, rfl, rfl, .of h1, s1, .ref a, rfl, c, a, S, ws, ps, rfl, .of h2, h3, hS, hk, hkn, by omega, by omega, fun v' H' sm hLO => q v' H' sm ?_⟩
        rw [PQ.split_row]; exact hLO
end
end Wk
namespace Wk
open PySem PySem.Spec PyProof.Rows L2
open PQ (T)
def pdL : Option (List T) → PyData
  | none => .none
  | some L => .list (L.map pd)
theorem LO.dp {K : PySem.W.Frag} {H : Hp} {r : Option (List T)} {v : V} (h : LO H v r) : Dp K H v (pdL r) := by
  cases r with
  | none => cases (show v = .non from h); exact .non
  | some L =>
    obtain ⟨D, us, rfl, hD, hT⟩ := h
    exact .lst (.of hD) hT.dp
theorem LO.to {H H' : Hp} (e : Same H H') {r : Option (List T)} {v : V} (h : LO H v r) : LO H' v r := by
  cases r with
  | none => exact h
  | some L =>
    obtain ⟨D, us, rfl, hD, hT⟩ := h
    exact ⟨D, us, rfl, e _ _ hD, hT.to e⟩
theorem LO.mut {H : Hp} {D : Addr} {acc : List V} {o : HO} (hD : H D = some (.lst acc)) {r : Option (List T)} {v : V} (n : v ≠ .ref D) (h : LO H v r) : LO (upd H D o) v r := by
  cases r with
  | none => exact h
  | some L =>
    obtain ⟨D', us, rfl, hD', hT⟩ := h
    refine ⟨D', us, rfl, ?_, hT.et (et_lst hD)⟩
    rw [upd_ne]
    · exact hD'
    · rintro rfl; exact n rfl
theorem LN.lo {H H' : Hp} {r : Option (List T)} {v : V} (h : LN H H' v r) : LO H' v r := by
  cases r with
  | none => exact h
  | some L =>
    obtain ⟨D, us, e, _, hD, hT⟩ := h
    exact ⟨D, us, e, hD, hT⟩
theorem LN.ne {H H' : Hp} {r : Option (List T)} {v : V} {D : Addr} {o : HO} (h : LN H H' v r) (hD : H D = some o) : v ≠ .ref D := by
  cases r with
  | none =>
    cases (show v = .non from h)
    intro e; cases e
  | some L =>
    obtain ⟨D', us, rfl, hn, _⟩ := h
    rintro e
    cases e
    rw [hD] at hn; cases hn
theorem paired_imp {α β : Type} {R R' : α → β → Prop} : ∀ {xs : List α} {ys : List β}, (∀ x y, y ∈ ys → R x y → R' x y) → Paired R xs ys → Paired R' xs ys
  | _, _, _, .nil => .nil
  | _, _, h, .cons x t => .cons (h _ _ (by simp) x) (paired_imp (fun x y hy => h x y (by simp [hy])) t)
theorem paired_snoc {α β : Type} {R : α → β → Prop} : ∀ {xs : List α} {ys : List β} {x : α} {y : β}, Paired R xs ys → R x y → Paired R (xs ++ [x]) (ys ++ [y])
  | _, _, _, _, .nil, h => .cons h .nil
  | _, _, _, _, .cons a t, h => .cons a (paired_snoc t h)
theorem paired_dp {K : PySem.W.Frag} {H : Hp} {f : T → Option (List T)} : ∀ {vs : List V} {ms : List T}, Paired (fun v m => LO H v (f m)) vs ms → DpAll K H vs (ms.map fun m => pdL (f m))
  | _, _, .nil => .nil
  | _, _, .cons a t => .cons a.dp (paired_dp t)
theorem lay_pdL : ∀ r : Option (List T), (pdL r).canLay0 = true
  | none => by simp [pdL, PyData.canLay0]
  | some L => by simp [pdL, PyData.canLay0, lay_all L fun p _ => lay_pd p]
theorem lay_pdLs : ∀ rs : List (Option (List T)), PyData.canLayAll0 (rs.map pdL) = true
  | [] => by simp [PyData.canLayAll0]
  | r :: rs => by simp [PyData.canLayAll0, lay_pdL r, lay_pdLs rs]
theorem depth_pdLs : ∀ rs : List (Option (List T)), (∀ r ∈ rs, ∀ L, r = some L → ∀ p ∈ L, PQ.wf p ∧ (PQ.lst p).length ≤ 24) → PyData.depthAll (rs.map pdL) ≤ 49
  | [], _ => by simp [PyData.depthAll]
  | r :: rs, h => by
    simp only [List.map_cons, PyData.depthAll]
    refine Nat.max_le.mpr ⟨?_, depth_pdLs rs fun r' hr => h r' (by simp [hr])⟩
    cases r with
    | none => simp [pdL, PyData.depth]
    | some L =>
      have h2 := h (some L) (by simp) L rfl
      have : PyData.depthAll (L.map pd) ≤ 48 := depth_all L fun p hp => by
        have := depth_pd p (h2 p hp).1
        have := (h2 p hp).2
        omega
      simp only [pdL, PyData.depth]; omega
theorem shaped_pdLs {rs : List (Option (List T))} (h : ∀ r ∈ rs, ∀ L, r = some L → ∀ p ∈ L, PQ.wf p ∧ (PQ.lst p).length ≤ 24) : SeqAt.shaped (.list (rs.map pdL)) = true := by
  unfold SeqAt.shaped
  rw [Bool.and_eq_true, decide_eq_true_eq]
  refine ⟨by simp [PyData.canLay0, lay_pdLs rs], ?_⟩
  have := depth_pdLs rs h
  simp only [PyData.depth]; omega
theorem any_none : ∀ rs : List (Option (List T)), ((rs.map pdL).any fun z => PyData.eqv z .none) = rs.any Option.isNone
  | [] => rfl
  | r :: rs => by
    simp only [List.map_cons, List.any_cons, any_none rs]
    cases r <;> simp [pdL, PyData.eqv]
theorem eqv_nilL (rs : List (Option (List T))) : PyData.eqv (.list (rs.map pdL)) (.list []) = rs.isEmpty := by
  cases rs <;> simp [PyData.eqv, PyData.eqvAll]
/-- the parts of a part's split are small -/
theorem split_small {S : List Int} {m : T} {L : List T} (hw : PQ.wf m) (hl : (PQ.lst m).length ≤ 24) (hs : PQ.share S m = .some) (e : PQ.split S m = some L) : ∀ p ∈ L, PQ.wf p ∧ (PQ.lst p).length ≤ 24 := fun p hp => by
  refine ⟨PQ.split_wf S m hw L e p hp, ?_⟩
  have h := (PQ.split_perm hw hs e).length_eq
  obtain ⟨x, y, rfl⟩ := List.append_of_mem hp
  rw [PQ.lstL_append, PQ.lstL_cons, List.length_append, List.length_append] at h
  omega
section
variable {P : Program} {w : World} {K : PySem.W.Frag} {mg : Str → Option Value} {base : Heap}
/-! ### joined_any -/
abbrev s_joined_any : Stmt := topS 35
abbrev n_joined_any : List Str := ["parts", "chosen", "empty", "full", "mixed", "lists", "middle", "part"]
abbrev p_joined_any : List Str := ["parts", "chosen"]
theorem sc_joined_any : FnScope n_joined_any p_joined_any (defScope s_joined_any) := ⟨rfl, rfl, rfl, by decide +kernel, rfl, by decide +kernel, by decide +kernel⟩
def spJoinKids (K : PySem.W.Frag) (g : List Int → List T → Option T) : Sp := fun vs H Q _ => ∃ c a S us ps, vs = [.ref c, .ref a] ∧ SqT K H c us ∧ TAs H us ps ∧ SqT K H a (iL S) ∧ PQ.WfL ps ∧ (PQ.lstL ps).length ≤ 24 ∧ ∀ v' H', Same H H' → TO H' v' (g S ps) → Q v' H'
theorem c_joined_any (T : Txt K mg) (t : Tx K mg "joined_any" s_joined_any p_joined_any) (c_with_share : Cb P w K mg base 27 "with_share" p_with_share (spWith K)) (c_make_any : Cb P w K mg base 1 "make_any" p_make_any (spMake (K := K) PQ.mkAny)) (c_make_row : Cb P w K mg base 2 "make_row" p_make_row (spMake (K := K) PQ.mkRow))
    (c_split : Cb P w K mg base 75 "split" p_split (spSplit K 24)) : Cb P w K mg base 76 "joined_any" p_joined_any (spJoinKids K fun S ps => PQ.joinedAny S (PQ.split S) ps) := by
  refine t.cb sc_joined_any (fun vs H Q E h => ?_) (fun f cdv A outer s H vs Q E hr h => ?_)
  · obtain ⟨c, a, S, us, ps, rfl, _⟩ := h; rfl
  obtain ⟨c, a, S, us, ps, rfl, hc, hU, hS, hw, hl, q⟩ := h
  have nd := sc_joined_any.nd
  refine ⟨_, (pss_cons (ps_set (i := 2) nd rfl (Or.inl rfl) (pe_user c_with_share hr (by omega) (pa_cons (pv 0) (pa_cons (pv 1) (pa_cons pe_str pa_nil)))))
    (pss_cons (ps_set (i := 3) nd rfl (Or.inl rfl) (pe_user c_with_share hr (by omega) (pa_cons (pv 0) (pa_cons (pv 1) (pa_cons pe_str pa_nil)))))
    (pss_cons (ps_set (i := 4) nd rfl (Or.inl rfl) (pe_user c_with_share hr (by omega) (pa_cons (pv 0) (pa_cons (pv 1) (pa_cons pe_str pa_nil)))))
    (pss_cons (ps_if (pt_cmpR op_gt (pe_callB call_len_seq (by rfl) T.n_len PySem.boot_len (pa_cons (pv 4) pa_nil)) pe_int (nomark _))
      (pss_one (ps_ret pe_non))
      pss_nil)
    (pss_cons (ps_setLc (i := 5) (own := [("part", 7)]) (g := gName 7) (by rfl) nd rfl rfl (sw_true rfl rfl rfl (by decide +kernel)) (pi_list (pv 4)) (blkOk_by (own := [("part", 7)]) (N := n_joined_any) (sc := defScope s_joined_any) (by decide +kernel)) (fun _ _ _ _ _ => (pg_name (i := 7) nd rfl (Or.inl rfl))) (fun _ _ _ _ _ => pts_nil) (fun _ _ _ _ _ => (pe_user c_split hr (by omega) (pa_cons (pv 7) (pa_cons (pv 1) pa_nil)))))
    (pss_cons (ps_if (pt_cmpR (op_inD (hu65 hr)) pe_non (pv 5) rfl)
      (pss_one (ps_ret pe_non))
      pss_nil)
    (pss_cons (ps_if (pt_cmpR (op_eqD hr.units) (pv 5) (pe_lst pa_nil) (nomark _))
      (pss_one (ps_ret (pe_user c_make_any hr (by omega) (pa_cons (pe_op op_cat (pv 2) (pe_lst (pa_cons (pe_user c_make_any hr (by omega) (pa_cons (pv 3) pa_nil)) pa_nil))) pa_nil))))
      pss_nil)
    (pss_cons (ps_set (i := 6) nd rfl (Or.inl rfl) (pe_callTy call_list_of (by rfl) T.n_list (by decide +kernel) (pa_cons (pe_ix ix_list (pv 5) pe_int (fun _ _ => rfl)) pa_nil)))
    (pss_cons (ps_if (pt_cmpR (op_neD hr.units) (pv 3) (pe_lst pa_nil) (nomark _))
      (pss_one (ps_expr (pe_bm PySem.F.plainAttrs_list PySem.F.slot_list_append PySem.F.type_list_append mt_append (pv 6) (pa_cons (pe_user c_make_any hr (by omega) (pa_cons (pv 3) pa_nil)) pa_nil))))
      pss_nil)
    (pss_cons (ps_if (pt_cmpR op_eq (pe_callB call_len_seq (by rfl) T.n_len PySem.boot_len (pa_cons (pv 5) pa_nil)) pe_int (nomark _))
      (pss_one (ps_expr (pe_bm PySem.F.plainAttrs_list PySem.F.slot_list_extend PySem.F.type_list_extend mt_extend (pv 6) (pa_cons (pe_revL (pe_ix ix_list (pv 5) pe_int (fun _ _ => rfl))) pa_nil))))
      pss_nil)
    (pss_one (ps_ret (pe_user c_make_any hr (by omega) (pa_cons (pe_op op_cat (pv 2) (pe_lst (pa_cons (pe_user c_make_row hr (by omega) (pa_cons (pv 6) pa_nil)) pa_nil))) pa_nil)))))))))))))), ?_⟩
  have hkl := PQ.kids_len hw
  have hsm : ∀ p ∈ ps, Sm p := fun p hp => ⟨hw p hp, by
    obtain ⟨x, y, rfl⟩ := List.append_of_mem hp
    rw [PQ.lstL_append, PQ.lstL_cons, List.length_append, List.length_append] at hl
    omega⟩
  have hwl : ∀ sh, (PQ.withSh S sh ps).length ≤ ps.length := fun sh => List.length_filter_le _ _
  have hws : ∀ sh, ∀ p ∈ PQ.withSh S sh ps, PQ.wf p ∧ (PQ.lst p).length ≤ 24 := fun sh p hp => hsm p (PQ.mem_withSh.mp hp).1
  refine ⟨.ref c, rfl, .ref a, rfl, c, us, ps, a, S, _, .none, rfl, hc, hU, hsm, by omega, hS, rfl, fun De ue H1 s1 hDe hE => ?_⟩
  refine ⟨.ref c, rfl, .ref a, rfl, c, us, ps, a, S, _, .all, rfl, s1.seqT hc, hU.to s1, hsm, by omega, s1.seqT hS, rfl, fun Df uf H2 s2 hDf hF => ?_⟩
  have s12 := s1.trans s2
  refine ⟨.ref c, rfl, .ref a, rfl, c, us, ps, a, S, _, .some, rfl, s12.seqT hc, hU.to s12, hsm, by omega, s12.seqT hS, rfl, fun Dm um H3 s3 hDm hM => ?_⟩
  have s23 := s2.trans s3
  have s13 := s12.trans s3
  have hDe3 := s23 _ _ hDe
  have hDf3 := s3 _ _ hDf
  have hE3 := hE.to s23
  have hF3 := hF.to s3
  have hwE := hwl .none
  have hwF := hwl .all
  have gE := hws .none
  have gF := hws .all
  have gM := hws .some
  have hlm := hM.len
  have hsp : PQ.joinedAny S (PQ.split S) ps = (match PQ.withSh S .some ps with
      | [] => some (PQ.mkAny (PQ.withSh S .none ps ++ [PQ.mkAny (PQ.withSh S .all ps)]))
      | [m] => (PQ.split S m).map fun l => PQ.mkAny (PQ.withSh S .none ps ++ [PQ.mkRow (l ++ PQ.opt (PQ.withSh S .all ps))])
      | [m, m'] => (PQ.cat (PQ.split S m) (PQ.cat (some (PQ.opt (PQ.withSh S .all ps))) ((PQ.split S m').map List.reverse))).map fun l => PQ.mkAny (PQ.withSh S .none ps ++ [PQ.mkRow l])
      | _ => none) := by unfold PQ.joinedAny; rfl
  have hMs : ∀ m ∈ PQ.withSh S .some ps, m ∈ ps ∧ PQ.share S m = .some := fun m hm => PQ.mem_withSh.mp hm
  have q : ∀ v' H', Same H H' → TO H' v' (PQ.joinedAny S (PQ.split S) ps) → Q v' H' := q
  generalize hg : PQ.joinedAny S (PQ.split S) ps = G0 at *
  generalize PQ.withSh S .none ps = E0 at *
  generalize PQ.withSh S .all ps = F0 at *
  generalize PQ.withSh S .some ps = M0 at *
  refine ⟨.ref Dm, rfl, Dm, um, rfl, .inl (.of hDm), _, _, rfl, rfl, _, rfl, ite2 (fun d => ?_) (fun d => ?_)⟩
  · have d' : (2 : Int) < (um.length : Int) := of_decide_eq_true d
    refine q .non H3 s13 ?_
    have e : G0 = none := by
      rw [hsp]
      rcases M0 with _ | ⟨m, _ | ⟨m', _ | ⟨m'', r⟩⟩⟩
      · have : um.length = 0 := hlm; omega
      · have : um.length = 1 := hlm; omega
      · have : um.length = 2 := hlm; omega
      · rfl
    show TO H3 .non G0
    rw [e]; rfl
  have d' : ¬ (2 : Int) < (um.length : Int) := fun e => d (decide_eq_true e)
  -- lists
  refine ⟨.ref Dm, rfl, Dm, rfl, ⟨um, .of hDm⟩, fun Dl hDl => ?_⟩
  refine lc_list (xs := um) (fun i H' => Same H3 H' ∧ ∃ ys, H' Dl = some (.lst ys) ∧ ys.length = i ∧ Paired (fun v m => LO H' v (PQ.split S m) ∧ v ≠ .ref Dl) ys (M0.take i)) ⟨same_new hDl, [], upd_same, rfl, .nil⟩ (fun i H' _ hP => .of (hP.1 _ _ hDm)) (fun i x H' hx hP => ?_) (fun H4 hP => ?_)
  · obtain ⟨sm, ys, hL, hyl, hY⟩ := hP
    obtain ⟨m, hm, hTm⟩ := hM.getV hx
    obtain ⟨hmp, hms⟩ := hMs m (List.mem_of_getElem? hm)
    have hi := (List.getElem?_eq_some_iff.mp hx).1
    refine ⟨rfl, yesT ⟨x, rfl, .ref a, rfl, x, a, S, m, rfl, hTm.to sm, (s13.trans sm).seqT hS, (hsm m hmp).1, (hsm m hmp).2, Nat.le_refl _, hms, fun v' H5 s5 hLN => ⟨ys, s5 _ _ hL, small24' (by omega), same_mut (sm.trans s5) hDl, ys ++ [v'], upd_same, by rw [List.length_append, hyl]; rfl, ?_⟩⟩⟩
    rw [List.take_add_one, hm]
    refine paired_snoc (paired_imp (fun v m' _ h => ⟨(h.1.to s5).mut (s5 _ _ hL) h.2, h.2⟩) hY) ⟨hLN.lo.mut (s5 _ _ hL) (hLN.ne hL), hLN.ne hL⟩
  obtain ⟨s4, yl, hDl4, hyl, hY⟩ := hP
  rw [List.take_of_length_le (by omega)] at hY
  have hY := paired_imp (R' := fun v m => LO H4 v (PQ.split S m)) (fun v m _ h => h.1) hY
  have hdp := paired_dp (K := K) hY
  have hmap : (M0.map fun m => pdL (PQ.split S m)) = (M0.map (PQ.split S)).map pdL := by rw [List.map_map]; rfl
  rw [hmap] at hdp
  have hshp : SeqAt.shaped (.list ((M0.map (PQ.split S)).map pdL)) = true := shaped_pdLs fun r hr L e => by
    obtain ⟨m, hm, rfl⟩ := List.mem_map.mp hr
    obtain ⟨hmp, hms⟩ := hMs m hm
    exact split_small (hsm m hmp).1 (hsm m hmp).2 hms e
  have s14 := s13.trans s4
  -- None in lists
  refine ⟨.ref Dl, rfl, .none, _, .non, .lst (.of hDl4) hdp, by decide +kernel, hshp, _, rfl, ?_⟩
  rw [any_none]
  refine ite2 (fun cN => ?_) (fun cN => ?_)
  · refine q .non H4 s14 ?_
    have e : G0 = none := by
      rw [hsp]
      rcases M0 with _ | ⟨m, _ | ⟨m', _ | ⟨m'', r⟩⟩⟩
      · simp at cN
      · simp at cN
        show Option.map _ (PQ.split S m) = none
        rw [cN]; rfl
      · simp at cN
        show Option.map _ (PQ.cat (PQ.split S m) (PQ.cat _ (Option.map _ (PQ.split S m')))) = none
        rcases cN with e | e
        · rw [e]; rfl
        · rw [e]
          show Option.map _ (PQ.cat _ none) = none
          rw [PQ.cat_none]; rfl
      · rfl
    show TO H4 .non G0
    rw [e]; rfl
  -- lists == []
  refine ⟨.ref Dl, rfl, Nat.zero_le _, fun z hz => ⟨_, _, .lst (.of (same_new hz _ _ hDl4)) ?_, .lst (.of upd_same) .nil, hshp, shaped_nil, _, rfl, ?_⟩⟩
  · have hY2 := paired_imp (R' := fun v m => LO (upd H4 z (.lst [])) v (PQ.split S m)) (fun v m _ h => h.to (same_new hz)) hY
    have := paired_dp (K := K) hY2
    rwa [hmap] at this
  rw [eqv_nilL]
  have k4 : Same H3 (upd H4 z (.lst [])) := s4.trans (same_new hz)
  have hY4 := paired_imp (R' := fun v m => LO (upd H4 z (.lst [])) v (PQ.split S m)) (fun v m _ h => h.to (same_new hz)) hY
  have hDl5 : (upd H4 z (.lst [])) Dl = some (.lst yl) := same_new hz _ _ hDl4
  generalize upd H4 z (.lst []) = H5 at *
  have hDe5 := k4 _ _ hDe3
  have hDf5 := k4 _ _ hDf3
  have hE5 := hE3.to k4
  have hF5 := hF3.to k4
  have hle := hE.len
  have hlf := hF.len
  refine ite2 (fun cE => ?_) (fun cE => ?_)
  · rcases M0 with _ | ⟨m, r⟩
    · refine ⟨.ref De, rfl, .ref Df, rfl, Df, uf, F0, rfl, .of hDf5, hF5, by omega, fun v H6 s6 tv => ⟨(by show 1 ≤ sizeLine; decide), fun z1 hz1 => ⟨De, z1, ue, [v], rfl, rfl, same_new hz1 _ _ (s6 _ _ hDe5), upd_same, by rw [hle]; exact small24 (by rw [List.length_singleton]; omega), fun pc hpc => ⟨pc, _, E0 ++ [PQ.mkAny F0], rfl, .of upd_same, ?_, by rw [List.length_append, List.length_singleton]; omega, fun v2 H7 s7 tv2 => q v2 H7 ?_ ?_⟩⟩⟩⟩
      · exact ((hE5.to s6).app (.one tv)).to ((same_new hz1).trans (same_new hpc))
      · exact ((((s13.trans k4).trans s6).trans (same_new hz1)).trans (same_new hpc)).trans s7
      · show TO H7 v2 G0
        rw [hsp]; exact tv2
    · simp at cE
  obtain ⟨v1, vr, L1, L2r, rfl, hv1, hvr, hl1, hl2, hG⟩ : ∃ v1 vr L1 L2r, yl = v1 :: vr ∧ LO H5 v1 (some L1) ∧ ((vr = [] ∧ L2r = []) ∨ ∃ v2 L2, vr = [v2] ∧ LO H5 v2 (some L2) ∧ L2r = L2.reverse) ∧ L1.length ≤ 24 ∧ L2r.length ≤ 24 ∧ G0 = some (PQ.mkAny (E0 ++ [PQ.mkRow (L1 ++ PQ.opt F0 ++ L2r)])) := by
    rcases M0 with _ | ⟨m, _ | ⟨m', _ | ⟨m'', r⟩⟩⟩
    · simp at cE
    · cases hY4 with
      | cons h1 ht =>
        cases ht
        simp at cN
        obtain ⟨hmp, hms⟩ := hMs m (by simp)
        obtain ⟨L1, e1⟩ := Option.ne_none_iff_exists'.mp cN
        rw [e1] at h1
        have := PQ.split_len (hsm m hmp).1 hms e1
        have := (hsm m hmp).2
        refine ⟨_, [], L1, [], rfl, h1, .inl ⟨rfl, rfl⟩, by omega, by simp, ?_⟩
        rw [hsp]
        show Option.map _ (PQ.split S m) = _
        rw [e1, List.append_nil]; rfl
    · cases hY4 with
      | cons h1 ht =>
        cases ht with
        | cons h2 ht2 =>
          cases ht2
          simp at cN
          obtain ⟨hmp, hms⟩ := hMs m (by simp)
          obtain ⟨hmp', hms'⟩ := hMs m' (by simp)
          obtain ⟨L1, e1⟩ := Option.ne_none_iff_exists'.mp cN.1
          obtain ⟨L2, e2⟩ := Option.ne_none_iff_exists'.mp cN.2
          rw [e1] at h1
          rw [e2] at h2
          have := PQ.split_len (hsm m hmp).1 hms e1
          have := (hsm m hmp).2
          have := PQ.split_len (hsm m' hmp').1 hms' e2
          have := (hsm m' hmp').2
          refine ⟨_, _, L1, L2.reverse, rfl, h1, .inr ⟨_, L2, rfl, h2, rfl⟩, by omega, by rw [List.length_reverse]; omega, ?_⟩
          rw [hsp]
          show Option.map _ (PQ.cat (PQ.split S m) (PQ.cat _ (Option.map _ (PQ.split S m')))) = _
          rw [e1, e2, List.append_assoc]; rfl
    · have : um.length = r.length + 1 + 1 + 1 := hlm
      omega
  clear hY4 hY hdp hshp
  -- middle = list(lists[0])
  obtain ⟨D1, u1, rfl, hD1, hT1⟩ := hv1
  refine ⟨.ref Dl, rfl, Dl, _, 0, .ref D1, rfl, rfl, .of hDl5, atI_nat (j := 0) rfl, D1, u1, rfl, .inl (.of hD1), fun md hmd => ?_⟩
  have n5 : Same H5 (upd H5 md (.lst u1)) := same_new hmd
  -- if full != []
  refine ⟨.ref Df, rfl, Nat.zero_le _, fun z3 hz3 => ⟨_, _, .lst (.of ((n5.trans (same_new hz3)) _ _ hDf5)) (hF5.to (n5.trans (same_new hz3))).dp, .lst (.of upd_same) .nil, shaped_list gF, shaped_nil, _, rfl, ?_⟩⟩
  rw [eqv_nil]
  have n6 : Same H5 (upd (upd H5 md (.lst u1)) z3 (.lst [])) := n5.trans (same_new hz3)
  have hm6 : (upd (upd H5 md (.lst u1)) z3 (.lst [])) md = some (.lst u1) := same_new hz3 _ _ upd_same
  have t6 := hT1.to n6
  have hu1 := hT1.len
  have hoF := PQ.opt_len F0
  refine if_join (fun σ' H' => σ' = [some (.ref c), some (.ref a), some (.ref De), some (.ref Df), some (.ref Dm), some (.ref Dl), some (.ref md), none] ∧ Same H5 H' ∧ ∃ u, H' md = some (.lst u) ∧ TAs H' u (L1 ++ PQ.opt F0)) (fun hb back => ?_) (fun hb => ?_) (fun σ' H' hI => ?_)
  · refine ⟨.ref md, rfl, .inl ⟨rfl, _, .of hm6⟩, .ref Df, rfl, Df, uf, F0, rfl, .of (n6 _ _ hDf5), hF5.to n6, by omega, fun v H' sm tv => ⟨md, _, v, rfl, rfl, sm _ _ hm6, small24' (by omega), back _ _ ⟨rfl, same_mut (n6.trans sm) hmd, _, upd_same, ?_⟩⟩⟩
    match F0, hb with
    | p :: r, _ => exact ((t6.to sm).app (TAs.one tv)).et (et_lst (sm _ _ hm6))
  · match F0, hb with
    | [], _ => exact ⟨rfl, n6, u1, hm6, by show TAs _ u1 (_ ++ []); rw [List.append_nil]; exact t6⟩
  obtain ⟨rfl, n7, u7, hm7, t7⟩ := hI
  have hu7 := t7.len
  rw [List.length_append] at hu7
  -- if len(lists) == 2
  refine ⟨.ref Dl, rfl, Dl, _, rfl, .inl (.of (n7 _ _ hDl5)), rfl, _, rfl, ?_⟩
  refine if_join (fun σ' H' => σ' = [some (.ref c), some (.ref a), some (.ref De), some (.ref Df), some (.ref Dm), some (.ref Dl), some (.ref md), none] ∧ Same H5 H' ∧ ∃ u, H' md = some (.lst u) ∧ TAs H' u (L1 ++ PQ.opt F0 ++ L2r)) (fun hb back => ?_) (fun hb => ?_) (fun σ' H' hI => ?_)
  · rcases hvr with ⟨rfl, rfl⟩ | ⟨v2, L2, rfl, hv2, rfl⟩
    · have h0 := V.int.inj (of_decide_eq_true hb); simp at h0
    · obtain ⟨D2, u2, rfl, hD2, hT2⟩ := hv2
      rw [List.length_reverse] at hl2
      have hu2 := hT2.len
      refine ⟨.ref md, rfl, .inl ⟨rfl, _, .of hm7⟩, .ref Dl, rfl, Dl, _, 1, .ref D2, rfl, rfl, .of (n7 _ _ hDl5), atI_nat (j := 1) rfl, D2, u2, rfl, .of (n7 _ _ hD2), fun z4 hz4 => ?_⟩
      have m8 : Same _ (upd H' z4 (.lst u2.reverse)) := same_new (H := H') hz4
      refine ⟨md, z4, u7, u2.reverse, rfl, rfl, m8 _ _ hm7, upd_same, small24 (by rw [List.length_reverse]; omega), back _ _ ⟨rfl, same_mut (n7.trans m8) hmd, _, upd_same, ?_⟩⟩
      exact ((t7.to m8).app ((hT2.to (n7.trans m8)).rev)).et (et_lst (m8 _ _ hm7))
  · rcases hvr with ⟨rfl, rfl⟩ | ⟨v2, L2, rfl, hv2, rfl⟩
    · exact ⟨rfl, n7, u7, hm7, by rw [List.append_nil]; exact t7⟩
    · exact absurd rfl (of_decide_eq_false hb)
  obtain ⟨rfl, n8, u8, hm8, t8⟩ := hI
  refine ⟨.ref De, rfl, .ref md, rfl, md, u8, _, rfl, .of hm8, t8, by rw [List.length_append, List.length_append]; omega, fun v H6 s6 tv => ⟨(by show 1 ≤ sizeLine; decide), fun z1 hz1 => ⟨De, z1, ue, [v], rfl, rfl, same_new hz1 _ _ (s6 _ _ (n8 _ _ hDe5)), upd_same, by rw [hle]; exact small24 (by rw [List.length_singleton]; omega), fun pc hpc => ⟨pc, _, E0 ++ [PQ.mkRow (L1 ++ PQ.opt F0 ++ L2r)], rfl, .of upd_same, ?_, by rw [List.length_append, List.length_singleton]; omega, fun v2 H7 s7 tv2 => q v2 H7 ?_ ?_⟩⟩⟩⟩
  · exact ((hE5.to (n8.trans s6)).app (.one tv)).to ((same_new hz1).trans (same_new hpc))
  · exact (((((s13.trans k4).trans n8).trans s6).trans (same_new hz1)).trans (same_new hpc)).trans s7
  · show TO H7 v2 G0
    rw [hG]; exact tv2
end
end Wk
namespace PQ
theorem rowSeg_snoc {S : List Int} {f : T → Option (List T)} {l : T} : ∀ xs : List T, rowSeg S f (xs ++ [l]) = cat (expand S f xs) ((exp1 S f l).map List.reverse)
  | [] => by
    show (exp1 S f l).map List.reverse = cat (some []) _
    cases exp1 S f l <;> rfl
  | p :: r => by
    have ih := rowSeg_snoc (S := S) (f := f) (l := l) r
    have e : rowSeg S f (p :: (r ++ [l])) = cat (exp1 S f p) (rowSeg S f (r ++ [l])) := by
      cases r <;> rfl
    rw [List.cons_append, e, ih, ← cat_assoc]
    rfl
theorem rowSeg_no {S : List Int} {f : T → Option (List T)} {xs : List T} {l p : T} (h : p ∈ xs ++ [l]) (e : exp1 S f p = none) : rowSeg S f (xs ++ [l]) = none := by
  rw [rowSeg_snoc]
  rcases List.mem_append.mp h with h | h
  · rw [expand_no h e]; rfl
  · rw [List.mem_singleton] at h
    subst h
    rw [e]
    show cat _ none = none
    rw [cat_none]
/-- the indices that a filter keeps -/
theorem filter_ends {P : Nat → Bool} {n a b : Nat} (ha : P a = true) (hb : P b = true) (hab : a < b) (hbn : b < n) (h1 : ∀ j, j < a → P j = false) (h2 : ∀ j, b < j → j < n → P j = false) : ∃ m, (List.range n).filter P = a :: (m ++ [b]) := by
  have e : List.range n = List.range' 0 a ++ (a :: (List.range' (a + 1) (b - a - 1) ++ (b :: List.range' (b + 1) (n - b - 1)))) := by
    have e1 : List.range' (b) (n - b) = b :: List.range' (b + 1) (n - b - 1) := by
      obtain ⟨k, hk⟩ : ∃ k, n - b = k + 1 := ⟨n - b - 1, by omega⟩
      rw [hk, List.range'_succ]; rfl
    have e2 : List.range' a (n - a) = a :: List.range' (a + 1) (n - a - 1) := by
      obtain ⟨k, hk⟩ : ∃ k, n - a = k + 1 := ⟨n - a - 1, by omega⟩
      rw [hk, List.range'_succ]; rfl
    have e3 : List.range' (a + 1) (n - a - 1) = List.range' (a + 1) (b - a - 1) ++ List.range' b (n - b) := by
      have := List.range'_append (s := a + 1) (m := b - a - 1) (n := n - b) (step := 1)
      rw [show a + 1 + 1 * (b - a - 1) = b by omega, show b - a - 1 + (n - b) = n - a - 1 by omega] at this
      exact this.symm
    have e4 : List.range' 0 n = List.range' 0 a ++ List.range' a (n - a) := by
      have := List.range'_append (s := 0) (m := a) (n := n - a) (step := 1)
      rw [show 0 + 1 * a = a by omega, show a + (n - a) = n by omega] at this
      exact this.symm
    rw [List.range_eq_range', e4, e2, e3, e1]
  have z1 : (List.range' 0 a).filter P = [] := by
    rw [List.filter_eq_nil_iff]
    intro j hj
    rw [h1 j (by have := List.mem_range'_1.mp hj; omega)]
    simp
  have z2 : (List.range' (b + 1) (n - b - 1)).filter P = [] := by
    rw [List.filter_eq_nil_iff]
    intro j hj
    have := List.mem_range'_1.mp hj
    rw [h2 j (by omega) (by omega)]
    simp
  refine ⟨(List.range' (a + 1) (b - a - 1)).filter P, ?_⟩
  rw [e, List.filter_append, z1, List.filter_cons_of_pos ha, List.filter_append, List.filter_cons_of_pos hb, z2]
  rfl
theorem filter_one {P : Nat → Bool} {n a : Nat} (ha : P a = true) (hn : a < n) (h1 : ∀ j, j < n → j ≠ a → P j = false) : (List.range n).filter P = [a] := by
  have e : List.range n = List.range' 0 a ++ (a :: List.range' (a + 1) (n - a - 1)) := by
    have e2 : List.range' a (n - a) = a :: List.range' (a + 1) (n - a - 1) := by
      obtain ⟨k, hk⟩ : ∃ k, n - a = k + 1 := ⟨n - a - 1, by omega⟩
      rw [hk, List.range'_succ]; rfl
    have e4 : List.range' 0 n = List.range' 0 a ++ List.range' a (n - a) := by
      have := List.range'_append (s := 0) (m := a) (n := n - a) (step := 1)
      rw [show 0 + 1 * a = a by omega, show a + (n - a) = n by omega] at this
      exact this.symm
    rw [List.range_eq_range', e4, e2]
  have z1 : (List.range' 0 a).filter P = [] := by
    rw [List.filter_eq_nil_iff]
    intro j hj
    have := List.mem_range'_1.mp hj
    rw [h1 j (by omega) (by omega)]
    simp
  have z2 : (List.range' (a + 1) (n - a - 1)).filter P = [] := by
    rw [List.filter_eq_nil_iff]
    intro j hj
    have := List.mem_range'_1.mp hj
    rw [h1 j (by omega) (by omega)]
    simp
  rw [e, List.filter_append, z1, List.filter_cons_of_pos ha, z2]
  rfl
end PQ
namespace Wk
open PySem PySem.Spec PyProof.Rows L2
open PQ (T)
/-! ### slices and sums of tuples -/
theorem cut_take {xs : List V} {k : Nat} (h : k ≤ xs.length) : cutV xs none (some (k : Int)) = xs.take k := by
  unfold cutV
  rw [HT.sIx_none, HT.sIx_nat, List.drop_zero, Nat.sub_zero, Nat.min_eq_left h]
theorem cut_drop {xs : List V} {k : Nat} (h : k ≤ xs.length) : cutV xs (some (k : Int)) none = xs.drop k := by
  unfold cutV
  rw [HT.sIx_none, HT.sIx_nat, Nat.min_eq_left h]
  exact List.take_of_length_le (by rw [List.length_drop]; exact Nat.le_refl _)
theorem sla_of {K : PySem.W.Frag} {H : Hp} {a : Addr} {xs ys : List V} {lo hi : Option Int} {Q : VK} (hx : SqT K H a xs) (hy : cutV xs lo hi = ys) (q : ∀ p H', Same H H' → SqT K H' p ys → Q (.ref p) H') : rSlA K (.ref a) lo hi H Q := by
  subst hy
  refine ⟨a, xs, rfl, hx, fun hw => q a H (Same.refl H) ?_, fun _ p hp => q p _ (same_new hp) (.of upd_same)⟩
  have e : cutV xs lo hi = xs := by
    unfold cutV
    rw [hw.1, hw.2, List.drop_zero, Nat.sub_zero, List.take_length]
  rw [e]; exact hx
theorem cata_of {K : PySem.W.Frag} {H : Hp} {a b : Addr} {xs ys : List V} {Q : VK} (ha : SqT K H a xs) (hb : SqT K H b ys) (hz : xs.length + ys.length ≤ sizeLine) (q : ∀ p H', Same H H' → SqT K H' p (xs ++ ys) → Q (.ref p) H') : rCatA K (.ref a) (.ref b) H Q := by
  refine ⟨a, b, xs, ys, rfl, rfl, ha, hb, hz, fun e => q b H (Same.refl H) ?_, fun _ e => q a H (Same.refl H) ?_, fun _ _ p hp => q p _ (same_new hp) (.of upd_same)⟩
  · subst e; exact hb
  · subst e; rw [List.append_nil]; exact ha
/-- the indices of touched parts -/
def tch (S : List Int) (ps : List T) (j : Nat) : Bool := decide (PQ.share S (ps.getD j (.th 0)) ≠ .none)
def tchs (S : List Int) (ps : List T) (i : Nat) : List V := iL (((List.range i).filter (tch S ps)).map fun j : Nat => (j : Int))
theorem tchs_zero (S : List Int) (ps : List T) : tchs S ps 0 = [] := rfl
theorem tchs_len (S : List Int) (ps : List T) (i : Nat) : (tchs S ps i).length ≤ i := by
  unfold tchs iL
  rw [List.length_map, List.length_map]
  have := List.length_filter_le (tch S ps) (List.range i)
  rwa [List.length_range] at this
theorem tchs_yes {S : List Int} {ps : List T} {i : Nat} {p : T} (hp : ps[i]? = some p) (h : PQ.share S p ≠ .none) : tchs S ps (i + 1) = tchs S ps i ++ [.int (i : Nat)] := by
  unfold tchs iL
  have e : tch S ps i = true := by
    unfold tch
    rw [List.getD_eq_getElem?_getD, hp]
    exact decide_eq_true h
  rw [List.range_succ, List.filter_append, List.filter_cons_of_pos e, List.map_append, List.map_append]; rfl
theorem tchs_no {S : List Int} {ps : List T} {i : Nat} {p : T} (hp : ps[i]? = some p) (h : ¬ PQ.share S p ≠ .none) : tchs S ps (i + 1) = tchs S ps i := by
  unfold tchs
  have e : ¬ tch S ps i = true := by
    unfold tch
    rw [List.getD_eq_getElem?_getD, hp]
    simpa using h
  rw [List.range_succ, List.filter_append, List.filter_cons_of_neg e]; simp
theorem get_mid {α : Type} {X C Y : List α} {j : Nat} (h : j < C.length) : (X ++ (C ++ Y))[X.length + j]? = C[j]? := by
  rw [List.getElem?_append_right (by omega), show X.length + j - X.length = j by omega, List.getElem?_append_left h]
theorem tch_lead {S : List Int} {X C Y : List T} (hX : ∀ p ∈ X, PQ.share S p = .none) {j : Nat} (h : j < X.length) : tch S (X ++ (C ++ Y)) j = false := by
  unfold tch
  rw [List.getD_eq_getElem?_getD, List.getElem?_append_left h, List.getElem?_eq_getElem h]
  have := hX _ (List.getElem_mem h)
  simpa using this
theorem tch_trail {S : List Int} {X C Y : List T} (hY : ∀ p ∈ Y, PQ.share S p = .none) {j : Nat} (h : X.length + C.length ≤ j) (h2 : j < (X ++ (C ++ Y)).length) : tch S (X ++ (C ++ Y)) j = false := by
  unfold tch
  rw [List.length_append, List.length_append] at h2
  have e : (X ++ (C ++ Y))[j]? = Y[j - X.length - C.length]? := by
    rw [List.getElem?_append_right (by omega), List.getElem?_append_right (by omega)]
  rw [List.getD_eq_getElem?_getD, e, List.getElem?_eq_getElem (by omega)]
  have := hY _ (List.getElem_mem (l := Y) (n := j - X.length - C.length) (by omega))
  simpa using this
theorem tch_mid {S : List Int} {X C Y : List T} {j : Nat} {p : T} (hp : C[j]? = some p) (h : PQ.share S p ≠ .none) : tch S (X ++ (C ++ Y)) (X.length + j) = true := by
  unfold tch
  rw [List.getD_eq_getElem?_getD, get_mid (List.getElem?_eq_some_iff.mp hp).1, hp]
  exact decide_eq_true h
theorem tchs_two {S : List Int} {X Y mid : List T} {f l : T} (hX : ∀ p ∈ X, PQ.share S p = .none) (hY : ∀ p ∈ Y, PQ.share S p = .none) (hf : PQ.share S f ≠ .none) (hl : PQ.share S l ≠ .none) :
    ∃ m, tchs S (X ++ ((f :: (mid ++ [l])) ++ Y)) (X ++ ((f :: (mid ++ [l])) ++ Y)).length = .int (X.length : Nat) :: (m ++ [.int ((X.length + mid.length + 1 : Nat) : Int)]) := by
  have hC : (f :: (mid ++ [l])).length = mid.length + 2 := by simp
  obtain ⟨m, e⟩ := PQ.filter_ends (P := tch S (X ++ ((f :: (mid ++ [l])) ++ Y))) (n := (X ++ ((f :: (mid ++ [l])) ++ Y)).length) (a := X.length) (b := X.length + mid.length + 1)
    (tch_mid (j := 0) (p := f) rfl hf) (tch_mid (X := X) (C := f :: (mid ++ [l])) (Y := Y) (j := mid.length + 1) (p := l) (by simp) hl) (by omega) (by rw [List.length_append, List.length_append, hC]; omega)
    (fun j hj => tch_lead hX hj) (fun j hj hn => tch_trail hY (by rw [hC]; omega) hn)
  refine ⟨iL (m.map fun j : Nat => (j : Int)), ?_⟩
  unfold tchs
  rw [e]
  unfold iL
  simp
theorem tchs_one {S : List Int} {X Y : List T} {f : T} (hX : ∀ p ∈ X, PQ.share S p = .none) (hY : ∀ p ∈ Y, PQ.share S p = .none) (hf : PQ.share S f ≠ .none) :
    tchs S (X ++ ([f] ++ Y)) (X ++ ([f] ++ Y)).length = [.int (X.length : Nat)] := by
  have e := PQ.filter_one (P := tch S (X ++ ([f] ++ Y))) (n := (X ++ ([f] ++ Y)).length) (a := X.length)
    (tch_mid (j := 0) (p := f) rfl hf) (by rw [List.length_append, List.length_append, List.length_singleton]; omega)
    (fun j hj hn => by
      rcases Nat.lt_or_ge j X.length with h | h
      · exact tch_lead hX h
      · exact tch_trail hY (by rw [List.length_singleton]; omega) hj)
  unfold tchs
  rw [e]
  rfl
end Wk
namespace Wk
open PySem PySem.Spec PyProof.Rows L2
open PQ (T)
section
variable {P : Program} {w : World} {K : PySem.W.Frag} {mg : Str → Option Value} {base : Heap}
/-! ### joined_row -/
abbrev s_joined_row : Stmt := topS 36
abbrev n_joined_row : List Str := ["parts", "chosen", "shares", "touched", "first", "last", "found", "index", "inner", "part"]
abbrev p_joined_row : List Str := ["parts", "chosen"]
theorem sc_joined_row : FnScope n_joined_row p_joined_row (defScope s_joined_row) := ⟨rfl, rfl, rfl, by decide +kernel, rfl, by decide +kernel, by decide +kernel⟩
def spJoinRow (K : PySem.W.Frag) : Sp := fun vs H Q _ => ∃ c a S us X Y mid f l, vs = [.ref c, .ref a] ∧ SqT K H c us ∧ TAs H us (X ++ ((f :: (mid ++ [l])) ++ Y)) ∧ SqT K H a (iL S) ∧ PQ.WfL (X ++ ((f :: (mid ++ [l])) ++ Y)) ∧ (PQ.lstL (X ++ ((f :: (mid ++ [l])) ++ Y))).length ≤ 24 ∧
  (∀ p ∈ X, PQ.share S p = .none) ∧ (∀ p ∈ Y, PQ.share S p = .none) ∧ PQ.share S f ≠ .none ∧ PQ.share S l ≠ .none ∧
  ∀ v' H' r, Same H H' → TO H' v' r → ((∀ p ∈ mid, PQ.share S p = .all) → r = (PQ.rowSeg S (PQ.split S) (f :: (mid ++ [l]))).map fun L => PQ.mkRow (X ++ (L ++ Y))) → (¬ (∀ p ∈ mid, PQ.share S p = .all) → r = none) → Q v' H'
theorem c_joined_row (T : Txt K mg) (t : Tx K mg "joined_row" s_joined_row p_joined_row) (c_share : Cb P w K mg base 26 "share" p_share (spShare K)) (c_make_row : Cb P w K mg base 2 "make_row" p_make_row (spMake (K := K) PQ.mkRow))
    (c_split : Cb P w K mg base 75 "split" p_split (spSplit K 24)) : Cb P w K mg base 76 "joined_row" p_joined_row (spJoinRow K) := by
  refine t.cb sc_joined_row (fun vs H Q E h => ?_) (fun f cdv A outer s H vs Q E hr h => ?_)
  · obtain ⟨c, a, S, us, X, Y, mid, f, l, rfl, _⟩ := h; rfl
  obtain ⟨c, a, S, us, X, Y, mid, f0, l0, rfl, hc, hU, hS, hw, hl, hX, hY, hf0, hl0, q⟩ := h
  have nd := sc_joined_row.nd
  refine ⟨_, (pss_cons (ps_set (i := 2) nd rfl (Or.inr rfl) (pe_lc (own := [("part", 9)]) (g := gName 9) (by rfl) nd (pi_tup (pv 0)) (blkOk_by (own := [("part", 9)]) (N := n_joined_row) (sc := defScope s_joined_row) (by decide +kernel)) (fun _ _ _ _ _ => (pg_name (i := 9) nd rfl (Or.inl rfl))) (fun _ _ _ _ _ => pts_nil) (fun _ _ _ _ _ => (pe_user c_share hr (by omega) (pa_cons (pv 9) (pa_cons (pv 1) pa_nil))))))
    (pss_cons (ps_setLc (i := 3) (own := [("index", 7)]) (g := gName 7) (by rfl) nd rfl rfl (sw_true rfl rfl rfl (by decide +kernel)) (pi_range1 (by rfl) T.n_range (pa_cons (pe_callB call_len_seq (by rfl) T.n_len PySem.boot_len (pa_cons (pv 0) pa_nil)) pa_nil)) (blkOk_by (own := [("index", 7)]) (N := n_joined_row) (sc := defScope s_joined_row) (by decide +kernel)) (fun _ _ _ _ _ => (pg_name (i := 7) nd rfl (Or.inl rfl))) (fun _ _ _ _ _ => (pts_one (pt_cmpR op_ne (pe_ix (r := rIxL K) ix_list (pv 2) (pv 7) (fun _ _ => rfl)) pe_str (nomark _)))) (fun _ _ _ _ _ => (pv 7)))
    (pss_cons (ps_set (i := 4) nd rfl (Or.inl rfl) (pe_ix ix_list (pv 3) pe_int (fun _ _ => rfl)))
    (pss_cons (ps_set (i := 5) nd rfl (Or.inl rfl) (pe_ix ix_list (pv 3) (pe_un un_neg pe_int) (fun _ _ => rfl)))
    (pss_cons (ps_if (pt_cmpR (op_neD hr.units) (pe_lc (own := [("index", 7)]) (g := gName 7) (by rfl) nd (pi_range2 (by rfl) T.n_range (pa_cons (pe_op op_add (pv 4) pe_int) (pa_cons (pv 5) pa_nil))) (blkOk_by (own := [("index", 7)]) (N := n_joined_row) (sc := defScope s_joined_row) (by decide +kernel)) (fun _ _ _ _ _ => (pg_name (i := 7) nd rfl (Or.inl rfl))) (fun _ _ _ _ _ => (pts_one (pt_cmpR op_ne (pe_ix (r := rIxL K) ix_list (pv 2) (pv 7) (fun _ _ => rfl)) pe_str (nomark _)))) (fun _ _ _ _ _ => (pv 7))) (pe_lst pa_nil) (nomark _))
      (pss_one (ps_ret pe_non))
      pss_nil)
    (pss_cons (ps_set (i := 6) nd rfl (Or.inl rfl) (pe_callTy call_list_of (by rfl) T.n_list (by decide +kernel) (pa_cons (pe_slice sl_tupA (pv 0) po_none (po_some (pv 4))) pa_nil)))
    (pss_cons (ps_for PassesOwn.never rfl (pi_range2 (by rfl) T.n_range (pa_cons (pv 4) (pa_cons (pe_op op_add (pv 5) pe_int) pa_nil))) (pg_name (i := 7) nd rfl (Or.inl rfl))
      (pss_cons (ps_set (i := 8) nd rfl (Or.inl rfl) (pe_lst (pa_cons (pe_ix ix_tup (pv 0) (pv 7) (fun _ _ => rfl)) pa_nil)))
      (pss_cons (ps_if (pt_cmpR op_eq (pe_ix ix_list (pv 2) (pv 7) (fun _ _ => rfl)) pe_str (nomark _))
        (pss_cons (ps_set (i := 8) nd rfl (Or.inl rfl) (pe_user c_split hr (by omega) (pa_cons (pe_ix ix_tup (pv 0) (pv 7) (fun _ _ => rfl)) (pa_cons (pv 1) pa_nil))))
        (pss_cons (ps_if (pt_cmpR op_isN (pv 8) pe_non (nomark _))
          (pss_one (ps_ret pe_non))
          pss_nil)
        (pss_one (ps_if (pt_cmpR op_eq (pv 7) (pv 5) (nomark _))
          (pss_one (ps_set (i := 8) nd rfl (Or.inl rfl) (pe_revL (pv 8))))
          pss_nil))))
        pss_nil)
      (pss_one (ps_expr (pe_bm PySem.F.plainAttrs_list PySem.F.slot_list_extend PySem.F.type_list_extend mt_extend (pv 6) (pa_cons (pv 8) pa_nil)))))))
    (pss_cons (ps_expr (pe_bm PySem.F.plainAttrs_list PySem.F.slot_list_extend PySem.F.type_list_extend mt_extendT (pv 6) (pa_cons (pe_slice sl_tupA (pv 0) (po_some (pe_op op_add (pv 5) pe_int)) po_none) pa_nil)))
    (pss_one (ps_ret (pe_user c_make_row hr (by omega) (pa_cons (pv 6) pa_nil)))))))))))), ?_⟩
  obtain ⟨m0, ht0⟩ := tchs_two hX hY hf0 hl0
  have hCl : (f0 :: (mid ++ [l0])).length = mid.length + 2 := by simp
  have hkl := PQ.kids_len hw
  generalize hps : X ++ ((f0 :: (mid ++ [l0])) ++ Y) = ps at *
  have hsm : ∀ p ∈ ps, Sm p := fun p hp => ⟨hw p hp, by
    obtain ⟨x, y, e⟩ := List.append_of_mem hp
    rw [e, PQ.lstL_append, PQ.lstL_cons, List.length_append, List.length_append] at hl
    omega⟩
  have hlen := hU.len
  have hpl : ps.length = X.length + (mid.length + 2) + Y.length := by
    rw [← hps, List.length_append, List.length_append, hCl]; omega
  -- shares
  refine ⟨.ref c, rfl, c, rfl, ⟨us, hc⟩, fun Ds hDs0 => ?_⟩
  refine lc_tup (xs := us) (fun i H' => Same H H' ∧ H' Ds = some (.lst (((ps.take i).map (PQ.share S)).map fun s => V.str (shS s)))) ⟨same_new hDs0, upd_same⟩ (fun i H' _ hP => hP.1.seqT hc) (fun i x H' hx hP => ?_) (fun H1 hP => ?_)
  · obtain ⟨sm, hL⟩ := hP
    obtain ⟨p, hp, hTp⟩ := hU.getV hx
    refine ⟨rfl, yesT ⟨x, rfl, .ref a, rfl, x, a, S, p, rfl, hTp.to sm, sm.seqT hS, hsm p (List.mem_of_getElem? hp), fun H2 s2 => ⟨_, s2 _ _ hL, ?_, shares_step hp hDs0 (sm.trans s2) rfl⟩⟩⟩
    rw [List.length_map, List.length_map, List.length_take]; exact small24' (by omega)
  obtain ⟨k1, hDs⟩ := hP
  rw [List.take_of_length_le (by omega)] at hDs
  have hget : ∀ {j : Nat} {p : PQ.T}, ps[j]? = some p → ((ps.map (PQ.share S)).map fun s => V.str (shS s))[j]? = some (.str (shS (PQ.share S p))) := fun h => by
    rw [List.getElem?_map, List.getElem?_map, h]; rfl
  generalize hSH : ((ps.map (PQ.share S)).map fun s => V.str (shS s)) = SH at *
  -- touched
  refine ⟨.ref c, rfl, c, us, rfl, .inr (k1.seqT hc), _, rfl, by omega, by omega, fun Dt hDt0 => ?_⟩
  refine lc_range (lo := 0) (n := ((us.length : Nat) : Int).toNat) (fun i H' => Same H1 H' ∧ H' Dt = some (.lst (tchs S ps i))) ⟨same_new hDt0, upd_same⟩ (fun i H' hi hP => ?_) (fun H2 hP => ?_)
  · obtain ⟨sm, hL⟩ := hP
    have hi' : i < ps.length := by omega
    have hp : ps[i]? = some ps[i] := List.getElem?_eq_getElem hi'
    generalize ps[i] = p at hp
    refine ⟨rfl, .ref Ds, rfl, _, rfl, Ds, SH, _, _, rfl, rfl, .of (sm _ _ hDs), at_of (j := i) (by omega) (hget hp), rfl, _, rfl, ite2 (fun d => ?_) (fun d => ?_)⟩
    · have d' : PQ.share S p ≠ .none := fun e => by
        rw [e] at d
        simp [shS] at d
      refine ⟨_, rfl, _, hL, ?_, same_mut sm hDt0, ?_⟩
      · have := tchs_len S ps i
        exact small24' (by omega)
      · rw [upd_same, tchs_yes hp d', Int.zero_add]
    · have d' : ¬ PQ.share S p ≠ .none := fun e => d (by
        rw [Bool.not_eq_true', decide_eq_false_iff_not]
        intro h
        exact e (shS_inj (b := .none) (V.str.inj h)))
      exact ⟨sm, by rw [tchs_no hp d']; exact hL⟩
  obtain ⟨k2, hDt⟩ := hP
  rw [show ((us.length : Nat) : Int).toNat = ps.length by omega, ht0] at hDt
  have at0 : atI (V.int ((X.length : Nat) : Int) :: (m0 ++ [V.int ((X.length + mid.length + 1 : Nat) : Int)])) ((0 : Nat) : Int) = some (.int ((X.length : Nat) : Int)) := atI_nat rfl
  have at1 : atI (V.int ((X.length : Nat) : Int) :: (m0 ++ [V.int ((X.length + mid.length + 1 : Nat) : Int)])) (-1) = some (.int ((X.length + mid.length + 1 : Nat) : Int)) := by
    rw [← List.cons_append]; exact atI_last _ _
  refine ⟨.ref Dt, rfl, Dt, _, 0, _, rfl, rfl, .of hDt, at0, ?_⟩
  refine ⟨.ref Dt, rfl, 1, rfl, Dt, _, _, _, rfl, rfl, .of hDt, at1, ?_⟩
  have k12 := k1.trans k2
  have hDs2 := k2 _ _ hDs
  have hmidp : ∀ j, j < mid.length → ps[X.length + (1 + j)]? = mid[j]? := fun j hj => by
    rw [← hps, get_mid (by rw [hCl]; omega), Nat.add_comm 1 j, List.getElem?_cons_succ, List.getElem?_append_left hj]
  -- the parts between
  refine ⟨_, rfl, _, _, rfl, rfl, _, rfl, _, _, rfl, ⟨by omega, by omega, by omega, by omega⟩, fun Dr hDr0 => ?_⟩
  refine lc_range (lo := ((X.length : Nat) : Int) + 1) (n := (((X.length + mid.length + 1 : Nat) : Int) - (((X.length : Nat) : Int) + 1)).toNat) (fun i H' => Same H2 H' ∧ ∃ r : List Int, H' Dr = some (.lst (iL r)) ∧ r.length ≤ i ∧ (r = [] ↔ ∀ p ∈ mid.take i, PQ.share S p = .all)) ⟨same_new hDr0, [], upd_same, Nat.le_refl _, by simp⟩ (fun i H' hi hP => ?_) (fun H3 hP => ?_)
  · obtain ⟨sm, r, hL, hrl, hri⟩ := hP
    have hi' : i < mid.length := by omega
    have hm : mid[i]? = some mid[i] := List.getElem?_eq_getElem hi'
    generalize mid[i] = p at hm
    have hp : ps[X.length + (1 + i)]? = some p := by rw [hmidp i hi', hm]
    have htk : mid.take (i + 1) = mid.take i ++ [p] := by rw [List.take_add_one, hm]; rfl
    refine ⟨rfl, .ref Ds, rfl, _, rfl, Ds, SH, _, _, rfl, rfl, .of (sm _ _ hDs2), at_of (j := X.length + (1 + i)) (by omega) (hget hp), rfl, _, rfl, ite2 (fun d => ?_) (fun d => ?_)⟩
    · have d' : PQ.share S p ≠ .all := fun e => by
        rw [e] at d
        simp [shS] at d
      refine ⟨_, rfl, _, hL, ?_, same_mut sm hDr0, r ++ [((X.length : Nat) : Int) + 1 + (i : Int)], ?_, ?_, ?_⟩
      · rw [List.length_map]; exact small24' (by omega)
      · rw [upd_same]; unfold iL; rw [List.map_append]; rfl
      · rw [List.length_append, List.length_singleton]; omega
      · constructor
        · intro e; simp at e
        · intro h; exact absurd (h p (by rw [htk]; simp)) d'
    · have d' : PQ.share S p = .all := Decidable.byContradiction fun e => d (by
        rw [Bool.not_eq_true', decide_eq_false_iff_not]
        intro h
        exact e (shS_inj (b := .all) (V.str.inj h)))
      refine ⟨sm, r, hL, by omega, ?_⟩
      rw [hri, htk]
      constructor
      · intro h p' hp'
        rcases List.mem_append.mp hp' with h' | h'
        · exact h p' h'
        · rw [List.mem_singleton] at h'; subst h'; exact d'
      · intro h p' hp'
        exact h p' (List.mem_append_left _ hp')
  obtain ⟨k3, r, hDr, _, hri⟩ := hP
  rw [List.take_of_length_le (by omega)] at hri
  refine ⟨Nat.zero_le _, fun z hz => ⟨_, _, dpI (.of (same_new hz _ _ hDr)), dpI (l := []) (.of upd_same), shapedI _, shapedI _, _, rfl, ?_⟩⟩
  rw [eqvI]
  have k4' : Same H2 (upd H3 z (.lst [])) := k3.trans (same_new hz)
  have k4 := k12.trans k4'
  have hDs4 := k4' _ _ hDs2
  generalize upd H3 z (.lst []) = H4 at *
  refine ite2 (fun d => ?_) (fun d => ?_)
  · have d' : ¬ ∀ p ∈ mid, PQ.share S p = .all := fun h => by
      rw [decide_eq_true (hri.mpr h)] at d
      cases d
    exact q .non H4 none k4 rfl (fun h => absurd h d') (fun _ => rfl)
  have hall : ∀ p ∈ mid, PQ.share S p = .all := hri.mp (Decidable.byContradiction fun e => d (by rw [decide_eq_false e]; rfl))
  have q : ∀ v' H' r, Same H H' → TO H' v' r → r = (PQ.rowSeg S (PQ.split S) (f0 :: (mid ++ [l0]))).map (fun L => PQ.mkRow (X ++ (L ++ Y))) → Q v' H' := fun v' H' r h1 h2 h3 => q v' H' r h1 h2 (fun _ => h3) (fun h => absurd hall h)
  clear d hri
  -- found = list(parts[:first])
  have hU4 := hU.to k4
  rw [← hps] at hU4
  obtain ⟨uX, uR, rfl, hUX, hUR⟩ := hU4.split
  obtain ⟨uC, uY, rfl, hUC, hUY⟩ := hUR.split
  have hlX := hUX.len
  have hlC := hUC.len
  rw [hCl] at hlC
  have hlY := hUY.len
  have htake : cutV (uX ++ (uC ++ uY)) none (some ((X.length : Nat) : Int)) = uX := by
    rw [cut_take (by rw [List.length_append]; omega), List.take_append_of_le_length (by omega), List.take_of_length_le (by omega)]
  have hdrop : cutV (uX ++ (uC ++ uY)) (some (((X.length + mid.length + 1 : Nat) : Int) + 1)) none = uY := by
    have e : (((X.length + mid.length + 1 : Nat) : Int) + 1) = ((X.length + mid.length + 1 + 1 : Nat) : Int) := by omega
    rw [e, cut_drop (by rw [List.length_append, List.length_append]; omega), ← List.append_assoc, List.drop_append_of_le_length (by rw [List.length_append]; omega), List.drop_of_length_le (by rw [List.length_append]; omega), List.nil_append]
  refine ⟨.ref c, rfl, _, rfl, _, rfl, sla_of (k4.seqT hc) htake fun pc H5 s5 hpc => ⟨pc, uX, rfl, .inr hpc, fun lf hlf => ?_⟩⟩
  have k5 := k4.trans s5
  have n5 : Same H5 (upd H5 lf (.lst uX)) := same_new hlf
  have hDs5 := s5 _ _ hDs4
  have hUC5 := hUC.to s5
  have hlXC : (PQ.lstL (f0 :: (mid ++ [l0]))).length ≤ 24 := by
    rw [← hps, PQ.lstL_append, PQ.lstL_append, List.length_append, List.length_append] at hl
    omega
  -- the loop
  refine ⟨_, rfl, _, rfl, _, _, rfl, rfl, _, _, rfl, ⟨by omega, by omega, by omega, by omega⟩, ?_⟩
  refine for_range (lo := ((X.length : Nat) : Int)) (n := ((((X.length + mid.length + 1 : Nat) : Int) + 1) - ((X.length : Nat) : Int)).toNat) (fun i σ H' => ∃ zi zn L u, σ = [some (.ref c), some (.ref a), some (.ref Ds), some (.ref Dt), some (.int ((X.length : Nat) : Int)), some (.int ((X.length + mid.length + 1 : Nat) : Int)), some (.ref lf), zi, zn, none] ∧ Same H5 H' ∧ H' lf = some (.lst u) ∧ TAs H' u (X ++ L) ∧
      (i ≤ mid.length + 1 → PQ.expand S (PQ.split S) ((f0 :: (mid ++ [l0])).take i) = some L) ∧ (i = mid.length + 2 → PQ.rowSeg S (PQ.split S) (f0 :: (mid ++ [l0])) = some L) ∧ L.length ≤ (PQ.lstL ((f0 :: (mid ++ [l0])).take i)).length)
    ⟨none, none, [], uX, rfl, n5, upd_same, by rw [List.append_nil]; exact hUX.to (s5.trans n5), fun _ => rfl, fun h => by omega, Nat.zero_le _⟩ (fun i σ H' hi hP => ?_) (fun σ H' hP => ?_)
  · obtain ⟨zi, zn, L, u, rfl, km, hu, hTu, hex, _, hLl⟩ := hP
    have hi' : i < mid.length + 2 := by omega
    have hex := hex (by omega)
    have hC : (f0 :: (mid ++ [l0]))[i]? = some (f0 :: (mid ++ [l0]))[i] := List.getElem?_eq_getElem (by rw [hCl]; exact hi')
    generalize (f0 :: (mid ++ [l0]))[i]'(by rw [hCl]; exact hi') = p at hC
    have hp : ps[X.length + i]? = some p := by rw [← hps, get_mid (by rw [hCl]; exact hi'), hC]
    have hpm : p ∈ ps := List.mem_of_getElem? hp
    obtain ⟨ui, hui, hTi⟩ := hUC5.get hC
    have hus : (uX ++ (uC ++ uY))[X.length + i]? = some ui := by
      rw [← hlX, get_mid (List.getElem?_eq_some_iff.mp hui).1, hui]
    have hpC : p ∈ f0 :: (mid ++ [l0]) := List.mem_of_getElem? hC
    have hmore := PQ.expand_take (S := S) (f := PQ.split S) hC
    rw [hex] at hmore
    have hlm := lstL_take hC
    have hle2 := lstL_take_le (ps := f0 :: (mid ++ [l0])) (i := i + 1)
    rw [hlm, List.length_append] at hle2
    have hlast : i = mid.length + 1 → p = l0 := fun e => by
      subst e
      rw [List.getElem?_cons_succ, List.getElem?_append_right (Nat.le_refl _), Nat.sub_self] at hC
      exact (Option.some.inj hC).symm
    have hulen := hTu.len
    rw [List.length_append] at hulen
    have hpos := PQ.len_pos (hsm p hpm).1
    have kc := k5.trans km
    refine ⟨.ref c, rfl, _, rfl, c, _, _, ui, rfl, rfl, kc.seqT hc, at_of (j := X.length + i) (by omega) hus, (by show 1 ≤ sizeLine; decide), fun Di hDi => ?_⟩
    have mi : Same H' (upd H' Di (.lst [ui])) := same_new hDi
    have km1 := km.trans mi
    refine ⟨.ref Ds, rfl, _, rfl, Ds, SH, _, _, rfl, rfl, .of (km1 _ _ hDs5), at_of (j := X.length + i) (by omega) (hget hp), rfl, _, rfl, ?_⟩
    refine if_join (fun σ' H'' => ∃ Dn un Lp, σ' = [some (.ref c), some (.ref a), some (.ref Ds), some (.ref Dt), some (.int ((X.length : Nat) : Int)), some (.int ((X.length + mid.length + 1 : Nat) : Int)), some (.ref lf), some (.int (((X.length : Nat) : Int) + (i : Int))), some (.ref Dn), none] ∧ Same H' H'' ∧ H'' Dn = some (.lst un) ∧ TAs H'' un Lp ∧ Lp.length ≤ (PQ.lst p).length ∧
        (i < mid.length + 1 → PQ.exp1 S (PQ.split S) p = some Lp) ∧ (i = mid.length + 1 → (PQ.exp1 S (PQ.split S) p).map List.reverse = some Lp)) (fun hb back => ?_) (fun hb => ?_) (fun σ' H'' hI => ?_)
    · have d' : PQ.share S p = .some := shS_inj (b := .some) (V.str.inj (of_decide_eq_true hb))
      have e1 : PQ.exp1 S (PQ.split S) p = PQ.split S p := by unfold PQ.exp1; rw [if_pos d']
      refine ⟨.ref c, rfl, _, rfl, c, _, _, ui, rfl, rfl, (kc.trans mi).seqT hc, at_of (j := X.length + i) (by omega) hus, .ref a, rfl, ui, a, S, p, rfl, hTi.to km1, (kc.trans mi).seqT hS, (hsm p hpm).1, (hsm p hpm).2, Nat.le_refl _, d', fun v' H7 s7 hLN => ?_⟩
      cases hspl : PQ.split S p with
      | none =>
        rw [hspl] at hLN
        cases (show v' = .non from hLN)
        refine ⟨_, rfl, rfl, true, rfl, iteT (q .non H7 none ((kc.trans mi).trans s7) rfl ?_)⟩
        rw [show f0 :: (mid ++ [l0]) = (f0 :: mid) ++ [l0] from rfl, PQ.rowSeg_no (p := p) hpC (by rw [e1, hspl])]; rfl
      | some inner =>
        rw [hspl] at hLN
        obtain ⟨Dj, uj, rfl, _, hDj, hTj⟩ := hLN
        have hil := PQ.split_len (hsm p hpm).1 d' hspl
        refine ⟨_, rfl, rfl, false, rfl, iteF ⟨_, rfl, _, rfl, rfl, _, rfl, ite2 (fun e => ?_) (fun e => ?_)⟩⟩
        · have e' : i = mid.length + 1 := by have := V.int.inj (of_decide_eq_true e); omega
          refine ⟨.ref Dj, rfl, Dj, uj, rfl, .of hDj, fun R hR => back _ _ ⟨R, uj.reverse, inner.reverse, rfl, (mi.trans s7).trans (same_new hR), upd_same, hTj.rev.to (same_new hR), by rw [List.length_reverse]; exact hil, fun h => by omega, fun _ => by rw [e1, hspl]; rfl⟩⟩
        · have e' : ¬ i = mid.length + 1 := fun h => e (decide_eq_true (congrArg V.int (by omega)))
          exact back _ _ ⟨Dj, uj, inner, rfl, mi.trans s7, hDj, hTj, hil, fun _ => by rw [e1, hspl], fun h => absurd h e'⟩
    · have d' : ¬ PQ.share S p = .some := fun h => by
        have := of_decide_eq_false hb
        exact this (congrArg (fun s => V.str (shS s)) h)
      have e1 : PQ.exp1 S (PQ.split S) p = some [p] := by unfold PQ.exp1; rw [if_neg d']
      exact ⟨Di, [ui], [p], rfl, mi, upd_same, (TAs.one (hTi.to km)).to mi, by rw [List.length_singleton]; exact hpos, fun _ => e1, fun _ => by rw [e1]; rfl⟩
    obtain ⟨Dn, un, Lp, rfl, n7, hDn, hTn, hLp, hx1, hx2⟩ := hI
    have hu7 := n7 _ _ hu
    have hul := hTn.len
    refine ⟨.ref lf, rfl, .inl ⟨rfl, _, .of hu7⟩, .ref Dn, rfl, lf, Dn, u, un, rfl, rfl, hu7, hDn, small24 (by omega), _, _, L ++ Lp, _, rfl, same_mut (km.trans n7) hlf, upd_same, ?_, fun h => ?_, fun h => ?_, ?_⟩
    · rw [← List.append_assoc]
      exact ((hTu.to n7).app hTn).et (et_lst hu7)
    · rw [hmore, hx1 (by omega)]; rfl
    · have hil : i = mid.length + 1 := by omega
      rw [show f0 :: (mid ++ [l0]) = (f0 :: mid) ++ [l0] from rfl, PQ.rowSeg_snoc, ← hlast hil, hx2 hil]
      have : (f0 :: (mid ++ [l0])).take i = f0 :: mid := by
        subst hil
        rw [List.take_succ_cons, List.take_append_of_le_length (Nat.le_refl _), List.take_length]
      rw [this] at hex
      rw [hex]; rfl
    · rw [hlm, List.length_append, List.length_append]; omega
  · obtain ⟨zi, zn, L, u, rfl, km, hu, hTu, _, hseg, hLl⟩ := hP
    have hseg := hseg (by omega)
    have hle2 := lstL_take_le (ps := f0 :: (mid ++ [l0])) (i := ((((X.length + mid.length + 1 : Nat) : Int) + 1) - ((X.length : Nat) : Int)).toNat)
    have kc := k5.trans km
    have hulen := hTu.len
    rw [List.length_append] at hulen
    refine ⟨.ref lf, rfl, .inl ⟨rfl, _, .of hu⟩, .ref c, rfl, _, rfl, _, _, rfl, rfl, _, rfl, ?_⟩
    show tNoPart _ _ _
    unfold tNoPart
    refine sla_of (kc.seqT hc) hdrop fun pd H8 s8 hpd => ⟨lf, pd, u, uY, rfl, rfl, s8 _ _ hu, hpd, small24 (by omega), ?_⟩
    have e : TAs (upd H8 lf (.lst (u ++ uY))) (u ++ uY) (X ++ L ++ Y) := ((hTu.to s8).app (hUY.to ((s5.trans km).trans s8))).et (et_lst (s8 _ _ hu))
    refine ⟨.ref lf, rfl, lf, _, _, rfl, .of upd_same, e, by rw [List.length_append, List.length_append]; omega, fun v H9 s9 tv => q v H9 (some (PQ.mkRow (X ++ L ++ Y))) ((k5.trans (same_mut (km.trans s8) hlf)).trans s9) tv ?_⟩
    rw [hseg, List.append_assoc]; rfl
end
end Wk
namespace Wk
open PySem PySem.Spec PyProof.Rows L2
open PQ (T)
theorem sla_ofH {K : PySem.W.Frag} {H : Hp} {a : Addr} {xs ys : List V} {lo hi : Option Int} {Q : VK} (hx : H a = some (.tup xs)) (hy : cutV xs lo hi = ys) (q : ∀ p H', Same H H' → H' p = some (.tup ys) → Q (.ref p) H') : rSlA K (.ref a) lo hi H Q := by
  subst hy
  refine ⟨a, xs, rfl, .of hx, fun hw => q a H (Same.refl H) ?_, fun _ p hp => q p _ (same_new hp) upd_same⟩
  have e : cutV xs lo hi = xs := by
    unfold cutV
    rw [hw.1, hw.2, List.drop_zero, Nat.sub_zero, List.take_length]
  rw [e]; exact hx
theorem cata_ofH {K : PySem.W.Frag} {H : Hp} {a b : Addr} {xs ys : List V} {Q : VK} (ha : H a = some (.tup xs)) (hb : H b = some (.tup ys)) (hz : xs.length + ys.length ≤ sizeLine) (q : ∀ p H', Same H H' → H' p = some (.tup (xs ++ ys)) → Q (.ref p) H') : rCatA K (.ref a) (.ref b) H Q := by
  refine ⟨a, b, xs, ys, rfl, rfl, .of ha, .of hb, hz, fun e => q b H (Same.refl H) ?_, fun _ e => q a H (Same.refl H) ?_, fun _ _ p hp => q p _ (same_new hp) upd_same⟩
  · subst e; exact hb
  · subst e; rw [List.append_nil]; exact ha
section
variable {P : Program} {w : World} {K : PySem.W.Frag} {mg : Str → Option Value} {base : Heap}
/-! ### joined -/
abbrev s_joined : Stmt := topS 37
abbrev n_joined : List Str := ["tree", "chosen", "word", "parts", "touched", "inner", "index"]
abbrev p_joined : List Str := ["tree", "chosen"]
theorem sc_joined : FnScope n_joined p_joined (defScope s_joined) := ⟨rfl, rfl, rfl, by decide +kernel, rfl, by decide +kernel, by decide +kernel⟩
def spJoined (K : PySem.W.Frag) (n : Nat) : Sp := fun vs H Q _ => ∃ v a S t, vs = [v, .ref a] ∧ TA H v t ∧ SqT K H a (iL S) ∧ PQ.wf t ∧ (PQ.lst t).length ≤ n ∧ n ≤ 24 ∧ PQ.Has S (PQ.lst t) ∧ ∀ v' H', Same H H' → TO H' v' (PQ.joined S t) → Q v' H'
theorem c_joined (T : Txt K mg) (t : Tx K mg "joined" s_joined p_joined) (c_is_thing : Cb P w K mg base 1 "is_thing" p_is_thing spThing) (c_share : Cb P w K mg base 26 "share" p_share (spShare K))
    (c_joined_any : Cb P w K mg base 76 "joined_any" p_joined_any (spJoinKids K fun S ps => PQ.joinedAny S (PQ.split S) ps)) (c_joined_row : Cb P w K mg base 76 "joined_row" p_joined_row (spJoinRow K)) : ∀ n, Cb P w K mg base (n + 77) "joined" p_joined (spJoined K n) := by
  intro n
  induction n with
  | zero =>
    obtain ⟨f, fd, F, b, m⟩ := t
    refine ⟨f, fd, ⟨fun vs H Q E h => ?_, fun A outer s H args us vs Q E _ _ _ _ h => ?_⟩, m, F.kp, b⟩
    · obtain ⟨v, a, S, t, rfl, _⟩ := h; rfl
    · obtain ⟨v, a, S, t, rfl, _, _, hw, hl, _⟩ := h
      have := PQ.len_pos hw
      omega
  | succ n ih =>
    have e77 : n + 1 + 77 = (n + 77) + 1 := by omega
    rw [e77]
    refine t.cb sc_joined (fun vs H Q E h => ?_) (fun f cdv A outer s H vs Q E hr h => ?_)
    · obtain ⟨v, a, S, t, rfl, _⟩ := h; rfl
    obtain ⟨v, a, S, t, rfl, hT, hS, hw, hl, h24, hh, q⟩ := h
    have nd := sc_joined.nd
    have c_joined := ih
    refine ⟨_, (pss_cons (ps_if (PW.pt (pw_or (pt_val (pe_user c_is_thing hr (by omega) (pa_cons (pv 0) pa_nil))) (pw_or1 (pt_cmpR op_eq (pe_user c_share hr (by omega) (pa_cons (pv 0) (pa_cons (pv 1) pa_nil))) pe_str (nomark _)))))
      (pss_one (ps_ret (pv 0)))
      pss_nil)
    (pss_cons (ps_asg (pv 0) (pg_tup (by rfl) (pgs_cons (pg_name (i := 2) nd rfl (Or.inl rfl)) (pgs_cons (pg_name (i := 3) nd rfl (Or.inr rfl)) pgs_nil))))
    (pss_cons (ps_setLc (i := 4) (own := [("index", 6)]) (g := gName 6) (by rfl) nd rfl rfl (sw_true rfl rfl rfl (by decide +kernel)) (pi_range1 (by rfl) T.n_range (pa_cons (pe_callB call_len_seq (by rfl) T.n_len PySem.boot_len (pa_cons (pv 3) pa_nil)) pa_nil)) (blkOk_by (own := [("index", 6)]) (N := n_joined) (sc := defScope s_joined) (by decide +kernel)) (fun _ _ _ _ _ => (pg_name (i := 6) nd rfl (Or.inl rfl))) (fun _ _ _ _ _ => (pts_one (pt_cmpR op_ne (pe_user c_share hr (by omega) (pa_cons (pe_ix (r := rIxT K) ix_tup (pv 3) (pv 6) (fun _ _ => rfl)) (pa_cons (pv 1) pa_nil))) pe_str (nomark _)))) (fun _ _ _ _ _ => (pv 6)))
    (pss_cons (ps_if (pt_cmpR op_eq (pe_callB call_len_seq (by rfl) T.n_len PySem.boot_len (pa_cons (pv 4) pa_nil)) pe_int (nomark _))
      (pss_cons (ps_set (i := 5) nd rfl (Or.inl rfl) (pe_user c_joined hr (by omega) (pa_cons (pe_ix ix_tup (pv 3) (pe_ix ix_list (pv 4) pe_int (fun _ _ => rfl)) (fun _ _ => rfl)) (pa_cons (pv 1) pa_nil))))
      (pss_cons (ps_if (pt_cmpR op_isN (pv 5) pe_non (nomark _))
        (pss_one (ps_ret pe_non))
        pss_nil)
      (pss_one (ps_ret (pe_tup (pa_cons (pv 2) (pa_cons (pe_op op_catA (pe_op op_catA (pe_slice sl_tupA (pv 3) po_none (po_some (pe_ix ix_list (pv 4) pe_int (fun _ _ => rfl)))) (pe_tup (pa_cons (pv 5) pa_nil))) (pe_slice sl_tupA (pv 3) (po_some (pe_op op_add (pe_ix ix_list (pv 4) pe_int (fun _ _ => rfl)) pe_int)) po_none)) pa_nil)))))))
      pss_nil)
    (pss_cons (ps_if (pt_cmpR op_eq (pv 2) pe_str (nomark _))
      (pss_one (ps_ret (pe_user c_joined_any hr (by omega) (pa_cons (pv 3) (pa_cons (pv 1) pa_nil)))))
      pss_nil)
    (pss_one (ps_ret (pe_user c_joined_row hr (by omega) (pa_cons (pv 3) (pa_cons (pv 1) pa_nil)))))))))), ?_⟩
    refine ⟨_, rfl, _, _, rfl, thV_of hT, _, rfl, ?_⟩
    cases t with
    | th i => exact iteT (iteT ⟨_, rfl, q v H (Same.refl H) (by rw [PQ.joined_th]; exact hT)⟩)
    | nd b ps =>
      have hT0 := hT
      obtain ⟨ad, c, ws, rfl, h1, h2, h3⟩ := TA_nd.mp hT
      obtain ⟨l2, l3, hk⟩ := PQ.wf_nd.mp hw
      have hsh : PQ.share S (.nd b ps) ≠ .none := PQ.share_tch.mpr hh
      refine iteF ⟨.ref ad, rfl, .ref a, rfl, .ref ad, a, S, .nd b ps, rfl, hT0, hS, ⟨hw, by omega⟩, fun H1 s1 => ⟨rfl, _, rfl, ite2 (fun d => ?_) (fun d => ?_)⟩⟩
      · have d' : PQ.share S (.nd b ps) = .all := shS_inj (b := .all) (V.str.inj (of_decide_eq_true d))
        exact ⟨_, rfl, q _ H1 s1 (by rw [PQ.joined_all d']; exact hT0.to s1)⟩
      have d' : ¬ PQ.share S (.nd b ps) = .all := fun h => d (decide_eq_true (congrArg (fun s => V.str (shS s)) h))
      clear d
      have hht := hh
      rw [PQ.lst_nd] at hl hh
      have hlen := h3.len
      have hkl := PQ.kids_len hk
      have htc : ∃ p ∈ ps, PQ.share S p ≠ .none := by
        obtain ⟨x, hx, hxs⟩ := hh
        obtain ⟨p, hp, hxp⟩ := PQ.mem_lstL.mp hx
        exact ⟨p, hp, PQ.share_tch.mpr ⟨x, hxp, hxs⟩⟩
      have hsm : ∀ p ∈ ps, Sm p := fun p hp => ⟨hk p hp, by have := PQ.kid_len l2 hk hp; omega⟩
      refine ⟨.ref ad, rfl, ad, _, rfl, .of (s1 _ _ h1), rfl, _, _, rfl, _, _, rfl, rfl, ?_⟩
      -- touched
      refine ⟨.ref c, rfl, c, ws, rfl, .inr (.of (s1 _ _ h2)), _, rfl, by omega, by omega, fun Dt hDt0 => ?_⟩
      refine lc_range (lo := 0) (n := ((ws.length : Nat) : Int).toNat) (fun i H' => Same H1 H' ∧ H' Dt = some (.lst (tchs S ps i))) ⟨same_new hDt0, upd_same⟩ (fun i H' hi hP => ?_) (fun H2 hP => ?_)
      · obtain ⟨sm, hL⟩ := hP
        have hi' : i < ps.length := by omega
        have hp : ps[i]? = some ps[i] := List.getElem?_eq_getElem hi'
        generalize ps[i] = p at hp
        obtain ⟨u, hu, hTu⟩ := h3.get hp
        have k := s1.trans sm
        refine ⟨rfl, .ref c, rfl, _, rfl, c, ws, _, u, rfl, rfl, .of (k _ _ h2), at_of (j := i) (by omega) hu, .ref a, rfl, u, a, S, p, rfl, hTu.to k, k.seqT hS, hsm p (List.mem_of_getElem? hp), fun H3 s3 => ⟨rfl, _, rfl, ite2 (fun d => ?_) (fun d => ?_)⟩⟩
        · have e : PQ.share S p ≠ .none := fun e => by
            rw [e] at d
            simp [shS] at d
          refine ⟨_, rfl, _, s3 _ _ hL, ?_, same_mut (sm.trans s3) hDt0, ?_⟩
          · have := tchs_len S ps i
            exact small24' (by omega)
          · rw [upd_same, tchs_yes hp e, Int.zero_add]
        · have e : ¬ PQ.share S p ≠ .none := fun e => d (by
            rw [Bool.not_eq_true', decide_eq_false_iff_not]
            intro h
            exact e (shS_inj (b := .none) (V.str.inj h)))
          exact ⟨sm.trans s3, by rw [tchs_no hp e]; exact s3 _ _ hL⟩
      obtain ⟨k2, hDt⟩ := hP
      have s2 := s1.trans k2
      rw [show ((ws.length : Nat) : Int).toNat = ps.length by omega] at hDt
      have hpe := PQ.parts_eq S ps
      rcases PQ.core_shape htc with ⟨m, hc, hm⟩ | ⟨f0, mid, l0, hc, hf0, hl0⟩
      · -- one touched part
        have hone := PQ.joined_one d' hc
        have hX := fun p hp => PQ.lead_none (S := S) (ps := ps) p hp
        have hY := fun p hp => PQ.trail_none (S := S) (ps := ps) p hp
        rw [hc] at hpe
        generalize PQ.lead S ps = X at *
        generalize PQ.trail S ps = Y at *
        rw [hpe, tchs_one hX hY hm] at hDt
        have hmp : m ∈ ps := by rw [hpe]; simp
        have hmk := PQ.kid_len l2 hk hmp
        have h3s := h3.to s2
        rw [hpe] at h3s
        obtain ⟨uX, uR, rfl, hUX, hUR⟩ := h3s.split
        obtain ⟨um, uY, rfl, hTm, hUY⟩ := TAs_cons.mp hUR
        have hlX := hUX.len
        have hlY := hUY.len
        rw [List.length_append, List.length_cons] at hlen
        have hum : (uX ++ um :: uY)[X.length]? = some um := by
          rw [List.getElem?_append_right (by omega), hlX, Nat.sub_self]; rfl
        have h2s := s2 _ _ h2
        have at0 : atI [V.int ((X.length : Nat) : Int)] ((0 : Nat) : Int) = some (.int ((X.length : Nat) : Int)) := atI_nat rfl
        refine ⟨.ref Dt, rfl, Dt, _, rfl, .inl (.of hDt), rfl, true, rfl, iteT ?_⟩
        refine ⟨.ref c, rfl, .ref Dt, rfl, Dt, _, 0, _, rfl, rfl, .of hDt, at0, c, _, _, um, rfl, rfl, .of h2s, at_of (j := X.length) rfl hum, .ref a, rfl, um, a, S, m, rfl, hTm, s2.seqT hS, (hsm m hmp).1, by omega, by omega, PQ.share_tch.mp hm, fun v' H3 s3 hTO => ?_⟩
        have s23 := s2.trans s3
        cases hjm : PQ.joined S m with
        | none =>
          rw [hjm] at hTO
          cases (show v' = .non from hTO)
          refine ⟨_, rfl, rfl, true, rfl, iteT (q .non H3 s23 ?_)⟩
          rw [hone, hjm]; rfl
        | some t' =>
          rw [hjm] at hTO
          have hTv : TA H3 v' t' := hTO
          have hnn := hTv.ne_non
          refine ⟨_, rfl, rfl, false, congrArg V.bl (decide_eq_false hnn), iteF ?_⟩
          have hDt3 := s3 _ _ hDt
          have htake : cutV (uX ++ um :: uY) none (some ((X.length : Nat) : Int)) = uX := by
            rw [cut_take (by rw [List.length_append]; omega), List.take_append_of_le_length (by omega), List.take_of_length_le (by omega)]
          have hdrop : cutV (uX ++ um :: uY) (some (((X.length : Nat) : Int) + 1)) none = uY := by
            have e : (((X.length : Nat) : Int) + 1) = ((X.length + 1 : Nat) : Int) := by omega
            rw [e, cut_drop (by rw [List.length_append, List.length_cons]; omega), show uX ++ um :: uY = (uX ++ [um]) ++ uY by simp, List.drop_append_of_le_length (by rw [List.length_append, List.length_singleton]; omega), List.drop_of_length_le (by rw [List.length_append, List.length_singleton]; omega), List.nil_append]
          refine ⟨_, rfl, .ref c, rfl, ?_⟩
          show tNoPart _ _ _
          unfold tNoPart
          refine ⟨.ref Dt, rfl, Dt, _, 0, _, rfl, rfl, .of hDt3, at0, _, rfl, sla_ofH (s3 _ _ h2s) htake fun p1 H4 s4 hp1 => ⟨v', rfl, (by show 1 ≤ sizeLine; decide), fun p2 hp2 => ?_⟩⟩
          have n2 : Same H4 (upd H4 p2 (.tup [v'])) := same_new hp2
          refine cata_ofH (n2 _ _ hp1) upd_same (small24 (by rw [List.length_singleton]; omega)) fun p3 H5 s5 hp3 => ?_
          have s35 : Same H3 H5 := (s4.trans n2).trans s5
          refine ⟨.ref c, rfl, .ref Dt, rfl, Dt, _, 0, _, rfl, rfl, .of (s35 _ _ hDt3), at0, _, _, rfl, rfl, _, rfl, ?_⟩
          refine sla_ofH (s35 _ _ (s3 _ _ h2s)) hdrop fun p4 H6 s6 hp4 => ?_
          refine cata_ofH (s6 _ _ hp3) hp4 (small24 (by rw [List.length_append, List.length_singleton]; omega)) fun p5 H7 s7 hp5 => ⟨(by show 2 ≤ sizeLine; decide), fun pr hpr => ?_⟩
          have n8 : Same H7 (upd H7 pr (.tup [.str (wd b), .ref p5])) := same_new hpr
          have s38 : Same H3 (upd H7 pr (.tup [.str (wd b), .ref p5])) := ((s35.trans s6).trans s7).trans n8
          refine q _ _ (s23.trans s38) ?_
          rw [hone, hjm]
          show TA _ _ (.nd b (X ++ t' :: Y))
          refine TA_nd.mpr ⟨pr, p5, _, rfl, upd_same, n8 _ _ hp5, ?_⟩
          rw [List.append_assoc]
          exact (hUX.to (s3.trans s38)).app (TAs_cons.mpr ⟨v', uY, rfl, hTv.to s38, hUY.to (s3.trans s38)⟩)
      · -- more touched parts
        have hmore := PQ.joined_more d' hc
        have hX := fun p hp => PQ.lead_none (S := S) (ps := ps) p hp
        have hY := fun p hp => PQ.trail_none (S := S) (ps := ps) p hp
        have hjr : PQ.joinedRow S (PQ.split S) ps = if ∀ p ∈ mid, PQ.share S p = .all then (PQ.rowSeg S (PQ.split S) (f0 :: (mid ++ [l0]))).map fun L => PQ.mkRow (PQ.lead S ps ++ (L ++ PQ.trail S ps)) else none := by
          unfold PQ.joinedRow
          rw [hc, List.tail_cons, List.dropLast_concat]
        rw [hc] at hpe
        have hDt' := hDt
        rw [hpe] at hDt'
        obtain ⟨m0, ht0⟩ := tchs_two hX hY hf0 hl0
        rw [ht0] at hDt'
        refine ⟨.ref Dt, rfl, Dt, _, rfl, .inl (.of hDt'), rfl, false, congrArg V.bl (decide_eq_false fun e => ?_), iteF ?_⟩
        · have := V.int.inj e
          simp at this
          omega
        have h3s := h3.to s2
        have s2' := s2
        cases b with
        | false =>
          refine ⟨_, rfl, rfl, true, by decide +kernel, iteT ?_⟩
          refine ⟨.ref c, rfl, .ref a, rfl, c, a, S, ws, ps, rfl, .of (s2 _ _ h2), h3s, s2.seqT hS, hk, by omega, fun v' H' sm hTO => q v' H' (s2.trans sm) ?_⟩
          rw [hmore]
          exact hTO
        | true =>
          refine ⟨_, rfl, rfl, false, by decide +kernel, iteF ?_⟩
          rw [if_pos rfl, hjr] at hmore
          refine ⟨.ref c, rfl, .ref a, rfl, c, a, S, ws, PQ.lead S ps, PQ.trail S ps, mid, f0, l0, rfl, .of (s2 _ _ h2), by rw [← hpe]; exact h3s, s2.seqT hS, by rw [← hpe]; exact hk, by rw [← hpe]; omega, hX, hY, hf0, hl0, fun v' H' r sm hTO r1 r2 => q v' H' (s2.trans sm) ?_⟩
          rw [hmore]
          by_cases hA : ∀ p ∈ mid, PQ.share S p = .all
          · rw [if_pos hA, ← r1 hA]; exact hTO
          · rw [if_neg hA, ← r2 hA]; exact hTO
end
end Wk
namespace PQ
theorem cntL_take {ps : List T} {i : Nat} {p : T} (h : ps[i]? = some p) : cntL (ps.take (i + 1)) = cntL (ps.take i) * cnt p := by
  rw [List.take_add_one, h, cntL_append]
  show _ * cntL [p] = _
  rw [cntL_one]
/-- sets of things below n -/
theorem vs_of {n : Nat} {ss : List (List Int)} (h : ∀ S ∈ ss, ∀ x ∈ S, 0 ≤ x ∧ x < (n : Int)) : VS n ss := fun S hS x hx => mem_rng.mpr (h S hS x hx)
end PQ
namespace Wk
open PySem PySem.Spec PyProof.Rows L2
open PQ (T)
theorem Ov.of_good {n : Nat} {t : T} (h1 : 1 ≤ n) (h2 : n ≤ 24) (g : PQ.Good n t) : Ov n t := ⟨h1, h2, g.wf, g.perm⟩
theorem Ov.norm {n : Nat} {t : T} (h : Ov n t) : PQ.Good n (PQ.norm t) := PQ.norm_good h.2.2.1 h.2.2.2
theorem TO.tree {H : Hp} {v : V} {t : T} (h : TO H v (some t)) : TA H v t := h
theorem setOk_rng {n : Nat} {S : List Int} (h : SetOk (n : Int) S) : ∀ x ∈ S, x ∈ PQ.rng n := fun x hx => PQ.mem_rng.mpr (h.1 x hx)
section
variable {P : Program} {w : World} {K : PySem.W.Frag} {mg : Str → Option Value} {base : Heap}
theorem setsAt_vs {H : Hp} {n : Nat} : ∀ {vs : List V} {ss : List (List Int)}, SetsAt K H (n : Int) vs ss → PQ.VS n ss
  | _, _, .nil => fun S h => by simp at h
  | _, _, .cons ⟨a, _, _, ok⟩ t => fun S h => by
    rcases List.mem_cons.mp h with rfl | h
    · exact setOk_rng ok
    · exact setsAt_vs t S h
/-! ### reduced_by -/
abbrev s_reduced_by : Stmt := topS 38
abbrev n_reduced_by : List Str := ["tree", "chosen", "found"]
abbrev p_reduced_by : List Str := ["tree", "chosen"]
theorem sc_reduced_by : FnScope n_reduced_by p_reduced_by (defScope s_reduced_by) := ⟨rfl, rfl, rfl, by decide +kernel, rfl, by decide +kernel, by decide +kernel⟩
def spRedBy (K : PySem.W.Frag) : Sp := fun vs H Q _ => ∃ (n : Nat) (v : V) (a : Addr) (S : List Int) (t : T), vs = [v, .ref a] ∧ TA H v t ∧ Ov n t ∧ SqT K H a (iL S) ∧ (∀ x ∈ S, x ∈ PQ.rng n) ∧ ∀ v' H', Same H H' → TO H' v' (PQ.reducedBy S t) → Q v' H'
theorem c_reduced_by (T : Txt K mg) (t : Tx K mg "reduced_by" s_reduced_by p_reduced_by) (c_normalized : Cb P w K mg base 50 "normalized" p_normalized (spNorm 24)) (c_joined : Cb P w K mg base 101 "joined" p_joined (spJoined K 24)) : Cb P w K mg base 102 "reduced_by" p_reduced_by (spRedBy K) := by
  refine t.cb sc_reduced_by (fun vs H Q E h => ?_) (fun f cdv A outer s H vs Q E hr h => ?_)
  · obtain ⟨n, v, a, S, t, rfl, _⟩ := h; rfl
  obtain ⟨n, v, a, S, t, rfl, hT, ov, hS, hr0, q⟩ := h
  have nd := sc_reduced_by.nd
  refine ⟨_, (pss_cons (ps_if (pt_cmpR op_lt (pe_callB call_len_seq (by rfl) T.n_len PySem.boot_len (pa_cons (pv 1) pa_nil)) pe_int (nomark _))
      (pss_one (ps_ret (pe_user c_normalized hr (by omega) (pa_cons (pv 0) pa_nil))))
      pss_nil)
    (pss_cons (ps_set (i := 2) nd rfl (Or.inl rfl) (pe_user c_joined hr (by omega) (pa_cons (pv 0) (pa_cons (pv 1) pa_nil))))
    (pss_cons (ps_if (pt_cmpR op_isN (pv 2) pe_non (nomark _))
      (pss_one (ps_ret pe_non))
      pss_nil)
    (pss_one (ps_ret (pe_user c_normalized hr (by omega) (pa_cons (pv 2) pa_nil))))))), ?_⟩
  have hl : (iL S).length = S.length := List.length_map _
  refine ⟨.ref a, rfl, a, _, rfl, .inr hS, _, _, rfl, rfl, _, rfl, ite2 (fun d => ?_) (fun d => ?_)⟩
  · have d' : S.length < 2 := by have : ((iL S).length : Int) < 2 := of_decide_eq_true d; omega
    refine ⟨v, rfl, v, t, rfl, hT, ov.2.2.1, ov.nd, ov.sm.2, Nat.le_refl _, fun v' H' sm tv => q v' H' sm ?_⟩
    unfold PQ.reducedBy
    rw [if_pos d']; exact tv
  have d' : ¬ S.length < 2 := fun e => d (decide_eq_true (by show ((iL S).length : Int) < 2; omega))
  have hh : PQ.Has S (PQ.lst t) := by
    match S, d' with
    | [], d' => exact absurd (by simp) d'
    | x :: r, _ => exact ⟨x, ov.2.2.2.mem_iff.mpr (hr0 x (by simp)), by simp⟩
  have hrb : PQ.reducedBy S t = (PQ.joined S t).map PQ.norm := by
    unfold PQ.reducedBy
    rw [if_neg d']
  refine ⟨v, rfl, .ref a, rfl, v, a, S, t, rfl, hT, hS, ov.2.2.1, ov.sm.2, Nat.le_refl _, hh, fun v1 H1 s1 h1 => ?_⟩
  cases hj : PQ.joined S t with
  | none =>
    rw [hj] at h1
    cases (show v1 = .non from h1)
    refine ⟨_, rfl, rfl, true, rfl, iteT (q .non H1 s1 ?_)⟩
    rw [hrb, hj]; rfl
  | some t' =>
    rw [hj] at h1
    have hT1 : TA H1 v1 t' := h1
    have hp := (PQ.joined_perm ov.2.2.1 hh hj).trans ov.2.2.2
    have ov' : Ov n t' := ⟨ov.1, ov.2.1, PQ.joined_wf S t ov.2.2.1 hh t' hj, hp⟩
    refine ⟨_, rfl, rfl, false, congrArg V.bl (decide_eq_false hT1.ne_non), iteF ?_⟩
    refine ⟨v1, rfl, v1, t', rfl, hT1, ov'.2.2.1, ov'.nd, ov'.sm.2, Nat.le_refl _, fun v' H' sm tv => q v' H' (s1.trans sm) ?_⟩
    rw [hrb, hj]; exact tv
/-! ### reduced -/
abbrev s_reduced : Stmt := topS 39
abbrev n_reduced : List Str := ["tree", "chosen"]
abbrev p_reduced : List Str := ["tree", "chosen"]
theorem sc_reduced : FnScope n_reduced p_reduced (defScope s_reduced) := ⟨rfl, rfl, rfl, by decide +kernel, rfl, by decide +kernel, by decide +kernel⟩
def spReduced (K : PySem.W.Frag) : Sp := fun vs H Q _ => ∃ (n : Nat) (v : V) (a : Addr) (S : List Int) (t : T), vs = [v, .ref a] ∧ TA H v t ∧ Ov n t ∧ SqT K H a (iL S) ∧ SetOk (n : Int) S ∧ ∀ v' H', Same H H' → TO H' v' (PQ.reducedBy S t) → Q v' H'
theorem c_reduced (T : Txt K mg) (t : Tx K mg "reduced" s_reduced p_reduced) (c_need_tree : Cb P w K mg base 27 "need_tree" p_need_tree spNeed) (c_listed : Cb P w K mg base 25 "listed" p_listed (spListed 24)) (c_check_set : Cb P w K mg base 2 "check_set" p_check_set (spCheckSet K)) (c_reduced_by : Cb P w K mg base 102 "reduced_by" p_reduced_by (spRedBy K)) :
    Cb P w K mg base 103 "reduced" p_reduced (spReduced K) := by
  refine t.cb sc_reduced (fun vs H Q E h => ?_) (fun f cdv A outer s H vs Q E hr h => ?_)
  · obtain ⟨n, v, a, S, t, rfl, _⟩ := h; rfl
  obtain ⟨n, v, a, S, t, rfl, hT, ov, hS, ok, q⟩ := h
  have nd := sc_reduced.nd
  refine ⟨_, (pss_cons (ps_expr (pe_user c_need_tree hr (by omega) (pa_cons (pv 0) pa_nil)))
    (pss_cons (ps_expr (pe_user c_check_set hr (by omega) (pa_cons (pe_callB call_len_seq (by rfl) T.n_len PySem.boot_len (pa_cons (pe_user c_listed hr (by omega) (pa_cons (pv 0) pa_nil)) pa_nil)) (pa_cons (pv 1) pa_nil))))
    (pss_one (ps_ret (pe_user c_reduced_by hr (by omega) (pa_cons (pv 0) (pa_cons (pv 1) pa_nil))))))), ?_⟩
  refine ⟨v, rfl, n, v, t, rfl, hT, ov, fun H1 s1 => ?_⟩
  refine ⟨v, rfl, v, t, rfl, hT.to s1, ov.2.2.1, ov.sm.2, Nat.le_refl _, fun p H2 s2 hp0 hp => ?_⟩
  have s12 := s1.trans s2
  have hl : ((iL (PQ.lst t)).length : Int) = (n : Int) := by rw [List.length_map, ov.len]
  refine ⟨p, _, rfl, .inl (.of hp), .ref a, rfl, (n : Int), a, S, by rw [hl]; rfl, s12.seqT hS, ok, ov.siz, fun H3 s3 => ?_⟩
  have s13 := s12.trans s3
  exact ⟨v, rfl, .ref a, rfl, n, v, a, S, t, rfl, hT.to s13, ov, s13.seqT hS, setOk_rng ok, fun v' H' sm h => q v' H' (s13.trans sm) h⟩
/-! ### reduced_by_all -/
abbrev s_reduced_by_all : Stmt := topS 40
abbrev n_reduced_by_all : List Str := ["tree", "sets", "chosen"]
abbrev p_reduced_by_all : List Str := ["tree", "sets"]
theorem sc_reduced_by_all : FnScope n_reduced_by_all p_reduced_by_all (defScope s_reduced_by_all) := ⟨rfl, rfl, rfl, by decide +kernel, rfl, by decide +kernel, by decide +kernel⟩
def spRedAll (K : PySem.W.Frag) : Sp := fun vs H Q _ => ∃ (n : Nat) (v : V) (a : Addr) (us : List V) (ss : List (List Int)) (t : T), vs = [v, .ref a] ∧ TA H v t ∧ Ov n t ∧ SqT K H a us ∧ RefsAt K H us ss ∧ PQ.VS n ss ∧ ∀ v' H', Same H H' → TO H' v' (PQ.redAll t ss) → Q v' H'
theorem c_reduced_by_all (T : Txt K mg) (t : Tx K mg "reduced_by_all" s_reduced_by_all p_reduced_by_all) (c_reduced_by : Cb P w K mg base 102 "reduced_by" p_reduced_by (spRedBy K)) : Cb P w K mg base 103 "reduced_by_all" p_reduced_by_all (spRedAll K) := by
  refine t.cb sc_reduced_by_all (fun vs H Q E h => ?_) (fun f cdv A outer s H vs Q E hr h => ?_)
  · obtain ⟨n, v, a, us, ss, t, rfl, _⟩ := h; rfl
  obtain ⟨n, v, a, us, ss, t, rfl, hT, ov, hU, hR, hV, q⟩ := h
  have nd := sc_reduced_by_all.nd
  refine ⟨_, (pss_cons (ps_for PassesOwn.never rfl (pi_tup (pv 1)) (pg_name (i := 2) nd rfl (Or.inl rfl))
      (pss_cons (ps_set (i := 0) nd rfl (Or.inl rfl) (pe_user c_reduced_by hr (by omega) (pa_cons (pv 0) (pa_cons (pv 2) pa_nil))))
      (pss_one (ps_if (pt_cmpR op_isN (pv 0) pe_non (nomark _))
        (pss_one (ps_ret pe_non))
        pss_nil))))
    (pss_one (ps_ret (pv 0)))), ?_⟩
  have hlen := hR.length
  refine ⟨.ref a, rfl, a, rfl, ⟨us, hU⟩, ?_⟩
  refine for_tup (xs := us) (fun i σ H' => ∃ v' z t', σ = [some v', some (.ref a), z] ∧ Same H H' ∧ TA H' v' t' ∧ Ov n t' ∧ PQ.redAll t (ss.take i) = some t') ⟨v, none, t, rfl, Same.refl H, hT, ov, by rw [List.take_zero]; rfl⟩ (fun i σ H' _ hP => ?_) (fun i x σ H' hx hP => ?_) (fun σ H' hP => ?_)
  · obtain ⟨v', z, t', rfl, sm, _⟩ := hP
    exact sm.seqT hU
  · obtain ⟨v', z, t', rfl, sm, hT', ov', hred⟩ := hP
    obtain ⟨b, S, hS0, rfl, hS⟩ := hR.get hx
    have hSr := hV S (List.mem_of_getElem? hS0)
    have hmore : PQ.redAll t (ss.take (i + 1)) = PQ.reducedBy S t' := by
      rw [List.take_add_one, hS0, PQ.redAll_append, hred]
      show PQ.redAll t' [S] = _
      rw [PQ.redAll_one]
    refine ⟨v', rfl, .ref b, rfl, n, v', b, S, t', rfl, hT', ov', sm.seqT hS, hSr, fun v2 H2 s2 h2 => ?_⟩
    have hspec := PQ.reducedBy_spec ov'.2.2.1 ov'.2.2.2 hSr
    cases hrb : PQ.reducedBy S t' with
    | none =>
      rw [hrb] at h2
      cases (show v2 = .non from h2)
      refine ⟨_, rfl, rfl, true, rfl, iteT (q .non H2 (sm.trans s2) ?_)⟩
      have e : ss = ss.take (i + 1) ++ ss.drop (i + 1) := (List.take_append_drop _ _).symm
      rw [e, PQ.redAll_append, hmore, hrb]; rfl
    | some t2 =>
      rw [hrb] at h2 hspec
      have hT2 : TA H2 v2 t2 := h2
      have g : PQ.Good n t2 := hspec.1
      refine ⟨_, rfl, rfl, false, congrArg V.bl (decide_eq_false hT2.ne_non), iteF ⟨v2, _, t2, rfl, sm.trans s2, hT2, .of_good ov.1 ov.2.1 g, by rw [hmore, hrb]⟩⟩
  · obtain ⟨v', z, t', rfl, sm, hT', ov', hred⟩ := hP
    rw [List.take_of_length_le (by omega)] at hred
    exact ⟨v', rfl, q v' H' sm (by rw [hred]; exact hT')⟩
/-! ### tree_of -/
abbrev s_tree_of : Stmt := topS 41
abbrev n_tree_of : List Str := ["n", "sets"]
abbrev p_tree_of : List Str := ["n", "sets"]
theorem sc_tree_of : FnScope n_tree_of p_tree_of (defScope s_tree_of) := ⟨rfl, rfl, rfl, by decide +kernel, rfl, by decide +kernel, by decide +kernel⟩
def spTreeOf (K : PySem.W.Frag) : Sp := fun vs H Q _ => ∃ (n : Nat) (a : Addr) (ss : List (List Int)), vs = [.int n, .ref a] ∧ 1 ≤ n ∧ n ≤ 24 ∧ TabAt K H (n : Int) a ss ∧ ss.length ≤ 40 ∧ ∀ v' H', Same H H' → TO H' v' (PQ.treeOf n ss) → Q v' H'
theorem c_tree_of (T : Txt K mg) (t : Tx K mg "tree_of" s_tree_of p_tree_of) (c_check_table : Cb P w K mg base 3 "check_table" p_check_table (spTable K)) (c_plain_tree : Cb P w K mg base 3 "plain_tree" p_plain_tree spPlain) (c_reduced_by_all : Cb P w K mg base 103 "reduced_by_all" p_reduced_by_all (spRedAll K)) :
    Cb P w K mg base 104 "tree_of" p_tree_of (spTreeOf K) := by
  refine t.cb sc_tree_of (fun vs H Q E h => ?_) (fun f cdv A outer s H vs Q E hr h => ?_)
  · obtain ⟨n, a, ss, rfl, _⟩ := h; rfl
  obtain ⟨n, a, ss, rfl, h1, h2, hT, h40, q⟩ := h
  have nd := sc_tree_of.nd
  refine ⟨_, (pss_cons (ps_expr (pe_user c_check_table hr (by omega) (pa_cons (pv 0) (pa_cons (pv 1) pa_nil))))
    (pss_one (ps_ret (pe_user c_reduced_by_all hr (by omega) (pa_cons (pe_user c_plain_tree hr (by omega) (pa_cons (pv 0) pa_nil)) (pa_cons (pv 1) pa_nil)))))), ?_⟩
  refine ⟨_, rfl, .ref a, rfl, (n : Int), a, ss, rfl, hT, ⟨by omega, by omega⟩, h40, fun H1 s1 => ?_⟩
  refine ⟨_, rfl, n, rfl, h1, h2, fun v H2 s2 tv => ?_⟩
  have s12 := s1.trans s2
  obtain ⟨us, hU, hA⟩ := hT.to s12
  exact ⟨.ref a, rfl, n, v, a, us, ss, PQ.plain n, rfl, tv, .of_good h1 h2 (PQ.plain_good h1), hU, refsAt_of hA, setsAt_vs hA, fun v' H' sm h => q v' H' (s12.trans sm) h⟩
/-! ### common -/
abbrev s_common : Stmt := topS 42
abbrev n_common : List Str := ["tree", "other"]
abbrev p_common : List Str := ["tree", "other"]
theorem sc_common : FnScope n_common p_common (defScope s_common) := ⟨rfl, rfl, rfl, by decide +kernel, rfl, by decide +kernel, by decide +kernel⟩
def spCommon : Sp := fun vs H Q _ => ∃ (n : Nat) (v : V) (u : V) (t : T) (g : T), vs = [v, u] ∧ TA H v t ∧ Ov n t ∧ TA H u g ∧ PQ.Good n g ∧ ∀ v' H' ss, Same H H' → (∀ S, S ∈ ss ↔ S ∈ PQ.csets g) → TO H' v' (PQ.redAll (PQ.norm t) ss) → Q v' H'
theorem c_common (T : Txt K mg) (t : Tx K mg "common" s_common p_common) (c_need_tree : Cb P w K mg base 27 "need_tree" p_need_tree spNeed) (c_listed : Cb P w K mg base 25 "listed" p_listed (spListed 24)) (c_check_tree : Cb P w K mg base 26 "check_tree" p_check_tree spCheckTree)
    (c_normalized : Cb P w K mg base 50 "normalized" p_normalized (spNorm 24)) (c_sets_of : Cb P w K mg base 51 "sets_of" p_sets_of (spSetsOf K)) (c_reduced_by_all : Cb P w K mg base 103 "reduced_by_all" p_reduced_by_all (spRedAll K)) :
    Cb P w K mg base 104 "common" p_common spCommon := by
  refine t.cb sc_common (fun vs H Q E h => ?_) (fun f cdv A outer s H vs Q E hr h => ?_)
  · obtain ⟨n, v, u, t, g, rfl, _⟩ := h; rfl
  obtain ⟨n, v, u, t, g, rfl, hT, ov, hG, gd, q⟩ := h
  have nd := sc_common.nd
  refine ⟨_, (pss_cons (ps_expr (pe_user c_need_tree hr (by omega) (pa_cons (pv 0) pa_nil)))
    (pss_cons (ps_expr (pe_user c_check_tree hr (by omega) (pa_cons (pe_callB call_len_seq (by rfl) T.n_len PySem.boot_len (pa_cons (pe_user c_listed hr (by omega) (pa_cons (pv 0) pa_nil)) pa_nil)) (pa_cons (pv 1) pa_nil))))
    (pss_one (ps_ret (pe_user c_reduced_by_all hr (by omega) (pa_cons (pe_user c_normalized hr (by omega) (pa_cons (pv 0) pa_nil)) (pa_cons (pe_user c_sets_of hr (by omega) (pa_cons (pv 1) pa_nil)) pa_nil))))))), ?_⟩
  have og : Ov n g := .of_good ov.1 ov.2.1 gd
  refine ⟨v, rfl, n, v, t, rfl, hT, ov, fun H1 s1 => ?_⟩
  refine ⟨v, rfl, v, t, rfl, hT.to s1, ov.2.2.1, ov.sm.2, Nat.le_refl _, fun p H2 s2 hp0 hp => ?_⟩
  have s12 := s1.trans s2
  have hl : ((iL (PQ.lst t)).length : Int) = (n : Int) := by rw [List.length_map, ov.len]
  refine ⟨p, _, rfl, .inl (.of hp), u, rfl, n, u, g, by rw [hl]; rfl, hG.to s12, og, fun H3 s3 => ?_⟩
  have s13 := s12.trans s3
  refine ⟨v, rfl, v, t, rfl, hT.to s13, ov.2.2.1, ov.nd, ov.sm.2, Nat.le_refl _, fun v1 H4 s4 tv => ?_⟩
  have s14 := s13.trans s4
  refine ⟨u, rfl, n, u, g, rfl, hG.to s14, og, fun a us ss H5 s5 hU hR _ hm => ?_⟩
  exact ⟨n, v1, a, us, ss, PQ.norm t, rfl, tv.to s5, .of_good ov.1 ov.2.1 ov.norm, hU, hR, PQ.csets_rng gd hm, fun v' H' sm h => q v' H' ss ((s14.trans s5).trans sm) hm h⟩
/-! ### is_always_together -/
abbrev s_is_always_together : Stmt := topS 44
abbrev n_is_always_together : List Str := ["tree", "chosen"]
abbrev p_is_always_together : List Str := ["tree", "chosen"]
theorem sc_is_always_together : FnScope n_is_always_together p_is_always_together (defScope s_is_always_together) := ⟨rfl, rfl, rfl, by decide +kernel, rfl, by decide +kernel, by decide +kernel⟩
def spAlways (K : PySem.W.Frag) : Sp := fun vs H Q _ => ∃ (n : Nat) (v : V) (a : Addr) (S : List Int) (t : T), vs = [v, .ref a] ∧ TA H v t ∧ Ov n t ∧ SqT K H a (iL S) ∧ SetOk (n : Int) S ∧ ∀ b H', Same H H' → (b = true ↔ PQ.reducedBy S t = some (PQ.norm t)) → Q (.bl b) H'
theorem red_shaped {n : Nat} {t : PQ.T} (ov : Ov n t) {S : List Int} (hS : ∀ x ∈ S, x ∈ PQ.rng n) : ∀ t', PQ.reducedBy S t = some t' → PQ.Good n t' := fun t' e => by
  have h := PQ.reducedBy_spec ov.2.2.1 ov.2.2.2 hS
  rw [e] at h
  exact h.1
theorem c_is_always_together (T : Txt K mg) (t : Tx K mg "is_always_together" s_is_always_together p_is_always_together) (c_reduced : Cb P w K mg base 103 "reduced" p_reduced (spReduced K)) (c_normalized : Cb P w K mg base 50 "normalized" p_normalized (spNorm 24)) :
    Cb P w K mg base 104 "is_always_together" p_is_always_together (spAlways K) := by
  refine t.cb sc_is_always_together (fun vs H Q E h => ?_) (fun f cdv A outer s H vs Q E hr h => ?_)
  · obtain ⟨n, v, a, S, t, rfl, _⟩ := h; rfl
  obtain ⟨n, v, a, S, t, rfl, hT, ov, hS, ok, q⟩ := h
  have nd := sc_is_always_together.nd
  refine ⟨_, (pss_one (ps_ret (pe_cmpR (op_eqD hr.units) (pe_user c_reduced hr (by omega) (pa_cons (pv 0) (pa_cons (pv 1) pa_nil))) (pe_user c_normalized hr (by omega) (pa_cons (pv 0) pa_nil)) (nomark _)))), ?_⟩
  refine ⟨v, rfl, .ref a, rfl, n, v, a, S, t, rfl, hT, ov, hS, ok, fun v1 H1 s1 h1 => ?_⟩
  refine ⟨v, rfl, v, t, rfl, hT.to s1, ov.2.2.1, ov.nd, ov.sm.2, Nat.le_refl _, fun v2 H2 s2 tv => ?_⟩
  have hg := ov.norm
  refine ⟨_, _, (h1.to s2).dp, TO.dp (o := some (PQ.norm t)) tv, shaped_pdO fun t' e => ?_, shaped_pdO (o := some (PQ.norm t)) fun t' e => ?_, q _ H2 (s1.trans s2) ?_⟩
  · have g := red_shaped ov (setOk_rng ok) t' e
    exact (Ov.of_good ov.1 ov.2.1 g).sm
  · cases e
    exact (Ov.of_good ov.1 ov.2.1 hg).sm
  · exact eqv_pdO
/-! ### count -/
abbrev s_factorial : Stmt := topS 46
abbrev n_factorial : List Str := ["k", "product", "number"]
abbrev p_factorial : List Str := ["k"]
theorem sc_factorial : FnScope n_factorial p_factorial (defScope s_factorial) := ⟨rfl, rfl, rfl, by decide +kernel, rfl, by decide +kernel, by decide +kernel⟩
def spFact : Sp := fun vs H Q _ => ∃ k : Nat, vs = [.int k] ∧ k ≤ 24 ∧ Q (.int (PQ.fact k : Nat)) H
theorem c_factorial (T : Txt K mg) (t : Tx K mg "factorial" s_factorial p_factorial) : Cb P w K mg base 1 "factorial" p_factorial spFact := by
  refine t.cb sc_factorial (fun vs H Q E h => ?_) (fun f cdv A outer s H vs Q E hr h => ?_)
  · obtain ⟨k, rfl, _⟩ := h; rfl
  obtain ⟨k, rfl, hk, q⟩ := h
  have nd := sc_factorial.nd
  refine ⟨_, (pss_cons (ps_set (i := 1) nd rfl (Or.inl rfl) pe_int)
    (pss_cons (ps_for PassesOwn.never rfl (pi_range2 (by rfl) T.n_range (pa_cons pe_int (pa_cons (pe_op op_add (pv 0) pe_int) pa_nil))) (pg_name (i := 2) nd rfl (Or.inl rfl))
      (pss_one (ps_aug (i := 1) nd rfl (Or.inl rfl) (pv 2) ip_mul)))
    (pss_one (ps_ret (pv 1))))), ?_⟩
  refine ⟨_, rfl, _, _, rfl, rfl, 2, _, rfl, ⟨by decide, by decide, by omega, by omega⟩, ?_⟩
  refine for_range (lo := 2) (n := (((k : Nat) : Int) + 1 - 2).toNat) (fun i σ H' => ∃ z, σ = [some (.int k), some (.int (PQ.fact (i + 1) : Nat)), z] ∧ H' = H) ⟨none, rfl, rfl⟩ (fun i σ H' hi hP => ?_) (fun σ H' hP => ?_)
  · obtain ⟨z, rfl, rfl⟩ := hP
    refine ⟨_, rfl, _, rfl, _, _, rfl, rfl, .inr ⟨by omega, by omega⟩, some (.int (2 + (i : Int))), ?_, rfl⟩
    have e : ((PQ.fact (i + 1 + 1) : Nat) : Int) = ((PQ.fact (i + 1) : Nat) : Int) * (2 + (i : Int)) := by
      rw [PQ.fact_succ (i + 1), Int.natCast_mul, Int.mul_comm]
      congr 1
      omega
    rw [e]; rfl
  · obtain ⟨z, rfl, rfl⟩ := hP
    refine ⟨_, rfl, ?_⟩
    have e : PQ.fact ((((k : Nat) : Int) + 1 - 2).toNat + 1) = PQ.fact k := by
      match k with
      | 0 => rfl
      | 1 => rfl
      | k + 2 => congr 1; omega
    rw [e]; exact q
abbrev s_sequences : Stmt := topS 47
abbrev n_sequences : List Str := ["tree"]
abbrev p_sequences : List Str := ["tree"]
theorem sc_sequences : FnScope n_sequences p_sequences (defScope s_sequences) := ⟨rfl, rfl, rfl, by decide +kernel, rfl, by decide +kernel, by decide +kernel⟩
def spSeqs : Sp := fun vs H Q _ => ∃ v b ps, vs = [v] ∧ TA H v (.nd b ps) ∧ ps.length ≤ 24 ∧ Q (.int ((if b = true then 2 else PQ.fact ps.length : Nat) : Int)) H
theorem c_sequences (T : Txt K mg) (t : Tx K mg "sequences" s_sequences p_sequences) (c_factorial : Cb P w K mg base 1 "factorial" p_factorial spFact) : Cb P w K mg base 2 "sequences" p_sequences spSeqs := by
  refine t.cb sc_sequences (fun vs H Q E h => ?_) (fun f cdv A outer s H vs Q E hr h => ?_)
  · obtain ⟨v, b, ps, rfl, _⟩ := h; rfl
  obtain ⟨v, b, ps, rfl, hT, hl, q⟩ := h
  refine ⟨_, (pss_cons (ps_if (pt_cmpR op_eq (pe_ix ix_tup (pv 0) pe_int (fun _ _ => rfl)) pe_str (nomark _))
      (pss_one (ps_ret (pe_user c_factorial hr (by omega) (pa_cons (pe_callB call_len_seq (by rfl) T.n_len PySem.boot_len (pa_cons (pe_ix ix_tup (pv 0) pe_int (fun _ _ => rfl)) pa_nil)) pa_nil))))
      pss_nil)
    (pss_one (ps_ret pe_int))), ?_⟩
  obtain ⟨a, c, ws, rfl, h1, h2, h3⟩ := TA_nd.mp hT
  have s1 := atI_nat (j := 1) (xs := [V.str (wd b), V.ref c]) rfl
  have s0 := atI_nat (j := 0) (xs := [V.str (wd b), V.ref c]) rfl
  have hlen := h3.len
  cases b with
  | false =>
    refine ⟨.ref a, rfl, a, _, 0, _, rfl, rfl, .of h1, s0, rfl, true, by decide +kernel, iteT ?_⟩
    refine ⟨.ref a, rfl, a, _, 1, _, rfl, rfl, .of h1, s1, c, ws, rfl, .inr (.of h2), ws.length, rfl, by omega, ?_⟩
    rw [hlen]; exact q
  | true => exact ⟨.ref a, rfl, a, _, 0, _, rfl, rfl, .of h1, s0, rfl, false, by decide +kernel, iteF q⟩
abbrev s_counted : Stmt := topS 48
abbrev n_counted : List Str := ["tree", "product", "part"]
abbrev p_counted : List Str := ["tree"]
theorem sc_counted : FnScope n_counted p_counted (defScope s_counted) := ⟨rfl, rfl, rfl, by decide +kernel, rfl, by decide +kernel, by decide +kernel⟩
def spCounted (n : Nat) : Sp := fun vs H Q _ => ∃ v t, vs = [v] ∧ TA H v t ∧ PQ.wf t ∧ (PQ.lst t).length ≤ n ∧ n ≤ 12 ∧ Q (.int (PQ.cnt t : Nat)) H
theorem cnt_small {t : PQ.T} (hw : PQ.wf t) (hl : (PQ.lst t).length ≤ 12) : PQ.cnt t < 2 ^ 60 := by
  have h := PQ.cnt_le 12 (by omega) t hw hl
  have h2 : 12 ^ ((PQ.lst t).length - 1) ≤ 12 ^ 11 := Nat.pow_le_pow_right (by omega) (by omega)
  have h3 : 12 ^ 11 < 2 ^ 60 := by decide
  omega
theorem c_counted (T : Txt K mg) (t : Tx K mg "counted" s_counted p_counted) (c_is_thing : Cb P w K mg base 1 "is_thing" p_is_thing spThing) (c_sequences : Cb P w K mg base 2 "sequences" p_sequences spSeqs) : ∀ n, Cb P w K mg base (n + 3) "counted" p_counted (spCounted n) := by
  intro n
  induction n with
  | zero =>
    obtain ⟨f, fd, F, b, m⟩ := t
    refine ⟨f, fd, ⟨fun vs H Q E h => ?_, fun A outer s H args us vs Q E _ _ _ _ h => ?_⟩, m, F.kp, b⟩
    · obtain ⟨v, t, rfl, _⟩ := h; rfl
    · obtain ⟨v, t, rfl, _, hw, hl, _⟩ := h
      have := PQ.len_pos hw
      omega
  | succ n ih =>
    have e3 : n + 1 + 3 = (n + 3) + 1 := by omega
    rw [e3]
    refine t.cb sc_counted (fun vs H Q E h => ?_) (fun f cdv A outer s H vs Q E hr h => ?_)
    · obtain ⟨v, t, rfl, _⟩ := h; rfl
    obtain ⟨v, t, rfl, hT, hw, hl, h12, q⟩ := h
    have nd := sc_counted.nd
    have c_counted := ih
    refine ⟨_, (pss_cons (ps_if (pt_val (pe_user c_is_thing hr (by omega) (pa_cons (pv 0) pa_nil)))
      (pss_one (ps_ret pe_int))
      pss_nil)
    (pss_cons (ps_set (i := 1) nd rfl (Or.inl rfl) (pe_user c_sequences hr (by omega) (pa_cons (pv 0) pa_nil)))
    (pss_cons (ps_for PassesOwn.never rfl (pi_tup (pe_ix ix_tup (pv 0) pe_int (fun _ _ => rfl))) (pg_name (i := 2) nd rfl (Or.inl rfl))
      (pss_one (ps_aug (i := 1) nd rfl (Or.inl rfl) (pe_user c_counted hr (by omega) (pa_cons (pv 2) pa_nil)) ip_mul)))
    (pss_one (ps_ret (pv 1)))))), ?_⟩
    refine ⟨_, rfl, _, _, rfl, thV_of hT, _, rfl, ?_⟩
    cases t with
    | th i => exact iteT (by rw [PQ.cnt_th] at q; exact q)
    | nd b ps =>
      have hT0 := hT
      obtain ⟨a, c, ws, rfl, h1, h2, h3⟩ := TA_nd.mp hT
      obtain ⟨l2, l3, hk⟩ := PQ.wf_nd.mp hw
      rw [PQ.lst_nd] at hl
      have hlen := h3.len
      have hkl := PQ.kids_len hk
      have s1 := atI_nat (j := 1) (xs := [V.str (wd b), V.ref c]) rfl
      refine iteF ⟨_, rfl, .ref a, b, ps, rfl, hT0, by omega, ?_⟩
      generalize hsq : (if b = true then 2 else PQ.fact ps.length : Nat) = sq
      refine ⟨.ref a, rfl, a, _, 1, _, rfl, rfl, .of h1, s1, c, rfl, ⟨ws, .of h2⟩, ?_⟩
      refine for_tup (xs := ws) (fun i σ H' => ∃ z, σ = [some (.ref a), some (.int ((sq * PQ.cntL (ps.take i) : Nat) : Int)), z] ∧ H' = H) ⟨none, by rw [List.take_zero, PQ.cntL_nil, Nat.mul_one]; rfl, rfl⟩ (fun i σ H' _ hP => ?_) (fun i x σ H' hx hP => ?_) (fun σ H' hP => ?_)
      · obtain ⟨z, rfl, rfl⟩ := hP
        exact .of h2
      · obtain ⟨z, rfl, rfl⟩ := hP
        obtain ⟨p, hp, hTp⟩ := h3.getV hx
        have hpm : p ∈ ps := List.mem_of_getElem? hp
        have hkl2 := PQ.kid_len l2 hk hpm
        have hs := cnt_small (hk p hpm) (by omega)
        refine ⟨_, rfl, x, rfl, x, p, rfl, hTp, hk p hpm, by omega, by omega, _, _, rfl, rfl, .inr ⟨by omega, by omega⟩, some x, ?_, rfl⟩
        rw [PQ.cntL_take hp, ← Nat.mul_assoc, Int.natCast_mul (sq * _)]; rfl
      · obtain ⟨z, rfl, rfl⟩ := hP
        refine ⟨_, rfl, ?_⟩
        rw [List.take_of_length_le (by omega)]
        have e : sq * PQ.cntL ps = PQ.cnt (.nd b ps) := by
          subst hsq
          cases b with
          | false => rw [PQ.cnt_any]; rfl
          | true => rw [PQ.cnt_row]; rfl
        rw [e]; exact q
abbrev s_count : Stmt := topS 49
abbrev n_count : List Str := ["tree"]
abbrev p_count : List Str := ["tree"]
theorem sc_count : FnScope n_count p_count (defScope s_count) := ⟨rfl, rfl, rfl, by decide +kernel, rfl, by decide +kernel, by decide +kernel⟩
def spCount : Sp := fun vs H Q _ => ∃ (n : Nat) (v : V) (t : T), vs = [v] ∧ TA H v t ∧ Ov n t ∧ n ≤ 12 ∧ ∀ H', Same H H' → Q (.int (PQ.cnt t : Nat)) H'
theorem c_count (T : Txt K mg) (t : Tx K mg "count" s_count p_count) (c_need_tree : Cb P w K mg base 27 "need_tree" p_need_tree spNeed) (c_counted : Cb P w K mg base 15 "counted" p_counted (spCounted 12)) : Cb P w K mg base 28 "count" p_count spCount := by
  refine t.cb sc_count (fun vs H Q E h => ?_) (fun f cdv A outer s H vs Q E hr h => ?_)
  · obtain ⟨n, v, t, rfl, _⟩ := h; rfl
  obtain ⟨n, v, t, rfl, hT, ov, h12, q⟩ := h
  refine ⟨_, (pss_cons (ps_expr (pe_user c_need_tree hr (by omega) (pa_cons (pv 0) pa_nil)))
    (pss_one (ps_ret (pe_user c_counted hr (by omega) (pa_cons (pv 0) pa_nil))))), ?_⟩
  exact ⟨v, rfl, n, v, t, rfl, hT, ov, fun H1 s1 => ⟨v, rfl, v, t, rfl, hT.to s1, ov.2.2.1, by rw [ov.len]; exact h12, Nat.le_refl _, q H1 s1⟩⟩
end
end Wk
namespace Wk
open PySem PySem.Spec PyProof.Rows L2
open PQ (T)
theorem iL_get {l : List Int} {i : Nat} {x : V} (h : (iL l)[i]? = some x) : ∃ y, l[i]? = some y ∧ V.int y = x := by
  unfold iL at h
  rw [List.getElem?_map] at h
  obtain ⟨y, h1, h2⟩ := Option.map_eq_some_iff.mp h
  exact ⟨y, h1, h2⟩
theorem iL_erase : ∀ (l : List Int) (k : Nat), (iL l).eraseIdx k = iL (l.eraseIdx k)
  | [], k => by simp [iL]
  | x :: r, 0 => by simp [iL]
  | x :: r, k + 1 => by
    have := iL_erase r k
    unfold iL at this ⊢
    rw [List.map_cons, List.eraseIdx_cons_succ, List.eraseIdx_cons_succ, List.map_cons, this]
theorem perm_erase {α : Type} : ∀ {l : List α} {k : Nat} {y : α}, l[k]? = some y → l.Perm (y :: l.eraseIdx k)
  | [], _, _, h => by simp at h
  | x :: r, 0, y, h => by simp at h; subst h; exact .refl _
  | x :: r, k + 1, y, h => by
    have := perm_erase (l := r) (k := k) (y := y) (by simpa using h)
    rw [List.eraseIdx_cons_succ]
    exact (this.cons x).trans (.swap y x _)
theorem seqIdx_nat {n j : Nat} (h : j < n) : seqIndex? (j : Int) n = some j := by
  refine (ixN_seq ?_).1
  unfold ixN
  rw [if_pos (by omega)]
  simp [h]
theorem fmod_in {i j : Int} (h : 0 < j) : 0 ≤ i.fmod j ∧ i.fmod j < j := ⟨Int.fmod_nonneg_of_pos _ h, Int.fmod_lt_of_pos _ h⟩
theorem seqT_mut {K : PySem.W.Frag} {H : Hp} {l a : Addr} {us xs : List V} {o : HO} (hl : H l = some (.lst us)) (h : SqT K H a xs) : SqT K (upd H l o) a xs := by
  rcases h with (h | ⟨q, h⟩) | h
  · refine .inl (.inl ?_)
    rw [upd_ne]
    · exact h
    · rintro rfl; rw [hl] at h; cases h
  · refine .inl (.inr ⟨q, ?_⟩)
    rw [upd_ne]
    · exact h
    · rintro rfl; rw [hl] at h; cases h
  · exact .inr h
theorem setsAt_mut {K : PySem.W.Frag} {H : Hp} {n : Int} {l : Addr} {us : List V} {o : HO} (hl : H l = some (.lst us)) : ∀ {vs : List V} {ss : List (List Int)}, SetsAt K H n vs ss → SetsAt K (upd H l o) n vs ss
  | _, _, .nil => .nil
  | _, _, .cons ⟨a, h1, h2, h3⟩ t => .cons ⟨a, h1, seqT_mut hl h2, h3⟩ (setsAt_mut hl t)
/-- an order of n things -/
def Ord (n : Nat) (O : List Int) : Prop := 1 ≤ n ∧ n ≤ 12 ∧ O.Perm (PQ.rng n)
theorem Ord.len {n : Nat} {O : List Int} (h : Ord n O) : O.length = n := by rw [h.2.2.length_eq, PQ.length_rng]
theorem setOk_sub {n : Nat} {O S T : List Int} (h : Ord n O) (hs : T.Sublist O) (hp : S.Perm T) (hw : S.Pairwise (· ≤ ·)) : SetOk (n : Int) S := by
  have hn : S.Nodup := hp.nodup_iff.mpr (hs.nodup (h.2.2.nodup_iff.mpr (PQ.rng_nodup n)))
  refine ⟨fun x hx => PQ.mem_rng.mp (h.2.2.mem_iff.mp (hs.subset (hp.mem_iff.mp hx))), ?_⟩
  exact (List.pairwise_and_iff.mpr ⟨hw, hn⟩).imp fun h => by
    have := h.1
    have := h.2
    omega
section
variable {P : Program} {w : World} {K : PySem.W.Frag} {mg : Str → Option Value} {base : Heap}
abbrev s__law_cell : Stmt := topS 51
abbrev n__law_cell : List Str := ["_law_script", "_law_k"]
abbrev p__law_cell : List Str := ["_law_script", "_law_k"]
theorem sc__law_cell : FnScope n__law_cell p__law_cell (defScope s__law_cell) := ⟨rfl, rfl, rfl, by decide +kernel, rfl, by decide +kernel, by decide +kernel⟩
def spCell (K : PySem.W.Frag) : Sp := fun vs H Q _ => ∃ (l : Addr) (cs : List Int) (k : Nat), vs = [.ref l, .int k] ∧ SqL K H l (iL cs) ∧ ∀ i, Q (.int i) H
theorem c__law_cell (T : Txt K mg) (t : Tx K mg "_law_cell" s__law_cell p__law_cell) : Cb P w K mg base 1 "_law_cell" p__law_cell (spCell K) := by
  refine t.cb sc__law_cell (fun vs H Q E h => ?_) (fun f cdv A outer s H vs Q E hr h => ?_)
  · obtain ⟨l, cs, k, rfl, _⟩ := h; rfl
  obtain ⟨l, cs, k, rfl, hL, q⟩ := h
  refine ⟨_, (pss_cons (ps_if (pt_cmpR op_lt (pv 1) (pe_callB call_len_seq (by rfl) T.n_len PySem.boot_len (pa_cons (pv 0) pa_nil)) (nomark _))
      (pss_one (ps_ret (pe_ix ix_list (pv 0) (pv 1) (fun _ _ => rfl))))
      pss_nil)
    (pss_one (ps_ret pe_int))), ?_⟩
  have hlen : (iL cs).length = cs.length := List.length_map _
  refine ⟨_, rfl, .ref l, rfl, l, _, rfl, .inl hL, _, _, rfl, rfl, _, rfl, ite2 (fun d => ?_) (fun d => q 0)⟩
  have d' : (k : Int) < ((iL cs).length : Int) := of_decide_eq_true d
  have hk : (iL cs)[k]? = some (.int (cs[k]'(by omega))) := by
    unfold iL
    rw [List.getElem?_map, List.getElem?_eq_getElem (by omega)]; rfl
  exact ⟨.ref l, rfl, _, rfl, l, _, _, _, rfl, rfl, hL, atI_nat hk, q _⟩
abbrev s__law_digits : Stmt := topS 52
abbrev n__law_digits : List Str := ["_law_cell_here", "_law_sizes", "_law_row", "_law_size"]
abbrev p__law_digits : List Str := ["_law_cell_here", "_law_sizes"]
theorem sc__law_digits : FnScope n__law_digits p__law_digits (defScope s__law_digits) := ⟨rfl, rfl, rfl, by decide +kernel, rfl, by decide +kernel, by decide +kernel⟩
def spDigits (K : PySem.W.Frag) : Sp := fun vs H Q _ => ∃ (c : Int) (l : Addr) (L : List Int) (m : Int), vs = [.int c, .ref l] ∧ SqL K H l (iL L) ∧ (∀ s ∈ L, s = m) ∧ 0 < m ∧ m ≤ 24 ∧ L.length ≤ 24 ∧ ∀ D r H', Same H H' → H' D = some (.lst (iL r)) → r.length = L.length → (∀ x ∈ r, 0 ≤ x ∧ x < m) → Q (.ref D) H'
theorem c__law_digits (T : Txt K mg) (t : Tx K mg "_law_digits" s__law_digits p__law_digits) : Cb P w K mg base 1 "_law_digits" p__law_digits (spDigits K) := by
  refine t.cb sc__law_digits (fun vs H Q E h => ?_) (fun f cdv A outer s H vs Q E hr h => ?_)
  · obtain ⟨c, l, L, m, rfl, _⟩ := h; rfl
  obtain ⟨c, l, L, m, rfl, hL, hm, h0, h24, hz, q⟩ := h
  have nd := sc__law_digits.nd
  refine ⟨_, (pss_cons (ps_set (i := 2) nd rfl (Or.inl rfl) (pe_lst pa_nil))
    (pss_cons (ps_for PassesOwn.never rfl (pi_list (pv 1)) (pg_name (i := 3) nd rfl (Or.inl rfl))
      (pss_cons (ps_expr (pe_bm PySem.F.plainAttrs_list PySem.F.slot_list_append PySem.F.type_list_append mt_append (pv 2) (pa_cons (pe_op op_modN (pe_callTy call_int1 (by rfl) T.n_int (by decide +kernel) (pa_cons (pv 0) pa_nil)) (pv 3)) pa_nil)))
      (pss_one (ps_set (i := 0) nd rfl (Or.inl rfl) (pe_op op_fdivN (pv 0) (pv 3))))))
    (pss_one (ps_ret (pv 2))))), ?_⟩
  refine ⟨Nat.zero_le _, fun D hD => ?_⟩
  have k0 : Same H (upd H D (.lst [])) := same_new hD
  refine ⟨.ref l, rfl, l, rfl, ⟨_, k0.seqL hL⟩, ?_⟩
  refine for_list (xs := iL L) (fun i σ H' => ∃ c z r, σ = [some (.int c), some (.ref l), some (.ref D), z] ∧ Same H H' ∧ H' D = some (.lst (iL r)) ∧ r.length = i ∧ ∀ x ∈ r, 0 ≤ x ∧ x < m) ⟨c, none, [], rfl, k0, upd_same, rfl, by simp⟩ (fun i σ H' _ hP => ?_) (fun i x σ H' hx hP => ?_) (fun σ H' hP => ?_)
  · obtain ⟨c, z, r, rfl, sm, _⟩ := hP
    exact sm.seqL hL
  · obtain ⟨c, z, r, rfl, sm, hr1, hr2, hr3⟩ := hP
    obtain ⟨y, hy, rfl⟩ := iL_get hx
    have e := hm y (List.mem_of_getElem? hy)
    subst e
    have hi := (List.getElem?_eq_some_iff.mp hy).1
    have hf := fmod_in (i := c) h0
    refine ⟨.ref D, rfl, .inl ⟨rfl, _, .of hr1⟩, _, rfl, .inl ⟨c, rfl, _, rfl, _, _, rfl, rfl, by omega, D, _, _, rfl, rfl, hr1, ?_, ?_⟩⟩
    · rw [List.length_map]; exact small24' (by omega)
    refine ⟨_, rfl, _, rfl, _, _, rfl, rfl, ⟨by omega, by omega⟩, _, _, r ++ [c.fmod y], rfl, same_mut sm hD, ?_, by rw [List.length_append, hr2]; rfl, ?_⟩
    · rw [upd_same]; unfold iL; rw [List.map_append]; rfl
    · intro x hx
      rcases List.mem_append.mp hx with h | h
      · exact hr3 x h
      · rw [List.mem_singleton] at h; subst h; exact hf
  · obtain ⟨c, z, r, rfl, sm, hr1, hr2, hr3⟩ := hP
    exact ⟨_, rfl, q D r H' sm hr1 (by rw [hr2, List.length_map]) hr3⟩
abbrev s__law_rich : Stmt := topS 53
abbrev n__law_rich : List Str := ["_law_cell_here", "_law_low", "_law_high"]
abbrev p__law_rich : List Str := ["_law_cell_here"]
theorem sc__law_rich : FnScope n__law_rich p__law_rich (defScope s__law_rich) := ⟨rfl, rfl, rfl, by decide +kernel, rfl, by decide +kernel, by decide +kernel⟩
def spRich : Sp := fun vs H Q _ => ∃ c : Int, vs = [.int c] ∧ ∀ r : Int, Q (.int r) H
theorem c__law_rich (T : Txt K mg) (t : Tx K mg "_law_rich" s__law_rich p__law_rich) : Cb P w K mg base 1 "_law_rich" p__law_rich spRich := by
  refine t.cb sc__law_rich (fun vs H Q E h => ?_) (fun f cdv A outer s H vs Q E hr h => ?_)
  · obtain ⟨c, rfl, _⟩ := h; rfl
  obtain ⟨c, rfl, q⟩ := h
  have nd := sc__law_rich.nd
  refine ⟨_, (pss_cons (ps_if (pt_cmpR op_ge (pv 0) (pe_op op_pow pe_int pe_int) (nomark _))
      (pss_one (ps_ret (pv 0)))
      pss_nil)
    (pss_cons (ps_set (i := 1) nd rfl (Or.inl rfl) (pe_op op_modN (pe_callTy call_int1 (by rfl) T.n_int (by decide +kernel) (pa_cons (pe_op op_add (pe_op op_mul (pv 0) pe_int) pe_int) pa_nil)) pe_int))
    (pss_cons (ps_set (i := 2) nd rfl (Or.inl rfl) (pe_op op_modN (pe_callTy call_int1 (by rfl) T.n_int (by decide +kernel) (pa_cons (pe_op op_add (pe_op op_add (pe_op op_mul (pv 1) pe_int) (pe_op op_fdivN (pv 0) pe_int)) pe_int) pa_nil)) pe_int))
    (pss_one (ps_ret (pe_op op_add (pe_op op_mul (pv 1) pe_int) (pv 2))))))), ?_⟩
  refine ⟨_, rfl, _, _, rfl, rfl, ⟨by decide, by decide, by decide⟩, _, _, rfl, rfl, _, rfl, ite2 (fun d => ⟨_, rfl, q c⟩) (fun d => ?_)⟩
  refine ⟨_, rfl, _, _, rfl, rfl, .inr ⟨by decide, by decide⟩, _, _, rfl, rfl, .inl ⟨_, rfl, _, _, rfl, rfl, by omega, ?_⟩⟩
  refine ⟨_, rfl, _, _, rfl, rfl, .inr ⟨by decide, by decide⟩, _, rfl, _, _, rfl, rfl, ⟨by decide, by decide⟩, _, _, rfl, rfl, _, _, rfl, rfl, .inl ⟨_, rfl, _, _, rfl, rfl, by omega, ?_⟩⟩
  exact ⟨_, rfl, _, _, rfl, rfl, .inr ⟨by decide, by decide⟩, _, rfl, _, _, rfl, rfl, q _⟩
abbrev s__law_order : Stmt := topS 54
abbrev n__law_order : List Str := ["_law_cell_here", "_law_n", "_law_left", "_law_rest", "_law_order_here", "_law_k", "_law_thing"]
abbrev p__law_order : List Str := ["_law_cell_here", "_law_n"]
theorem sc__law_order : FnScope n__law_order p__law_order (defScope s__law_order) := ⟨rfl, rfl, rfl, by decide +kernel, rfl, by decide +kernel, by decide +kernel⟩
def spOrder : Sp := fun vs H Q _ => ∃ (c : Int) (n : Nat), vs = [.int c, .int n] ∧ 1 ≤ n ∧ n ≤ 12 ∧ ∀ p O H', Same H H' → H' p = some (.tup (iL O)) → Ord n O → Q (.ref p) H'
theorem c__law_order (T : Txt K mg) (t : Tx K mg "_law_order" s__law_order p__law_order) (c__law_rich : Cb P w K mg base 1 "_law_rich" p__law_rich spRich) : Cb P w K mg base 2 "_law_order" p__law_order spOrder := by
  refine t.cb sc__law_order (fun vs H Q E h => ?_) (fun f cdv A outer s H vs Q E hr h => ?_)
  · obtain ⟨c, n, rfl, _⟩ := h; rfl
  obtain ⟨c, n, rfl, h1, h12, q⟩ := h
  have nd := sc__law_order.nd
  refine ⟨_, (pss_cons (ps_setLc (i := 2) (own := [("_law_thing", 6)]) (g := gName 6) (by rfl) nd rfl rfl (sw_true rfl rfl rfl (by decide +kernel)) (pi_range1 (by rfl) T.n_range (pa_cons (pv 1) pa_nil)) (blkOk_by (own := [("_law_thing", 6)]) (N := n__law_order) (sc := defScope s__law_order) (by decide +kernel)) (fun _ _ _ _ _ => (pg_name (i := 6) nd rfl (Or.inl rfl))) (fun _ _ _ _ _ => pts_nil) (fun _ _ _ _ _ => (pv 6)))
    (pss_cons (ps_set (i := 3) nd rfl (Or.inl rfl) (pe_user c__law_rich hr (by omega) (pa_cons (pv 0) pa_nil)))
    (pss_cons (ps_set (i := 4) nd rfl (Or.inl rfl) (pe_lst pa_nil))
    (pss_cons (ps_for PassesOwn.never rfl (pi_range1 (by rfl) T.n_range (pa_cons (pv 1) pa_nil)) (pg_name (i := 5) nd rfl (Or.inl rfl))
      (pss_cons (ps_expr (pe_bm PySem.F.plainAttrs_list PySem.F.slot_list_append PySem.F.type_list_append mt_append (pv 4) (pa_cons (pe_bm PySem.F.plainAttrs_list PySem.F.slot_list_pop PySem.F.type_list_pop mt_popAt (pv 2) (pa_cons (pe_op op_modN (pe_callTy call_int1 (by rfl) T.n_int (by decide +kernel) (pa_cons (pv 3) pa_nil)) (pe_op op_sub (pv 1) (pv 5))) pa_nil)) pa_nil)))
      (pss_cons (ps_set (i := 3) nd rfl (Or.inl rfl) (pe_op op_fdivN (pv 3) (pe_op op_sub (pv 1) (pv 5))))
      (pss_one (ps_if (pt_cmpR op_eq (pv 3) pe_int (nomark _))
        (pss_one (ps_set (i := 3) nd rfl (Or.inl rfl) (pe_user c__law_rich hr (by omega) (pa_cons (pe_op op_add (pe_op op_add (pv 0) (pv 5)) pe_int) pa_nil))))
        pss_nil)))))
    (pss_one (ps_ret (pe_callTy call_tuple_of (by rfl) T.n_tuple (by decide +kernel) (pa_cons (pv 4) pa_nil)))))))), ?_⟩
  refine ⟨_, rfl, (n : Int), rfl, by omega, by omega, fun D hD => ?_⟩
  refine lc_range (lo := 0) (n := ((n : Nat) : Int).toNat) (fun i H' => Same H H' ∧ H' D = some (.lst (iL (PQ.rng i)))) ⟨same_new hD, upd_same⟩ (fun i H' hi hP => ?_) (fun H1 hP => ?_)
  · obtain ⟨sm, hL⟩ := hP
    refine ⟨rfl, yesT ⟨_, rfl, _, hL, ?_, same_mut sm hD, ?_⟩⟩
    · rw [List.length_map, PQ.length_rng]; exact small24' (by omega)
    · rw [upd_same]
      unfold PQ.rng iL
      rw [List.range_succ, List.map_append, List.map_append, Int.zero_add]; rfl
  obtain ⟨k1, hD1⟩ := hP
  rw [show ((n : Nat) : Int).toNat = n by omega] at hD1
  refine ⟨_, rfl, c, rfl, fun r0 => ⟨Nat.zero_le _, fun l hl0 => ?_⟩⟩
  have hlD : D ≠ l := ne_of_none hD1 hl0
  refine ⟨_, rfl, (n : Int), rfl, by omega, by omega, ?_⟩
  refine for_range (lo := 0) (n := ((n : Nat) : Int).toNat) (fun i σ H' => ∃ rest zk left ord, σ = [some (.int c), some (.int n), some (.ref D), some (.int rest), some (.ref l), zk, none] ∧ Same H H' ∧ H' D = some (.lst (iL left)) ∧ H' l = some (.lst (iL ord)) ∧ (left ++ ord).Perm (PQ.rng n) ∧ ord.length = i)
    ⟨r0, none, PQ.rng n, [], rfl, k1.trans (same_new hl0), same_new hl0 _ _ hD1, upd_same, by rw [List.append_nil], rfl⟩ (fun i σ H' hi hP => ?_) (fun σ H' hP => ?_)
  · obtain ⟨rest, zk, left, ord, rfl, sm, hLL, hLO, hperm, hol⟩ := hP
    have hlen := hperm.length_eq
    rw [List.length_append, PQ.length_rng] at hlen
    have hj : (0 : Int) < (n : Int) - (0 + (i : Int)) := by omega
    have hf := fmod_in (i := rest) hj
    obtain ⟨k, hk⟩ : ∃ k : Nat, rest.fmod ((n : Int) - (0 + (i : Int))) = (k : Int) := ⟨(rest.fmod ((n : Int) - (0 + (i : Int)))).toNat, by omega⟩
    rw [hk] at hf
    have hkl : k < left.length := by omega
    have hget : left[k]? = some left[k] := List.getElem?_eq_getElem hkl
    generalize left[k] = y at hget
    have hpe := perm_erase hget
    have hl0' : H l = none := none_back k1 hl0
    refine ⟨.ref l, rfl, .inl ⟨rfl, _, .of hLO⟩, .ref D, rfl, .inl ⟨rfl, _, .of hLL⟩, _, rfl, .inl ⟨rest, rfl, _, rfl, _, rfl, _, _, rfl, rfl, _, _, rfl, rfl, by omega, ?_⟩⟩
    refine ⟨D, iL left, rest.fmod ((n : Int) - (0 + (i : Int))), k, .int y, rfl, rfl, hLL, by omega, by omega, by rw [hk, List.length_map]; exact seqIdx_nat hkl, by unfold iL; rw [List.getElem?_map, hget]; rfl, ?_⟩
    have hLO2 : (upd H' D (.lst ((iL left).eraseIdx k))) l = some (.lst (iL ord)) := by rw [upd_ne (Ne.symm hlD)]; exact hLO
    have hLL2 : (upd (upd H' D (.lst ((iL left).eraseIdx k))) l (.lst (iL ord ++ [.int y]))) D = some (.lst (iL (left.eraseIdx k))) := by rw [upd_ne hlD, upd_same, iL_erase]
    have hLO3 : (upd (upd H' D (.lst ((iL left).eraseIdx k))) l (.lst (iL ord ++ [.int y]))) l = some (.lst (iL (ord ++ [y]))) := by rw [upd_same]; unfold iL; rw [List.map_append]; rfl
    have sm2 : Same H (upd (upd H' D (.lst ((iL left).eraseIdx k))) l (.lst (iL ord ++ [.int y]))) := same_mut (same_mut sm hD) hl0'
    have hperm2 : (left.eraseIdx k ++ (ord ++ [y])).Perm (PQ.rng n) := by
      refine List.Perm.trans ?_ hperm
      rw [← List.append_assoc]
      refine List.perm_append_comm.trans ?_
      exact (hpe.append_right ord).symm
    refine ⟨l, _, .int y, rfl, rfl, hLO2, by rw [List.length_map]; exact small24' (by omega), ?_⟩
    refine ⟨_, rfl, _, rfl, _, rfl, _, _, rfl, rfl, _, _, rfl, rfl, ⟨by omega, by omega⟩, ?_⟩
    refine ⟨_, rfl, rfl, _, rfl, ite2 (fun d => ?_) (fun d => ?_)⟩
    · refine ⟨_, rfl, _, rfl, _, _, rfl, rfl, _, _, rfl, rfl, _, rfl, fun r1 => ⟨r1, _, left.eraseIdx k, ord ++ [y], rfl, sm2, hLL2, hLO3, hperm2, by rw [List.length_append, hol]; rfl⟩⟩
    · exact ⟨_, _, left.eraseIdx k, ord ++ [y], rfl, sm2, hLL2, hLO3, hperm2, by rw [List.length_append, hol]; rfl⟩
  · obtain ⟨rest, zk, left, ord, rfl, sm, hLL, hLO, hperm, hol⟩ := hP
    have hlen := hperm.length_eq
    rw [List.length_append, PQ.length_rng] at hlen
    have : left = [] := List.length_eq_zero_iff.mp (by omega)
    subst this
    refine ⟨.ref l, rfl, l, _, rfl, .inl ⟨.of hLO, fun p hp => q p ord _ (sm.trans (same_new hp)) upd_same ⟨h1, h12, hperm⟩⟩⟩
abbrev s__law_set : Stmt := topS 55
abbrev n__law_set : List Str := ["_law_cell_here", "_law_n", "_law_bits", "_law_thing"]
abbrev p__law_set : List Str := ["_law_cell_here", "_law_n"]
theorem sc__law_set : FnScope n__law_set p__law_set (defScope s__law_set) := ⟨rfl, rfl, rfl, by decide +kernel, rfl, by decide +kernel, by decide +kernel⟩
def spLSet : Sp := fun vs H Q _ => ∃ (c : Int) (n : Nat), vs = [.int c, .int n] ∧ 1 ≤ n ∧ n ≤ 12 ∧ ∀ p S H', Same H H' → H' p = some (.tup (iL S)) → SetOk (n : Int) S → Q (.ref p) H'
theorem c__law_set (T : Txt K mg) (t : Tx K mg "_law_set" s__law_set p__law_set) (c__law_rich : Cb P w K mg base 1 "_law_rich" p__law_rich spRich) : Cb P w K mg base 2 "_law_set" p__law_set spLSet := by
  refine t.cb sc__law_set (fun vs H Q E h => ?_) (fun f cdv A outer s H vs Q E hr h => ?_)
  · obtain ⟨c, n, rfl, _⟩ := h; rfl
  obtain ⟨c, n, rfl, h1, h12, q⟩ := h
  have nd := sc__law_set.nd
  refine ⟨_, (pss_cons (ps_set (i := 2) nd rfl (Or.inr rfl) (pe_user c__law_rich hr (by omega) (pa_cons (pv 0) pa_nil)))
    (pss_one (ps_ret (pe_callTy call_tuple_of (by rfl) T.n_tuple (by decide +kernel) (pa_cons (pe_lc (own := [("_law_thing", 3)]) (g := gName 3) (by rfl) nd (pi_range1 (by rfl) T.n_range (pa_cons (pv 1) pa_nil)) (blkOk_by (own := [("_law_thing", 3)]) (N := n__law_set) (sc := defScope s__law_set) (by decide +kernel)) (fun _ _ _ _ _ => (pg_name (i := 3) nd rfl (Or.inl rfl))) (fun _ _ _ _ _ => (pts_one (pt_cmpR op_eq (pe_op op_modN (pe_callTy call_int1 (by rfl) T.n_int (by decide +kernel) (pa_cons (pe_op op_fdivN (pe_op op_fdivN (pv 2) (pe_op op_add (pv 3) pe_int)) (pe_op op_add pe_int (pe_op op_mul (pv 3) (pv 3)))) pa_nil)) pe_int) pe_int (nomark _)))) (fun _ _ _ _ _ => (pv 3))) pa_nil))))), ?_⟩
  refine ⟨_, rfl, c, rfl, fun r0 => ?_⟩
  refine ⟨_, rfl, (n : Int), rfl, by omega, by omega, fun D hD => ?_⟩
  refine lc_range (lo := 0) (n := ((n : Nat) : Int).toNat) (fun i H' => Same H H' ∧ ∃ S, H' D = some (.lst (iL S)) ∧ S.length ≤ i ∧ SetOk (i : Int) S) ⟨same_new hD, [], upd_same, Nat.le_refl _, by simp, .nil⟩ (fun i H' hi hP => ?_) (fun H1 hP => ?_)
  · obtain ⟨sm, S, hL, hSl, hok⟩ := hP
    have hb : ((0 : Int) + (i : Int)) * (0 + (i : Int)) ≤ 12 * 12 := Int.mul_le_mul (by omega) (by omega) (by omega) (by omega)
    have hb0 : 0 ≤ ((0 : Int) + (i : Int)) * (0 + (i : Int)) := Int.mul_nonneg (by omega) (by omega)
    refine ⟨rfl, _, rfl, _, rfl, _, _, rfl, rfl, _, _, rfl, rfl, ⟨by omega, by omega⟩, _, rfl, _, rfl, _, _, rfl, rfl, .inr ⟨by omega, by omega⟩, _, _, rfl, rfl, _, _, rfl, rfl, ⟨by omega, by omega⟩, .inl ⟨_, rfl, _, _, rfl, rfl, by omega, rfl, _, rfl, ite2 (fun d => ?_) (fun d => ?_)⟩⟩
    · refine ⟨_, rfl, _, hL, ?_, same_mut sm hD, S ++ [0 + (i : Int)], ?_, ?_, ?_, ?_⟩
      · rw [List.length_map]; exact small24' (by omega)
      · rw [upd_same]; unfold iL; rw [List.map_append]; rfl
      · rw [List.length_append, List.length_singleton]; omega
      · intro x hx
        rcases List.mem_append.mp hx with h | h
        · have := hok.1 x h; omega
        · rw [List.mem_singleton] at h; omega
      · rw [List.pairwise_append]
        refine ⟨hok.2, by simp, fun x hx y hy => ?_⟩
        rw [List.mem_singleton] at hy
        have := (hok.1 x hx).2
        omega
    · exact ⟨sm, S, hL, by omega, fun x hx => by have := hok.1 x hx; omega, hok.2⟩
  obtain ⟨sm, S, hL, hSl, hok⟩ := hP
  rw [show ((((n : Nat) : Int).toNat : Nat) : Int) = (n : Int) by omega] at hok
  exact ⟨D, _, rfl, .inl ⟨.of hL, fun p hp => q p S _ (sm.trans (same_new hp)) upd_same hok⟩⟩
abbrev s__law_stretch : Stmt := topS 56
abbrev n__law_stretch : List Str := ["_law_cell_here", "_law_order_here", "_law_d", "_law_low", "_law_high"]
abbrev p__law_stretch : List Str := ["_law_cell_here", "_law_order_here"]
theorem sc__law_stretch : FnScope n__law_stretch p__law_stretch (defScope s__law_stretch) := ⟨rfl, rfl, rfl, by decide +kernel, rfl, by decide +kernel, by decide +kernel⟩
def spStretch (K : PySem.W.Frag) : Sp := fun vs H Q _ => ∃ (c : Int) (n : Nat) (a : Addr) (O : List Int), vs = [.int c, .ref a] ∧ SqT K H a (iL O) ∧ Ord n O ∧ ∀ p S H', Same H H' → H' p = some (.tup (iL S)) → SetOk (n : Int) S → Q (.ref p) H'
theorem c__law_stretch (T : Txt K mg) (t : Tx K mg "_law_stretch" s__law_stretch p__law_stretch) (c__law_digits : Cb P w K mg base 1 "_law_digits" p__law_digits (spDigits K)) (c__law_rich : Cb P w K mg base 1 "_law_rich" p__law_rich spRich) : Cb P w K mg base 2 "_law_stretch" p__law_stretch (spStretch K) := by
  refine t.cb sc__law_stretch (fun vs H Q E h => ?_) (fun f cdv A outer s H vs Q E hr h => ?_)
  · obtain ⟨c, n, a, O, rfl, _⟩ := h; rfl
  obtain ⟨c, n, a, O, rfl, hO, ho, q⟩ := h
  have nd := sc__law_stretch.nd
  refine ⟨_, (pss_cons (ps_set (i := 2) nd rfl (Or.inl rfl) (pe_user c__law_digits hr (by omega) (pa_cons (pe_user c__law_rich hr (by omega) (pa_cons (pv 0) pa_nil)) (pa_cons (pe_lst (pa_cons (pe_callB call_len_seq (by rfl) T.n_len PySem.boot_len (pa_cons (pv 1) pa_nil)) (pa_cons (pe_callB call_len_seq (by rfl) T.n_len PySem.boot_len (pa_cons (pv 1) pa_nil)) pa_nil))) pa_nil))))
    (pss_cons (ps_set (i := 3) nd rfl (Or.inl rfl) (pe_callB (call_min2 rfl) (by rfl) T.n_min (by decide +kernel) (pa_cons (pe_ix ix_list (pv 2) pe_int (fun _ _ => rfl)) (pa_cons (pe_ix ix_list (pv 2) pe_int (fun _ _ => rfl)) pa_nil))))
    (pss_cons (ps_set (i := 4) nd rfl (Or.inl rfl) (pe_callB (call_max2 rfl) (by rfl) T.n_max (by decide +kernel) (pa_cons (pe_ix ix_list (pv 2) pe_int (fun _ _ => rfl)) (pa_cons (pe_ix ix_list (pv 2) pe_int (fun _ _ => rfl)) pa_nil))))
    (pss_one (ps_ret (pe_callTy call_tuple_of (by rfl) T.n_tuple (by decide +kernel) (pa_cons (pe_callB cr_sortedTup (by rfl) T.n_sorted (by decide +kernel) (pa_cons (pe_slice sl_tupA (pv 1) (po_some (pv 3)) (po_some (pe_op op_add (pv 4) pe_int))) pa_nil)) pa_nil))))))), ?_⟩
  have hOl : (iL O).length = n := by rw [← ho.len]; exact List.length_map _
  have h1 := ho.1
  have h12 := ho.2.1
  refine ⟨_, rfl, c, rfl, fun r => ⟨.ref a, rfl, a, _, rfl, .inr hO, .ref a, rfl, a, _, rfl, .inr hO, (by show 2 ≤ sizeLine; decide), fun l hl => ?_⟩⟩
  refine ⟨r, l, [((iL O).length : Int), ((iL O).length : Int)], (n : Int), rfl, .of upd_same, by simp [hOl], by omega, by omega, by simp, fun D d H1 s1 hD hd hb => ?_⟩
  have k1 : Same H H1 := (same_new hl).trans s1
  match d, hd with
  | [d0, d1], _ =>
    refine ⟨.ref D, rfl, D, _, 0, .int d0, rfl, rfl, .of hD, atI_nat (j := 0) rfl, .ref D, rfl, D, _, 1, .int d1, rfl, rfl, .of hD, atI_nat (j := 1) rfl, d0, d1, rfl, ?_⟩
    refine ⟨.ref D, rfl, D, _, 0, .int d0, rfl, rfl, .of hD, atI_nat (j := 0) rfl, .ref D, rfl, D, _, 1, .int d1, rfl, rfl, .of hD, atI_nat (j := 1) rfl, d0, d1, rfl, ?_⟩
    refine ⟨.ref a, rfl, _, rfl, _, rfl, _, rfl, _, _, rfl, rfl, _, rfl, sla_of (ys := iL ((O.drop _).take _)) (k1.seqT hO) (by unfold cutV iL; rw [← List.map_drop, ← List.map_take]) fun p H2 s2 hp => ⟨p, _, rfl, hp, fun S z hperm hsort hz => ?_⟩⟩
    have k2 : Same H2 (upd H2 z (.lst (iL S))) := same_new hz
    exact ⟨z, _, rfl, .inl ⟨.of upd_same, fun pr hpr => q pr S _ (((k1.trans s2).trans k2).trans (same_new hpr)) upd_same (setOk_sub ho ((List.take_sublist _ _).trans (List.drop_sublist _ _)) hperm hsort)⟩⟩
abbrev s__law_table : Stmt := topS 57
abbrev n__law_table : List Str := ["_law_script", "_law_at", "_law_n", "_law_order_here", "_law_sets", "_law_k", "_law_cell_here"]
abbrev p__law_table : List Str := ["_law_script", "_law_at", "_law_n", "_law_order_here"]
theorem sc__law_table : FnScope n__law_table p__law_table (defScope s__law_table) := ⟨rfl, rfl, rfl, by decide +kernel, rfl, by decide +kernel, by decide +kernel⟩
def spLTable (K : PySem.W.Frag) : Sp := fun vs H Q _ => ∃ (l : Addr) (cs : List Int) (k n : Nat) (a : Addr) (O : List Int), vs = [.ref l, .int k, .int n, .ref a] ∧ SqL K H l (iL cs) ∧ SqT K H a (iL O) ∧ Ord n O ∧ ∀ p ss H', Same H H' → TabAt K H' (n : Int) p ss → ss.length ≤ 8 → Q (.ref p) H'
theorem c__law_table (T : Txt K mg) (t : Tx K mg "_law_table" s__law_table p__law_table) (c__law_cell : Cb P w K mg base 1 "_law_cell" p__law_cell (spCell K)) (c__law_set : Cb P w K mg base 2 "_law_set" p__law_set spLSet) (c__law_stretch : Cb P w K mg base 2 "_law_stretch" p__law_stretch (spStretch K)) :
    Cb P w K mg base 3 "_law_table" p__law_table (spLTable K) := by
  refine t.cb sc__law_table (fun vs H Q E h => ?_) (fun f cdv A outer s H vs Q E hr h => ?_)
  · obtain ⟨l, cs, k, n, a, O, rfl, _⟩ := h; rfl
  obtain ⟨l, cs, k, n, a, O, rfl, hL, hO, ho, q⟩ := h
  have nd := sc__law_table.nd
  refine ⟨_, (pss_cons (ps_set (i := 4) nd rfl (Or.inl rfl) (pe_lst pa_nil))
    (pss_cons (ps_for PassesOwn.never rfl (pi_range1 (by rfl) T.n_range (pa_cons pe_int pa_nil)) (pg_name (i := 5) nd rfl (Or.inl rfl))
      (pss_one (ps_if (pt_cmpR op_lt (pe_op op_add (pv 1) (pv 5)) (pe_callB call_len_seq (by rfl) T.n_len PySem.boot_len (pa_cons (pv 0) pa_nil)) (nomark _))
        (pss_cons (ps_set (i := 6) nd rfl (Or.inl rfl) (pe_op op_add (pe_user c__law_cell hr (by omega) (pa_cons (pv 0) (pa_cons (pe_op op_add (pv 1) (pv 5)) pa_nil))) (pv 5)))
        (pss_one (ps_if (pt_cmpR op_eq (pe_op op_modN (pe_callTy call_int1 (by rfl) T.n_int (by decide +kernel) (pa_cons (pv 6) pa_nil)) pe_int) pe_int (nomark _))
          (pss_one (ps_expr (pe_bm PySem.F.plainAttrs_list PySem.F.slot_list_append PySem.F.type_list_append mt_append (pv 4) (pa_cons (pe_user c__law_set hr (by omega) (pa_cons (pe_op op_fdivN (pv 6) pe_int) (pa_cons (pv 2) pa_nil))) pa_nil))))
          (pss_one (ps_expr (pe_bm PySem.F.plainAttrs_list PySem.F.slot_list_append PySem.F.type_list_append mt_append (pv 4) (pa_cons (pe_user c__law_stretch hr (by omega) (pa_cons (pe_op op_fdivN (pv 6) pe_int) (pa_cons (pv 3) pa_nil))) pa_nil)))))))
        pss_nil)))
    (pss_one (ps_ret (pe_callTy call_tuple_of (by rfl) T.n_tuple (by decide +kernel) (pa_cons (pv 4) pa_nil)))))), ?_⟩
  refine ⟨Nat.zero_le _, fun D hD => ?_⟩
  have k0 : Same H (upd H D (.lst [])) := same_new hD
  refine ⟨8, rfl, by decide, by decide, ?_⟩
  refine for_range (lo := 0) (n := (8 : Int).toNat) (fun i σ H' => ∃ zk zc us ss, σ = [some (.ref l), some (.int k), some (.int n), some (.ref a), some (.ref D), zk, zc] ∧ Same H H' ∧ H' D = some (.lst us) ∧ SetsAt K H' (n : Int) us ss ∧ us.length ≤ i) ⟨none, none, [], [], rfl, k0, upd_same, .nil, Nat.le_refl _⟩ (fun i σ H' hi hP => ?_) (fun σ H' hP => ?_)
  · obtain ⟨zk, zc, us, ss, rfl, sm, hD', hA, hul⟩ := hP
    have hi8 : i < 8 := hi
    refine ⟨_, rfl, _, rfl, _, _, rfl, rfl, .ref l, rfl, l, _, rfl, .inl (sm.seqL hL), _, _, rfl, rfl, _, rfl, ite2 (fun d => ?_) (fun d => ⟨_, _, us, ss, rfl, sm, hD', hA, by omega⟩)⟩
    refine ⟨.ref l, rfl, _, rfl, _, rfl, _, _, rfl, rfl, l, cs, k + i, by rw [Int.zero_add, Int.natCast_add]; rfl, sm.seqL hL, fun ci => ⟨_, rfl, _, _, rfl, rfl, ?_⟩⟩
    refine ⟨_, rfl, .inl ⟨_, rfl, _, _, rfl, rfl, by omega, rfl, _, rfl, ite2 (fun e => ?_) (fun e => ?_)⟩⟩
    · refine ⟨.ref D, rfl, .inl ⟨rfl, _, .of hD'⟩, _, rfl, _, _, rfl, rfl, ⟨by decide, by decide⟩, _, rfl, _, n, rfl, ho.1, ho.2.1, fun p S H2 s2 hp hok => ⟨D, us, _, rfl, rfl, s2 _ _ hD', small24' (by omega), _, _, us ++ [.ref p], ss ++ [S], rfl, same_mut (sm.trans s2) hD, upd_same, setsAt_mut (s2 _ _ hD') ((hA.to s2).app (.cons ⟨p, rfl, .of hp, hok⟩ .nil)), by rw [List.length_append, List.length_singleton]; omega⟩⟩
    · refine ⟨.ref D, rfl, .inl ⟨rfl, _, .of hD'⟩, _, rfl, _, _, rfl, rfl, ⟨by decide, by decide⟩, .ref a, rfl, _, n, a, O, rfl, sm.seqT hO, ho, fun p S H2 s2 hp hok => ⟨D, us, _, rfl, rfl, s2 _ _ hD', small24' (by omega), _, _, us ++ [.ref p], ss ++ [S], rfl, same_mut (sm.trans s2) hD, upd_same, setsAt_mut (s2 _ _ hD') ((hA.to s2).app (.cons ⟨p, rfl, .of hp, hok⟩ .nil)), by rw [List.length_append, List.length_singleton]; omega⟩⟩
  · obtain ⟨zk, zc, us, ss, rfl, sm, hD', hA, hul⟩ := hP
    have h8 : us.length ≤ 8 := hul
    refine ⟨.ref D, rfl, D, _, rfl, .inl ⟨.of hD', fun p hp => q p ss _ (sm.trans (same_new hp)) ⟨us, .of upd_same, hA.to (same_new hp)⟩ (by rw [← hA.length]; exact h8)⟩⟩
end
end Wk
namespace Wk
open PySem PySem.Spec PyProof.Rows L2
open PQ (T)
theorem to_non {H : Hp} {v : V} {o : Option T} (h : TO H v o) : decide (v = .non) = o.isNone := by
  cases o with
  | none => cases (show v = .non from h); rfl
  | some t => exact decide_eq_false (TA.ne_non (show TA H v t from h))
theorem eqv_self (o : Option T) : PyData.eqv (pdO o) (pdO o) = true := eqv_pdO.mpr rfl
theorem shaped_good {n : Nat} (h1 : 1 ≤ n) (h24 : n ≤ 24) {o : Option T} (h : ∀ t, o = some t → PQ.Good n t) : SeqAt.shaped (pdO o) = true := shaped_pdO fun t e => (Ov.of_good h1 h24 (h t e)).sm
section
variable {P : Program} {w : World} {K : PySem.W.Frag} {mg : Str → Option Value} {base : Heap}
abbrev s_law : Stmt := topS 58
abbrev n_law : List Str := ["_law_script", "_law_n", "_law_order_here", "_law_other", "_law_one", "_law_two", "_law_first", "_law_second", "_law_both", "_law_told", "_law_chosen"]
abbrev p_law : List Str := ["_law_script"]
theorem sc_law : FnScope n_law p_law (defScope s_law) := ⟨rfl, rfl, rfl, by decide +kernel, rfl, by decide +kernel, by decide +kernel⟩
def spLaw (K : PySem.W.Frag) : Sp := fun vs H Q _ => ∃ (l : Addr) (cs : List Int), vs = [.ref l] ∧ SqL K H l (iL cs) ∧ ∀ H', Q (.bl true) H'
theorem c_law {f : Addr} {fd : FuncData} (T : Txt K mg) (F : Fun K "law" "law" s_law f fd) (c__law_cell : Cb P w K mg base 1 "_law_cell" p__law_cell (spCell K)) (c__law_order : Cb P w K mg base 2 "_law_order" p__law_order spOrder) (c__law_set : Cb P w K mg base 2 "_law_set" p__law_set spLSet)
    (c__law_stretch : Cb P w K mg base 2 "_law_stretch" p__law_stretch (spStretch K)) (c__law_table : Cb P w K mg base 3 "_law_table" p__law_table (spLTable K)) (c_tree_of : Cb P w K mg base 104 "tree_of" p_tree_of (spTreeOf K)) (c_reduced : Cb P w K mg base 103 "reduced" p_reduced (spReduced K))
    (c_common : Cb P w K mg base 104 "common" p_common spCommon) (c_count : Cb P w K mg base 28 "count" p_count spCount) (c_is_always_together : Cb P w K mg base 104 "is_always_together" p_is_always_together (spAlways K)) :
    FnOk P w K mg base CX0 105 f fd p_law (spLaw K) := by
  refine F.ok sc_law (fun vs H Q E h => ?_) (fun cdv A outer s H vs Q E hr h => ?_)
  · obtain ⟨l, cs, rfl, _⟩ := h; rfl
  obtain ⟨l, cs, rfl, hL, q⟩ := h
  have nd := sc_law.nd
  refine ⟨_, (pss_cons (ps_set (i := 1) nd rfl (Or.inl rfl) (pe_op op_add pe_int (pe_op op_modN (pe_callTy call_int1 (by rfl) T.n_int (by decide +kernel) (pa_cons (pe_user c__law_cell hr (by omega) (pa_cons (pv 0) (pa_cons pe_int pa_nil))) pa_nil)) pe_int)))
    (pss_cons (ps_set (i := 2) nd rfl (Or.inl rfl) (pe_user c__law_order hr (by omega) (pa_cons (pe_user c__law_cell hr (by omega) (pa_cons (pv 0) (pa_cons pe_int pa_nil))) (pa_cons (pv 1) pa_nil))))
    (pss_cons (ps_set (i := 3) nd rfl (Or.inl rfl) (pv 2))
    (pss_cons (ps_if (pt_cmpR op_eq (pe_op op_modN (pe_callTy call_int1 (by rfl) T.n_int (by decide +kernel) (pa_cons (pe_user c__law_cell hr (by omega) (pa_cons (pv 0) (pa_cons pe_int pa_nil))) pa_nil)) pe_int) pe_int (nomark _))
      (pss_one (ps_set (i := 3) nd rfl (Or.inl rfl) (pe_user c__law_order hr (by omega) (pa_cons (pe_user c__law_cell hr (by omega) (pa_cons (pv 0) (pa_cons pe_int pa_nil))) (pa_cons (pv 1) pa_nil)))))
      pss_nil)
    (pss_cons (ps_set (i := 4) nd rfl (Or.inl rfl) (pe_user c__law_table hr (by omega) (pa_cons (pv 0) (pa_cons pe_int (pa_cons (pv 1) (pa_cons (pv 2) pa_nil))))))
    (pss_cons (ps_set (i := 5) nd rfl (Or.inl rfl) (pe_user c__law_table hr (by omega) (pa_cons (pv 0) (pa_cons pe_int (pa_cons (pv 1) (pa_cons (pv 3) pa_nil))))))
    (pss_cons (ps_set (i := 6) nd rfl (Or.inl rfl) (pe_user c_tree_of hr (by omega) (pa_cons (pv 1) (pa_cons (pv 4) pa_nil))))
    (pss_cons (ps_set (i := 7) nd rfl (Or.inl rfl) (pe_user c_tree_of hr (by omega) (pa_cons (pv 1) (pa_cons (pv 5) pa_nil))))
    (pss_cons (ps_set (i := 8) nd rfl (Or.inl rfl) (pe_user c_tree_of hr (by omega) (pa_cons (pv 1) (pa_cons (pe_op op_catA (pv 4) (pv 5)) pa_nil))))
    (pss_cons (ps_if (PW.pt (pw_or (pt_cmpR op_isN (pv 6) pe_non (nomark _)) (pw_or1 (pt_cmpR op_isN (pv 7) pe_non (nomark _)))))
      (pss_one (ps_ret (pe_cmpR op_isN (pv 8) pe_non (nomark _))))
      pss_nil)
    (pss_cons (ps_set (i := 9) nd rfl (Or.inl rfl) (pv 6))
    (pss_cons (ps_for PassesOwn.never rfl (pi_tup (pv 5)) (pg_name (i := 10) nd rfl (Or.inl rfl))
      (pss_one (ps_if (pt_cmpR op_notN (pv 9) pe_non (nomark _))
        (pss_one (ps_set (i := 9) nd rfl (Or.inl rfl) (pe_user c_reduced hr (by omega) (pa_cons (pv 9) (pa_cons (pv 10) pa_nil)))))
        pss_nil)))
    (pss_cons (ps_if (PW.pt (pw_or (pt_cmpR (op_neD hr.units) (pv 9) (pv 8) (nomark _)) (pw_or1 (pt_cmpR (op_neD hr.units) (pe_user c_common hr (by omega) (pa_cons (pv 6) (pa_cons (pv 7) pa_nil))) (pv 8) (nomark _)))))
      (pss_one (ps_ret pe_bl))
      pss_nil)
    (pss_cons (ps_if (PW.pt (pw_and (pt_cmpR op_notN (pv 8) pe_non (nomark _)) (pw_and1 (pt_cmpR op_gt (pe_user c_count hr (by omega) (pa_cons (pv 8) pa_nil)) (pe_callB (call_min2 rfl) (by rfl) T.n_min (by decide +kernel) (pa_cons (pe_user c_count hr (by omega) (pa_cons (pv 6) pa_nil)) (pa_cons (pe_user c_count hr (by omega) (pa_cons (pv 7) pa_nil)) pa_nil))) (nomark _)))))
      (pss_one (ps_ret pe_bl))
      pss_nil)
    (pss_cons (ps_set (i := 10) nd rfl (Or.inl rfl) (pe_user c__law_stretch hr (by omega) (pa_cons (pe_user c__law_cell hr (by omega) (pa_cons (pv 0) (pa_cons pe_int pa_nil))) (pa_cons (pv 2) pa_nil))))
    (pss_cons (ps_if (pt_cmpR op_eq (pe_op op_modN (pe_callTy call_int1 (by rfl) T.n_int (by decide +kernel) (pa_cons (pe_user c__law_cell hr (by omega) (pa_cons (pv 0) (pa_cons pe_int pa_nil))) pa_nil)) pe_int) pe_int (nomark _))
      (pss_one (ps_set (i := 10) nd rfl (Or.inl rfl) (pe_user c__law_set hr (by omega) (pa_cons (pe_user c__law_cell hr (by omega) (pa_cons (pv 0) (pa_cons pe_int pa_nil))) (pa_cons (pv 1) pa_nil)))))
      pss_nil)
    (pss_one (ps_ret (pe_cmpR op_eq (pe_user c_is_always_together hr (by omega) (pa_cons (pv 6) (pa_cons (pv 10) pa_nil))) (pe_cmpR (op_eqD hr.units) (pe_user c_tree_of hr (by omega) (pa_cons (pv 1) (pa_cons (pe_op op_catA (pv 4) (pe_tup (pa_cons (pv 10) pa_nil))) pa_nil))) (pv 6) (nomark _)) (nomark _)))))))))))))))))))), ?_⟩
  -- n
  refine ⟨.ref l, rfl, l, cs, 0, rfl, hL, fun c0 => .inl ⟨c0, rfl, _, _, rfl, rfl, by omega, _, _, rfl, rfl, ?_⟩⟩
  have hf := fmod_in (i := c0) (j := 12) (by decide)
  obtain ⟨n, hn⟩ : ∃ n : Nat, 1 + c0.fmod 12 = (n : Int) := ⟨(1 + c0.fmod 12).toNat, by omega⟩
  show gName 1 (V.int (1 + c0.fmod 12)) _ _ _
  rw [hn]
  have h1 : 1 ≤ n := by omega
  have h12 : n ≤ 12 := by omega
  have h24 : n ≤ 24 := by omega
  -- order
  refine ⟨.ref l, rfl, l, cs, 1, rfl, hL, fun c1 => ⟨_, rfl, c1, n, rfl, h1, h12, fun p1 O1 H1 s1 hp1 ho1 => ?_⟩⟩
  refine ⟨.ref p1, rfl, ?_⟩
  -- other
  refine ⟨.ref l, rfl, l, cs, 2, rfl, s1.seqL hL, fun c2 => .inl ⟨c2, rfl, _, _, rfl, rfl, by omega, rfl, _, rfl, ?_⟩⟩
  refine if_join (fun σ' H' => ∃ p2 O2, σ' = [some (.ref l), some (.int n), some (.ref p1), some (.ref p2), none, none, none, none, none, none, none] ∧ Same H1 H' ∧ H' p2 = some (.tup (iL O2)) ∧ Ord n O2) (fun hb back => ?_) (fun hb => ⟨p1, O1, rfl, Same.refl _, hp1, ho1⟩) (fun σ' H2 hI => ?_)
  · exact ⟨.ref l, rfl, l, cs, 2, rfl, s1.seqL hL, fun c2' => ⟨_, rfl, c2', n, rfl, h1, h12, fun p2 O2 H2 s2 hp2 ho2 => back _ _ ⟨p2, O2, rfl, s2, hp2, ho2⟩⟩⟩
  obtain ⟨p2, O2, rfl, k2, hp2, ho2⟩ := hI
  have s2 := s1.trans k2
  -- the tables
  refine ⟨.ref l, rfl, _, rfl, .ref p1, rfl, l, cs, 4, n, p1, O1, rfl, s2.seqL hL, .of (k2 _ _ hp1), ho1, fun q1 ss1 H3 k3 hT1 hl1 => ?_⟩
  have s3 := s2.trans k3
  refine ⟨.ref l, rfl, _, rfl, .ref p2, rfl, l, cs, 12, n, p2, O2, rfl, s3.seqL hL, .of (k3 _ _ hp2), ho2, fun q2 ss2 H4 k4 hT2 hl2 => ?_⟩
  have s4 := s3.trans k4
  have hT1 := hT1.to k4
  obtain ⟨us1, hU1, hA1⟩ := id hT1
  obtain ⟨us2, hU2, hA2⟩ := id hT2
  have v1 := setsAt_vs hA1
  have v2 := setsAt_vs hA2
  have hul1 := hA1.length
  have hul2 := hA2.length
  -- the trees
  refine ⟨_, rfl, .ref q1, rfl, n, q1, ss1, rfl, h1, h24, hT1, by omega, fun w1 H5 k5 t1 => ?_⟩
  refine ⟨_, rfl, .ref q2, rfl, n, q2, ss2, rfl, h1, h24, hT2.to k5, by omega, fun w2 H6 k6 t2 => ?_⟩
  have k56 := k5.trans k6
  refine ⟨_, rfl, .ref q1, rfl, .ref q2, rfl, cata_of (k56.seqT hU1) (k56.seqT hU2) (small24 (by omega)) fun q3 H7 k7 hU3 => ?_⟩
  have k57 := k56.trans k7
  refine ⟨n, q3, ss1 ++ ss2, rfl, h1, h24, ⟨us1 ++ us2, hU3, (hA1.to k57).app (hA2.to k57)⟩, by rw [List.length_append]; omega, fun w3 H8 k8 t3 => ?_⟩
  have k78 := k7.trans k8
  have t1 := (t1.to k6).to k78
  have t2 := t2.to k78
  have k58 := k57.trans k8
  have s8 := s4.trans k58
  have hU2 := k58.seqT hU2
  have hA2 := hA2.to k58
  have hU1 := k58.seqT hU1
  have hA1 := hA1.to k58
  have ho8 : H8 p1 = some (.tup (iL O1)) := k58 _ _ (k4 _ _ (k3 _ _ (k2 _ _ hp1)))
  have hgood : ∀ {ss : List (List Int)}, PQ.VS n ss → ∀ t, PQ.treeOf n ss = some t → PQ.Good n t := fun v t e => PQ.treeOf_good h1 v e
  have v12 := v1.app v2
  -- if first is None or second is None
  have hnone := PQ.none_is h1 v1 v2
  cases ef : PQ.treeOf n ss1 with
  | none =>
    rw [ef] at t1
    have e3 := hnone (.inl ef)
    rw [e3] at t3
    cases (show w1 = .non from t1)
    cases (show w3 = .non from t3)
    exact ⟨_, rfl, rfl, true, rfl, iteT (iteT ⟨_, rfl, rfl, q H8⟩)⟩
  | some f =>
  rw [ef] at t1
  have tf : TA H8 w1 f := t1
  have gf := hgood v1 f ef
  refine ⟨_, rfl, rfl, false, congrArg V.bl (decide_eq_false tf.ne_non), iteF ?_⟩
  cases eg : PQ.treeOf n ss2 with
  | none =>
    rw [eg] at t2
    have e3 := hnone (.inr eg)
    rw [e3] at t3
    cases (show w2 = .non from t2)
    cases (show w3 = .non from t3)
    exact ⟨_, rfl, rfl, true, rfl, iteT ⟨_, rfl, rfl, q H8⟩⟩
  | some g =>
  rw [eg] at t2
  have tg : TA H8 w2 g := t2
  have gg := hgood v2 g eg
  refine ⟨_, rfl, rfl, false, congrArg V.bl (decide_eq_false tg.ne_non), iteF ?_⟩
  have hb3 : PQ.redAll f ss2 = PQ.treeOf n (ss1 ++ ss2) := by
    show _ = PQ.redAll (PQ.plain n) (ss1 ++ ss2)
    rw [PQ.redAll_append, show PQ.redAll (PQ.plain n) ss1 = some f from ef]; rfl
  have hshb : SeqAt.shaped (pdO (PQ.treeOf n (ss1 ++ ss2))) = true := shaped_good h1 h24 (hgood v12)
  -- told
  refine ⟨_, rfl, ?_⟩
  refine ⟨.ref q2, rfl, q2, rfl, ⟨us2, hU2⟩, ?_⟩
  refine for_tup (xs := us2) (fun i σ H' => ∃ wt zc o, σ = [some (.ref l), some (.int n), some (.ref p1), some (.ref p2), some (.ref q1), some (.ref q2), some w1, some w2, some w3, some wt, zc] ∧ Same H8 H' ∧ TO H' wt o ∧ o = PQ.redAll f (ss2.take i) ∧ ∀ t', o = some t' → PQ.Good n t') ⟨w1, none, some f, rfl, Same.refl _, tf, by rw [List.take_zero]; rfl, fun t' e => by cases e; exact gf⟩ (fun i σ H' _ hP => ?_) (fun i x σ H' hx hP => ?_) (fun σ H9 hP => ?_)
  · obtain ⟨wt, zc, o, rfl, sm, _⟩ := hP
    exact sm.seqT hU2
  · obtain ⟨wt, zc, o, rfl, sm, hto, ho, hgo⟩ := hP
    obtain ⟨b, S, hS0, rfl, hS, ok⟩ := hA2.get hx
    have hmore : PQ.redAll f (ss2.take (i + 1)) = o.bind fun t' => PQ.reducedBy S t' := by
      rw [List.take_add_one, hS0, PQ.redAll_append, ← ho]
      congr 1
      funext t'
      show PQ.redAll t' [S] = _
      rw [PQ.redAll_one]
    cases o with
    | none =>
      cases (show wt = .non from hto)
      exact ⟨_, rfl, rfl, false, rfl, iteF ⟨_, _, none, rfl, sm, rfl, by rw [hmore]; rfl, fun t' e => by cases e⟩⟩
    | some t' =>
      have hta : TA H' wt t' := hto
      have gt' := hgo t' rfl
      refine ⟨_, rfl, rfl, true, by rw [decide_eq_false hta.ne_non]; rfl, iteT ?_⟩
      refine ⟨wt, rfl, .ref b, rfl, n, wt, b, S, t', rfl, hta, .of_good h1 h24 gt', sm.seqT hS, ok, fun v' H2' sm2 h2' => ⟨v', _, PQ.reducedBy S t', rfl, sm.trans sm2, h2', by rw [hmore]; rfl, red_shaped (.of_good h1 h24 gt') (setOk_rng ok)⟩⟩
  obtain ⟨wt, zc, o, rfl, k9, hto, ho, hgo⟩ := hP
  rw [List.take_of_length_le (by omega), hb3] at ho
  subst ho
  -- told != both
  refine ⟨_, rfl, _, rfl, _, _, hto.dp, (t3.to k9).dp, hshb, hshb, false, ?_, iteF ?_⟩
  · rw [eqv_self]; rfl
  refine ⟨w1, rfl, w2, rfl, n, w1, w2, f, g, rfl, tf.to k9, .of_good h1 h24 gf, tg.to k9, gg, fun v' H10 ss k10 hss hv' => ?_⟩
  have k9' := k9.trans k10
  have hcm : PQ.redAll (PQ.norm f) ss = PQ.treeOf n (ss1 ++ ss2) := PQ.common_is h1 v1 v2 ef eg hss
  rw [hcm] at hv'
  refine ⟨_, rfl, _, _, hv'.dp, (t3.to k9').dp, hshb, hshb, false, ?_, iteF ?_⟩
  · rw [eqv_self]; rfl
  have tf10 := tf.to k9'
  have tg10 := tg.to k9'
  have hstay : ∀ {Hz : Hp}, Same H10 Hz → TA Hz w1 f ∧ SqT K Hz q1 us1 ∧ SetsAt K Hz (n : Int) us1 ss1 ∧ Hz p1 = some (.tup (iL O1)) ∧ SqL K Hz l (iL cs) := fun kz =>
    ⟨tf10.to kz, (k9'.trans kz).seqT hU1, hA1.to (k9'.trans kz), kz _ _ (k9' _ _ ho8), ((s8.trans k9').trans kz).seqL hL⟩
  have t310 := t3.to k9'
  have hcnt := fun b e => PQ.both_cnt h1 v1 v2 (b := b) ef eg e
  have hg3 := hgood v12
  clear hto hgo hb3 hshb hss hcm hv' hnone
  -- both is not None and ..
  rcases eb : PQ.treeOf n (ss1 ++ ss2) with _ | b
  case' none =>
    rw [eb] at t310
    have e3 : w3 = .non := t310
    refine ⟨_, rfl, rfl, false, by rw [e3]; rfl, iteF (iteF ?_)⟩
    have hst := hstay (Same.refl H10)
  case' some =>
    rw [eb] at t310
    have tb : TA H10 w3 b := t310
    have gb := hg3 b eb
    have hc := hcnt b eb
    refine ⟨_, rfl, rfl, true, by rw [decide_eq_false tb.ne_non]; rfl, iteT ?_⟩
    refine ⟨w3, rfl, n, w3, b, rfl, tb, .of_good h1 h24 gb, h12, fun H11 s11 => ⟨w1, rfl, n, w1, f, rfl, tf10.to s11, .of_good h1 h24 gf, h12, fun H12 s12 => ⟨w2, rfl, n, w2, g, rfl, tg10.to (s11.trans s12), .of_good h1 h24 gg, h12, fun H13 s13 => ⟨_, _, rfl, _, _, rfl, rfl, false, congrArg V.bl (decide_eq_false ?_), iteF ?_⟩⟩⟩⟩
    · have := hc.1
      have := hc.2
      split <;> omega
    have hst := hstay ((s11.trans s12).trans s13)
  all_goals
    obtain ⟨tfz, hU1z, hA1z, hoz, hLz⟩ := hst
    -- chosen
    refine ⟨.ref l, rfl, l, cs, 3, rfl, hLz, fun c3 => ⟨.ref p1, rfl, c3, n, p1, O1, rfl, .of hoz, ho1, fun pc S Ha ka hpc hok => ?_⟩⟩
    refine ⟨.ref l, rfl, l, cs, 3, rfl, ka.seqL hLz, fun c3' => .inl ⟨c3', rfl, _, _, rfl, rfl, by omega, rfl, _, rfl, ?_⟩⟩
    refine if_join (fun σ' H' => ∃ pc S, σ' = [some (.ref l), some (.int n), some (.ref p1), some (.ref p2), some (.ref q1), some (.ref q2), some w1, some w2, some w3, some wt, some (.ref pc)] ∧ Same Ha H' ∧ H' pc = some (.tup (iL S)) ∧ SetOk (n : Int) S) (fun hb back => ?_) (fun hb => ⟨pc, S, rfl, Same.refl _, hpc, hok⟩) (fun σ' Hb hI => ?_)
    · exact ⟨.ref l, rfl, l, cs, 3, rfl, ka.seqL hLz, fun c4 => ⟨_, rfl, c4, n, rfl, h1, h12, fun pc' S' Hc kc hpc' hok' => back _ _ ⟨pc', S', rfl, kc, hpc', hok'⟩⟩⟩
    clear hpc hok
    obtain ⟨pc, S, rfl, kb, hpc, hok⟩ := hI
    have kab := ka.trans kb
    refine ⟨w1, rfl, .ref pc, rfl, n, w1, pc, S, f, rfl, tfz.to kab, .of_good h1 h24 gf, .of hpc, hok, fun b1 Hd kd hb1 => ?_⟩
    have kad := kab.trans kd
    refine ⟨_, rfl, .ref q1, rfl, .ref pc, rfl, (by show 1 ≤ sizeLine; decide), fun pt hpt => ?_⟩
    have kt : Same Hd (upd Hd pt (.tup [.ref pc])) := same_new hpt
    refine cata_of ((kad.trans kt).seqT hU1z) (.of upd_same) (small24 (by rw [List.length_singleton]; omega)) fun q4 He ke hq4 => ?_
    have kae := (kad.trans kt).trans ke
    refine ⟨n, q4, ss1 ++ [S], rfl, h1, h24, ⟨us1 ++ [V.ref pc], hq4, (hA1z.to kae).app (.cons ⟨pc, rfl, .of (((kd.trans kt).trans ke) _ _ hpc), hok⟩ .nil)⟩, by rw [List.length_append, List.length_singleton]; omega, fun w4 Hf kf t4 => ?_⟩
    have e4 : PQ.treeOf n (ss1 ++ [S]) = PQ.reducedBy S f := by
      show PQ.redAll (PQ.plain n) (ss1 ++ [S]) = _
      rw [PQ.redAll_append, show PQ.redAll (PQ.plain n) ss1 = some f from ef]
      show PQ.redAll f [S] = _
      rw [PQ.redAll_one]
    rw [e4] at t4
    have gS := red_shaped (.of_good h1 h24 gf) (setOk_rng hok)
    refine ⟨w1, rfl, _, _, t4.dp, TO.dp (o := some f) (tfz.to (kae.trans kf)), shaped_good h1 h24 gS, shaped_good (o := some f) h1 h24 (fun t e => by cases e; exact gf), rfl, ?_⟩
    rw [gf.norm] at hb1
    have e5 : b1 = PyData.eqv (pdO (PQ.reducedBy S f)) (pdO (some f)) := by
      rw [Bool.eq_iff_iff, hb1, eqv_pdO]
    rw [← e5, decide_eq_true rfl]
    exact q Hf
end
end Wk
namespace Wk
open PySem PySem.Spec PyProof.Rows L2
open PQ (T)
/-! ### what the top has written -/
section
variable {l : PySem.W.OpenLaw} {w : World} {K : PySem.W.Frag} {h : Heap} {mg : Str → Option Value}
theorem tx_mk {x : Str} {st : Stmt} {ps : List Str} (X : K.In h) (G : h.Ns mainGlobals mg) {f : Addr} {od an : Option Addr} {sl : Array (Option Value)} {oc kV dc pm cd ct : Value}
    (hb : ∀ (kV doc pm : Value) (an : Option Addr) (cdv ct : Value) (us : List Value), us.length = ps.length → bindArgs (PySem.W.fnOf x x (defArgs st) (defBody st) (defScope st) .none kV doc pm an cdv ct) ⟨us, []⟩ = pure (ps.zip us))
    (a : PySem.W.nsIn K mainGlobals x = some (some (.ref f))) (l : K.lookup f = some ⟨oc, od, .func (PySem.W.fnOf x x (defArgs st) (defBody st) (defScope st) .none kV dc pm an cd ct), sl⟩) (c : PySem.W.codeIn K cd x = true) (k : PySem.W.keepIn K (.ref f) = true) : Tx K mg x st ps :=
  ⟨f, _, fun_mk l c k, (fun_mk l c k).binds hb, PySem.W.mg_of X G a⟩
theorem txt_mk (X : K.In h) (G : h.Ns mainGlobals mg) {t1 t2 : Tok} {aw : Addr} {od : Option Addr} {sl : Array (Option Value)} {u1 u2 : Tok} {n : Nat}
    (z0 : PySem.W.nsIn K mainGlobals "len" = some none) (z1 : PySem.W.nsIn K mainGlobals "isinstance" = some none) (z2 : PySem.W.nsIn K mainGlobals "min" = some none) (z3 : PySem.W.nsIn K mainGlobals "max" = some none) (z4 : PySem.W.nsIn K mainGlobals "sorted" = some none) (z5 : PySem.W.nsIn K mainGlobals "int" = some none) (z6 : PySem.W.nsIn K mainGlobals "str" = some none) (z7 : PySem.W.nsIn K mainGlobals "list" = some none) (z8 : PySem.W.nsIn K mainGlobals "tuple" = some none) (z9 : PySem.W.nsIn K mainGlobals "set" = some none) (z10 : PySem.W.nsIn K mainGlobals "range" = some none) (z11 : PySem.W.nsIn K mainGlobals "enumerate" = some none) (z12 : PySem.W.nsIn K mainGlobals "all" = some none)
    (m1 : PySem.W.nsIn K mainGlobals "MOST_THINGS" = some (some (.int 24 t1))) (m2 : PySem.W.nsIn K mainGlobals "MOST_SETS" = some (some (.int 40 t2))) (aW : PySem.W.nsIn K mainGlobals "WORDS" = some (some (.ref aw)))
    (lW : K.lookup aw = some ⟨.type "tuple", od, .seq #[.str "any" u1, .str "row" u2] n, sl⟩) : Txt K mg :=
  ⟨PySem.W.mg_none_of X G z0, PySem.W.mg_none_of X G z1, PySem.W.mg_none_of X G z2, PySem.W.mg_none_of X G z3, PySem.W.mg_none_of X G z4, PySem.W.mg_none_of X G z5, PySem.W.mg_none_of X G z6, PySem.W.mg_none_of X G z7, PySem.W.mg_none_of X G z8, PySem.W.mg_none_of X G z9, PySem.W.mg_none_of X G z10, PySem.W.mg_none_of X G z11, PySem.W.mg_none_of X G z12, ⟨t1, PySem.W.mg_of X G m1⟩, ⟨t2, PySem.W.mg_of X G m2⟩, aw, PySem.W.mg_of X G aW, fun H => .inr ⟨_, #[.str "any" u1, .str "row" u2], n, lW, rfl, rfl, by show 2 ≤ sizeLine; decide, .cons ⟨u1, rfl⟩ (.cons ⟨u2, rfl⟩ .nil)⟩⟩
end
theorem hb_is_size : ∀ (kV doc pm : Value) (an : Option Addr) (cdv ct : Value) (us : List Value), us.length = p_is_size.length → bindArgs (PySem.W.fnOf "is_size" "is_size" (defArgs s_is_size) (defBody s_is_size) (defScope s_is_size) .none kV doc pm an cdv ct) ⟨us, []⟩ = pure (p_is_size.zip us) := fun _ _ _ _ _ _ us hl => match us, hl with | [_], _ => rfl
theorem hb_check_things : ∀ (kV doc pm : Value) (an : Option Addr) (cdv ct : Value) (us : List Value), us.length = p_check_things.length → bindArgs (PySem.W.fnOf "check_things" "check_things" (defArgs s_check_things) (defBody s_check_things) (defScope s_check_things) .none kV doc pm an cdv ct) ⟨us, []⟩ = pure (p_check_things.zip us) := fun _ _ _ _ _ _ us hl => match us, hl with | [_], _ => rfl
theorem hb_is_set : ∀ (kV doc pm : Value) (an : Option Addr) (cdv ct : Value) (us : List Value), us.length = p_is_set.length → bindArgs (PySem.W.fnOf "is_set" "is_set" (defArgs s_is_set) (defBody s_is_set) (defScope s_is_set) .none kV doc pm an cdv ct) ⟨us, []⟩ = pure (p_is_set.zip us) := fun _ _ _ _ _ _ us hl => match us, hl with | [_, _], _ => rfl
theorem hb_check_set : ∀ (kV doc pm : Value) (an : Option Addr) (cdv ct : Value) (us : List Value), us.length = p_check_set.length → bindArgs (PySem.W.fnOf "check_set" "check_set" (defArgs s_check_set) (defBody s_check_set) (defScope s_check_set) .none kV doc pm an cdv ct) ⟨us, []⟩ = pure (p_check_set.zip us) := fun _ _ _ _ _ _ us hl => match us, hl with | [_, _], _ => rfl
theorem hb_check_table : ∀ (kV doc pm : Value) (an : Option Addr) (cdv ct : Value) (us : List Value), us.length = p_check_table.length → bindArgs (PySem.W.fnOf "check_table" "check_table" (defArgs s_check_table) (defBody s_check_table) (defScope s_check_table) .none kV doc pm an cdv ct) ⟨us, []⟩ = pure (p_check_table.zip us) := fun _ _ _ _ _ _ us hl => match us, hl with | [_, _], _ => rfl
theorem hb_is_thing : ∀ (kV doc pm : Value) (an : Option Addr) (cdv ct : Value) (us : List Value), us.length = p_is_thing.length → bindArgs (PySem.W.fnOf "is_thing" "is_thing" (defArgs s_is_thing) (defBody s_is_thing) (defScope s_is_thing) .none kV doc pm an cdv ct) ⟨us, []⟩ = pure (p_is_thing.zip us) := fun _ _ _ _ _ _ us hl => match us, hl with | [_], _ => rfl
theorem hb_listed : ∀ (kV doc pm : Value) (an : Option Addr) (cdv ct : Value) (us : List Value), us.length = p_listed.length → bindArgs (PySem.W.fnOf "listed" "listed" (defArgs s_listed) (defBody s_listed) (defScope s_listed) .none kV doc pm an cdv ct) ⟨us, []⟩ = pure (p_listed.zip us) := fun _ _ _ _ _ _ us hl => match us, hl with | [_], _ => rfl
theorem hb_least_thing : ∀ (kV doc pm : Value) (an : Option Addr) (cdv ct : Value) (us : List Value), us.length = p_least_thing.length → bindArgs (PySem.W.fnOf "least_thing" "least_thing" (defArgs s_least_thing) (defBody s_least_thing) (defScope s_least_thing) .none kV doc pm an cdv ct) ⟨us, []⟩ = pure (p_least_thing.zip us) := fun _ _ _ _ _ _ us hl => match us, hl with | [_], _ => rfl
theorem hb_has_form : ∀ (kV doc pm : Value) (an : Option Addr) (cdv ct : Value) (us : List Value), us.length = p_has_form.length → bindArgs (PySem.W.fnOf "has_form" "has_form" (defArgs s_has_form) (defBody s_has_form) (defScope s_has_form) .none kV doc pm an cdv ct) ⟨us, []⟩ = pure (p_has_form.zip us) := fun _ _ _ _ _ _ us hl => match us, hl with | [_], _ => rfl
theorem hb_check_tree : ∀ (kV doc pm : Value) (an : Option Addr) (cdv ct : Value) (us : List Value), us.length = p_check_tree.length → bindArgs (PySem.W.fnOf "check_tree" "check_tree" (defArgs s_check_tree) (defBody s_check_tree) (defScope s_check_tree) .none kV doc pm an cdv ct) ⟨us, []⟩ = pure (p_check_tree.zip us) := fun _ _ _ _ _ _ us hl => match us, hl with | [_, _], _ => rfl
theorem hb_need_tree : ∀ (kV doc pm : Value) (an : Option Addr) (cdv ct : Value) (us : List Value), us.length = p_need_tree.length → bindArgs (PySem.W.fnOf "need_tree" "need_tree" (defArgs s_need_tree) (defBody s_need_tree) (defScope s_need_tree) .none kV doc pm an cdv ct) ⟨us, []⟩ = pure (p_need_tree.zip us) := fun _ _ _ _ _ _ us hl => match us, hl with | [_], _ => rfl
theorem hb_things_of : ∀ (kV doc pm : Value) (an : Option Addr) (cdv ct : Value) (us : List Value), us.length = p_things_of.length → bindArgs (PySem.W.fnOf "things_of" "things_of" (defArgs s_things_of) (defBody s_things_of) (defScope s_things_of) .none kV doc pm an cdv ct) ⟨us, []⟩ = pure (p_things_of.zip us) := fun _ _ _ _ _ _ us hl => match us, hl with | [_], _ => rfl
theorem hb_make_any : ∀ (kV doc pm : Value) (an : Option Addr) (cdv ct : Value) (us : List Value), us.length = p_make_any.length → bindArgs (PySem.W.fnOf "make_any" "make_any" (defArgs s_make_any) (defBody s_make_any) (defScope s_make_any) .none kV doc pm an cdv ct) ⟨us, []⟩ = pure (p_make_any.zip us) := fun _ _ _ _ _ _ us hl => match us, hl with | [_], _ => rfl
theorem hb_make_row : ∀ (kV doc pm : Value) (an : Option Addr) (cdv ct : Value) (us : List Value), us.length = p_make_row.length → bindArgs (PySem.W.fnOf "make_row" "make_row" (defArgs s_make_row) (defBody s_make_row) (defScope s_make_row) .none kV doc pm an cdv ct) ⟨us, []⟩ = pure (p_make_row.zip us) := fun _ _ _ _ _ _ us hl => match us, hl with | [_], _ => rfl
theorem hb_normalized : ∀ (kV doc pm : Value) (an : Option Addr) (cdv ct : Value) (us : List Value), us.length = p_normalized.length → bindArgs (PySem.W.fnOf "normalized" "normalized" (defArgs s_normalized) (defBody s_normalized) (defScope s_normalized) .none kV doc pm an cdv ct) ⟨us, []⟩ = pure (p_normalized.zip us) := fun _ _ _ _ _ _ us hl => match us, hl with | [_], _ => rfl
theorem hb_plain_tree : ∀ (kV doc pm : Value) (an : Option Addr) (cdv ct : Value) (us : List Value), us.length = p_plain_tree.length → bindArgs (PySem.W.fnOf "plain_tree" "plain_tree" (defArgs s_plain_tree) (defBody s_plain_tree) (defScope s_plain_tree) .none kV doc pm an cdv ct) ⟨us, []⟩ = pure (p_plain_tree.zip us) := fun _ _ _ _ _ _ us hl => match us, hl with | [_], _ => rfl
theorem hb_collect_sets : ∀ (kV doc pm : Value) (an : Option Addr) (cdv ct : Value) (us : List Value), us.length = p_collect_sets.length → bindArgs (PySem.W.fnOf "collect_sets" "collect_sets" (defArgs s_collect_sets) (defBody s_collect_sets) (defScope s_collect_sets) .none kV doc pm an cdv ct) ⟨us, []⟩ = pure (p_collect_sets.zip us) := fun _ _ _ _ _ _ us hl => match us, hl with | [_, _], _ => rfl
theorem hb_sets_of : ∀ (kV doc pm : Value) (an : Option Addr) (cdv ct : Value) (us : List Value), us.length = p_sets_of.length → bindArgs (PySem.W.fnOf "sets_of" "sets_of" (defArgs s_sets_of) (defBody s_sets_of) (defScope s_sets_of) .none kV doc pm an cdv ct) ⟨us, []⟩ = pure (p_sets_of.zip us) := fun _ _ _ _ _ _ us hl => match us, hl with | [_], _ => rfl
theorem hb_share : ∀ (kV doc pm : Value) (an : Option Addr) (cdv ct : Value) (us : List Value), us.length = p_share.length → bindArgs (PySem.W.fnOf "share" "share" (defArgs s_share) (defBody s_share) (defScope s_share) .none kV doc pm an cdv ct) ⟨us, []⟩ = pure (p_share.zip us) := fun _ _ _ _ _ _ us hl => match us, hl with | [_, _], _ => rfl
theorem hb_with_share : ∀ (kV doc pm : Value) (an : Option Addr) (cdv ct : Value) (us : List Value), us.length = p_with_share.length → bindArgs (PySem.W.fnOf "with_share" "with_share" (defArgs s_with_share) (defBody s_with_share) (defScope s_with_share) .none kV doc pm an cdv ct) ⟨us, []⟩ = pure (p_with_share.zip us) := fun _ _ _ _ _ _ us hl => match us, hl with | [_, _, _], _ => rfl
theorem hb_split_any : ∀ (kV doc pm : Value) (an : Option Addr) (cdv ct : Value) (us : List Value), us.length = p_split_any.length → bindArgs (PySem.W.fnOf "split_any" "split_any" (defArgs s_split_any) (defBody s_split_any) (defScope s_split_any) .none kV doc pm an cdv ct) ⟨us, []⟩ = pure (p_split_any.zip us) := fun _ _ _ _ _ _ us hl => match us, hl with | [_, _], _ => rfl
theorem hb_ascends : ∀ (kV doc pm : Value) (an : Option Addr) (cdv ct : Value) (us : List Value), us.length = p_ascends.length → bindArgs (PySem.W.fnOf "ascends" "ascends" (defArgs s_ascends) (defBody s_ascends) (defScope s_ascends) .none kV doc pm an cdv ct) ⟨us, []⟩ = pure (p_ascends.zip us) := fun _ _ _ _ _ _ us hl => match us, hl with | [_], _ => rfl
theorem hb_split_row : ∀ (kV doc pm : Value) (an : Option Addr) (cdv ct : Value) (us : List Value), us.length = p_split_row.length → bindArgs (PySem.W.fnOf "split_row" "split_row" (defArgs s_split_row) (defBody s_split_row) (defScope s_split_row) .none kV doc pm an cdv ct) ⟨us, []⟩ = pure (p_split_row.zip us) := fun _ _ _ _ _ _ us hl => match us, hl with | [_, _], _ => rfl
theorem hb_split : ∀ (kV doc pm : Value) (an : Option Addr) (cdv ct : Value) (us : List Value), us.length = p_split.length → bindArgs (PySem.W.fnOf "split" "split" (defArgs s_split) (defBody s_split) (defScope s_split) .none kV doc pm an cdv ct) ⟨us, []⟩ = pure (p_split.zip us) := fun _ _ _ _ _ _ us hl => match us, hl with | [_, _], _ => rfl
theorem hb_joined_any : ∀ (kV doc pm : Value) (an : Option Addr) (cdv ct : Value) (us : List Value), us.length = p_joined_any.length → bindArgs (PySem.W.fnOf "joined_any" "joined_any" (defArgs s_joined_any) (defBody s_joined_any) (defScope s_joined_any) .none kV doc pm an cdv ct) ⟨us, []⟩ = pure (p_joined_any.zip us) := fun _ _ _ _ _ _ us hl => match us, hl with | [_, _], _ => rfl
theorem hb_joined_row : ∀ (kV doc pm : Value) (an : Option Addr) (cdv ct : Value) (us : List Value), us.length = p_joined_row.length → bindArgs (PySem.W.fnOf "joined_row" "joined_row" (defArgs s_joined_row) (defBody s_joined_row) (defScope s_joined_row) .none kV doc pm an cdv ct) ⟨us, []⟩ = pure (p_joined_row.zip us) := fun _ _ _ _ _ _ us hl => match us, hl with | [_, _], _ => rfl
theorem hb_joined : ∀ (kV doc pm : Value) (an : Option Addr) (cdv ct : Value) (us : List Value), us.length = p_joined.length → bindArgs (PySem.W.fnOf "joined" "joined" (defArgs s_joined) (defBody s_joined) (defScope s_joined) .none kV doc pm an cdv ct) ⟨us, []⟩ = pure (p_joined.zip us) := fun _ _ _ _ _ _ us hl => match us, hl with | [_, _], _ => rfl
theorem hb_reduced_by : ∀ (kV doc pm : Value) (an : Option Addr) (cdv ct : Value) (us : List Value), us.length = p_reduced_by.length → bindArgs (PySem.W.fnOf "reduced_by" "reduced_by" (defArgs s_reduced_by) (defBody s_reduced_by) (defScope s_reduced_by) .none kV doc pm an cdv ct) ⟨us, []⟩ = pure (p_reduced_by.zip us) := fun _ _ _ _ _ _ us hl => match us, hl with | [_, _], _ => rfl
theorem hb_reduced : ∀ (kV doc pm : Value) (an : Option Addr) (cdv ct : Value) (us : List Value), us.length = p_reduced.length → bindArgs (PySem.W.fnOf "reduced" "reduced" (defArgs s_reduced) (defBody s_reduced) (defScope s_reduced) .none kV doc pm an cdv ct) ⟨us, []⟩ = pure (p_reduced.zip us) := fun _ _ _ _ _ _ us hl => match us, hl with | [_, _], _ => rfl
theorem hb_reduced_by_all : ∀ (kV doc pm : Value) (an : Option Addr) (cdv ct : Value) (us : List Value), us.length = p_reduced_by_all.length → bindArgs (PySem.W.fnOf "reduced_by_all" "reduced_by_all" (defArgs s_reduced_by_all) (defBody s_reduced_by_all) (defScope s_reduced_by_all) .none kV doc pm an cdv ct) ⟨us, []⟩ = pure (p_reduced_by_all.zip us) := fun _ _ _ _ _ _ us hl => match us, hl with | [_, _], _ => rfl
theorem hb_tree_of : ∀ (kV doc pm : Value) (an : Option Addr) (cdv ct : Value) (us : List Value), us.length = p_tree_of.length → bindArgs (PySem.W.fnOf "tree_of" "tree_of" (defArgs s_tree_of) (defBody s_tree_of) (defScope s_tree_of) .none kV doc pm an cdv ct) ⟨us, []⟩ = pure (p_tree_of.zip us) := fun _ _ _ _ _ _ us hl => match us, hl with | [_, _], _ => rfl
theorem hb_common : ∀ (kV doc pm : Value) (an : Option Addr) (cdv ct : Value) (us : List Value), us.length = p_common.length → bindArgs (PySem.W.fnOf "common" "common" (defArgs s_common) (defBody s_common) (defScope s_common) .none kV doc pm an cdv ct) ⟨us, []⟩ = pure (p_common.zip us) := fun _ _ _ _ _ _ us hl => match us, hl with | [_, _], _ => rfl
theorem hb_is_always_together : ∀ (kV doc pm : Value) (an : Option Addr) (cdv ct : Value) (us : List Value), us.length = p_is_always_together.length → bindArgs (PySem.W.fnOf "is_always_together" "is_always_together" (defArgs s_is_always_together) (defBody s_is_always_together) (defScope s_is_always_together) .none kV doc pm an cdv ct) ⟨us, []⟩ = pure (p_is_always_together.zip us) := fun _ _ _ _ _ _ us hl => match us, hl with | [_, _], _ => rfl
theorem hb_factorial : ∀ (kV doc pm : Value) (an : Option Addr) (cdv ct : Value) (us : List Value), us.length = p_factorial.length → bindArgs (PySem.W.fnOf "factorial" "factorial" (defArgs s_factorial) (defBody s_factorial) (defScope s_factorial) .none kV doc pm an cdv ct) ⟨us, []⟩ = pure (p_factorial.zip us) := fun _ _ _ _ _ _ us hl => match us, hl with | [_], _ => rfl
theorem hb_sequences : ∀ (kV doc pm : Value) (an : Option Addr) (cdv ct : Value) (us : List Value), us.length = p_sequences.length → bindArgs (PySem.W.fnOf "sequences" "sequences" (defArgs s_sequences) (defBody s_sequences) (defScope s_sequences) .none kV doc pm an cdv ct) ⟨us, []⟩ = pure (p_sequences.zip us) := fun _ _ _ _ _ _ us hl => match us, hl with | [_], _ => rfl
theorem hb_counted : ∀ (kV doc pm : Value) (an : Option Addr) (cdv ct : Value) (us : List Value), us.length = p_counted.length → bindArgs (PySem.W.fnOf "counted" "counted" (defArgs s_counted) (defBody s_counted) (defScope s_counted) .none kV doc pm an cdv ct) ⟨us, []⟩ = pure (p_counted.zip us) := fun _ _ _ _ _ _ us hl => match us, hl with | [_], _ => rfl
theorem hb_count : ∀ (kV doc pm : Value) (an : Option Addr) (cdv ct : Value) (us : List Value), us.length = p_count.length → bindArgs (PySem.W.fnOf "count" "count" (defArgs s_count) (defBody s_count) (defScope s_count) .none kV doc pm an cdv ct) ⟨us, []⟩ = pure (p_count.zip us) := fun _ _ _ _ _ _ us hl => match us, hl with | [_], _ => rfl
theorem hb__law_cell : ∀ (kV doc pm : Value) (an : Option Addr) (cdv ct : Value) (us : List Value), us.length = p__law_cell.length → bindArgs (PySem.W.fnOf "_law_cell" "_law_cell" (defArgs s__law_cell) (defBody s__law_cell) (defScope s__law_cell) .none kV doc pm an cdv ct) ⟨us, []⟩ = pure (p__law_cell.zip us) := fun _ _ _ _ _ _ us hl => match us, hl with | [_, _], _ => rfl
theorem hb__law_digits : ∀ (kV doc pm : Value) (an : Option Addr) (cdv ct : Value) (us : List Value), us.length = p__law_digits.length → bindArgs (PySem.W.fnOf "_law_digits" "_law_digits" (defArgs s__law_digits) (defBody s__law_digits) (defScope s__law_digits) .none kV doc pm an cdv ct) ⟨us, []⟩ = pure (p__law_digits.zip us) := fun _ _ _ _ _ _ us hl => match us, hl with | [_, _], _ => rfl
theorem hb__law_rich : ∀ (kV doc pm : Value) (an : Option Addr) (cdv ct : Value) (us : List Value), us.length = p__law_rich.length → bindArgs (PySem.W.fnOf "_law_rich" "_law_rich" (defArgs s__law_rich) (defBody s__law_rich) (defScope s__law_rich) .none kV doc pm an cdv ct) ⟨us, []⟩ = pure (p__law_rich.zip us) := fun _ _ _ _ _ _ us hl => match us, hl with | [_], _ => rfl
theorem hb__law_order : ∀ (kV doc pm : Value) (an : Option Addr) (cdv ct : Value) (us : List Value), us.length = p__law_order.length → bindArgs (PySem.W.fnOf "_law_order" "_law_order" (defArgs s__law_order) (defBody s__law_order) (defScope s__law_order) .none kV doc pm an cdv ct) ⟨us, []⟩ = pure (p__law_order.zip us) := fun _ _ _ _ _ _ us hl => match us, hl with | [_, _], _ => rfl
theorem hb__law_set : ∀ (kV doc pm : Value) (an : Option Addr) (cdv ct : Value) (us : List Value), us.length = p__law_set.length → bindArgs (PySem.W.fnOf "_law_set" "_law_set" (defArgs s__law_set) (defBody s__law_set) (defScope s__law_set) .none kV doc pm an cdv ct) ⟨us, []⟩ = pure (p__law_set.zip us) := fun _ _ _ _ _ _ us hl => match us, hl with | [_, _], _ => rfl
theorem hb__law_stretch : ∀ (kV doc pm : Value) (an : Option Addr) (cdv ct : Value) (us : List Value), us.length = p__law_stretch.length → bindArgs (PySem.W.fnOf "_law_stretch" "_law_stretch" (defArgs s__law_stretch) (defBody s__law_stretch) (defScope s__law_stretch) .none kV doc pm an cdv ct) ⟨us, []⟩ = pure (p__law_stretch.zip us) := fun _ _ _ _ _ _ us hl => match us, hl with | [_, _], _ => rfl
theorem hb__law_table : ∀ (kV doc pm : Value) (an : Option Addr) (cdv ct : Value) (us : List Value), us.length = p__law_table.length → bindArgs (PySem.W.fnOf "_law_table" "_law_table" (defArgs s__law_table) (defBody s__law_table) (defScope s__law_table) .none kV doc pm an cdv ct) ⟨us, []⟩ = pure (p__law_table.zip us) := fun _ _ _ _ _ _ us hl => match us, hl with | [_, _, _, _], _ => rfl
theorem hb_law : ∀ (kV doc pm : Value) (an : Option Addr) (cdv ct : Value) (us : List Value), us.length = p_law.length → bindArgs (PySem.W.fnOf "law" "law" (defArgs s_law) (defBody s_law) (defScope s_law) .none kV doc pm an cdv ct) ⟨us, []⟩ = pure (p_law.zip us) := fun _ _ _ _ _ _ us hl => match us, hl with | [_], _ => rfl
/-! ### the law from the top -/
theorem all_mk {l : PySem.W.OpenLaw} {w : World} {K : PySem.W.Frag} {h : Heap} {mg : Str → Option Value} {fa f : Addr} {od an : Option Addr} {sl : Array (Option Value)} {oc kV dc pm cd ct : Value} (X : K.In h) (G : h.Ns mainGlobals mg) (hfa : mg "law" = some (.ref fa)) (T : Txt K mg)
    (t_is_size : Tx K mg "is_size" s_is_size p_is_size)
    (t_check_things : Tx K mg "check_things" s_check_things p_check_things)
    (t_is_set : Tx K mg "is_set" s_is_set p_is_set)
    (t_check_set : Tx K mg "check_set" s_check_set p_check_set)
    (t_check_table : Tx K mg "check_table" s_check_table p_check_table)
    (t_is_thing : Tx K mg "is_thing" s_is_thing p_is_thing)
    (t_listed : Tx K mg "listed" s_listed p_listed)
    (t_least_thing : Tx K mg "least_thing" s_least_thing p_least_thing)
    (t_has_form : Tx K mg "has_form" s_has_form p_has_form)
    (t_check_tree : Tx K mg "check_tree" s_check_tree p_check_tree)
    (t_need_tree : Tx K mg "need_tree" s_need_tree p_need_tree)
    (t_things_of : Tx K mg "things_of" s_things_of p_things_of)
    (t_make_any : Tx K mg "make_any" s_make_any p_make_any)
    (t_make_row : Tx K mg "make_row" s_make_row p_make_row)
    (t_normalized : Tx K mg "normalized" s_normalized p_normalized)
    (t_plain_tree : Tx K mg "plain_tree" s_plain_tree p_plain_tree)
    (t_collect_sets : Tx K mg "collect_sets" s_collect_sets p_collect_sets)
    (t_sets_of : Tx K mg "sets_of" s_sets_of p_sets_of)
    (t_share : Tx K mg "share" s_share p_share)
    (t_with_share : Tx K mg "with_share" s_with_share p_with_share)
    (t_split_any : Tx K mg "split_any" s_split_any p_split_any)
    (t_ascends : Tx K mg "ascends" s_ascends p_ascends)
    (t_split_row : Tx K mg "split_row" s_split_row p_split_row)
    (t_split : Tx K mg "split" s_split p_split)
    (t_joined_any : Tx K mg "joined_any" s_joined_any p_joined_any)
    (t_joined_row : Tx K mg "joined_row" s_joined_row p_joined_row)
    (t_joined : Tx K mg "joined" s_joined p_joined)
    (t_reduced_by : Tx K mg "reduced_by" s_reduced_by p_reduced_by)
    (t_reduced : Tx K mg "reduced" s_reduced p_reduced)
    (t_reduced_by_all : Tx K mg "reduced_by_all" s_reduced_by_all p_reduced_by_all)
    (t_tree_of : Tx K mg "tree_of" s_tree_of p_tree_of)
    (t_common : Tx K mg "common" s_common p_common)
    (t_is_always_together : Tx K mg "is_always_together" s_is_always_together p_is_always_together)
    (t_factorial : Tx K mg "factorial" s_factorial p_factorial)
    (t_sequences : Tx K mg "sequences" s_sequences p_sequences)
    (t_counted : Tx K mg "counted" s_counted p_counted)
    (t_count : Tx K mg "count" s_count p_count)
    (t__law_cell : Tx K mg "_law_cell" s__law_cell p__law_cell)
    (t__law_digits : Tx K mg "_law_digits" s__law_digits p__law_digits)
    (t__law_rich : Tx K mg "_law_rich" s__law_rich p__law_rich)
    (t__law_order : Tx K mg "_law_order" s__law_order p__law_order)
    (t__law_set : Tx K mg "_law_set" s__law_set p__law_set)
    (t__law_stretch : Tx K mg "_law_stretch" s__law_stretch p__law_stretch)
    (t__law_table : Tx K mg "_law_table" s__law_table p__law_table)
    (a : PySem.W.nsIn K mainGlobals "law" = some (some (.ref f))) (l1 : K.lookup f = some ⟨oc, od, .func (PySem.W.fnOf "law" "law" (defArgs s_law) (defBody s_law) (defScope s_law) .none kV dc pm an cd ct), sl⟩) (c : PySem.W.codeIn K cd "law" = true) (k : PySem.W.keepIn K (.ref f) = true) :
    ∃ fd : FuncData, (∀ (s : Shared) (u : Value), BindsTo s fd ⟨[u], []⟩ [("_law_script", u)]) ∧ ∀ base : Heap, K.In base → base.Ns mainGlobals mg → FnOk l.prog w K mg base CX0 105 fa fd ["_law_script"] (spLaw K) := by
  have e := hfa.symm.trans (PySem.W.mg_of X G a)
  cases e
  have F := fun_mk (st := s_law) l1 c k
  refine ⟨PySem.W.fnOf "law" "law" (defArgs s_law) (defBody s_law) (defScope s_law) .none kV dc pm an cd ct, fun s v => .of_eq rfl, fun base _ _ => ?_⟩
  have is_size := c_is_size (P := l.prog) (w := w) (base := base) T t_is_size
  have check_things := c_check_things (P := l.prog) (w := w) (base := base) T t_check_things is_size
  have is_set := c_is_set (P := l.prog) (w := w) (base := base) T t_is_set
  have check_set := c_check_set (P := l.prog) (w := w) (base := base) T t_check_set is_size is_set
  have check_table := c_check_table (P := l.prog) (w := w) (base := base) T t_check_table is_size check_set
  have is_thing := c_is_thing (P := l.prog) (w := w) (base := base) T t_is_thing
  have listed := c_listed (P := l.prog) (w := w) (base := base) T t_listed is_thing 24
  have least_thing := c_least_thing (P := l.prog) (w := w) (base := base) T t_least_thing listed
  have has_form := c_has_form (P := l.prog) (w := w) (base := base) T t_has_form is_thing 24
  have check_tree := c_check_tree (P := l.prog) (w := w) (base := base) T t_check_tree is_size has_form listed
  have need_tree := c_need_tree (P := l.prog) (w := w) (base := base) T t_need_tree has_form listed check_tree
  have things_of := c_things_of (P := l.prog) (w := w) (base := base) T t_things_of has_form listed
  have make_any := c_make_any (P := l.prog) (w := w) (base := base) T t_make_any
  have make_row := c_make_row (P := l.prog) (w := w) (base := base) T t_make_row make_any
  have normalized := c_normalized (P := l.prog) (w := w) (base := base) T t_normalized is_thing least_thing 24
  have plain_tree := c_plain_tree (P := l.prog) (w := w) (base := base) T t_plain_tree check_things make_any
  have collect_sets := c_collect_sets (P := l.prog) (w := w) (base := base) T t_collect_sets is_thing listed 24
  have sets_of := c_sets_of (P := l.prog) (w := w) (base := base) T t_sets_of things_of collect_sets
  have share := c_share (P := l.prog) (w := w) (base := base) T t_share listed
  have with_share := c_with_share (P := l.prog) (w := w) (base := base) T t_with_share share
  have ascends := c_ascends (P := l.prog) (w := w) (base := base) T t_ascends
  have split := c_split (P := l.prog) (w := w) (base := base) T t_split t_split_any t_split_row share ascends with_share make_any 24
  have joined_any := c_joined_any (P := l.prog) (w := w) (base := base) T t_joined_any with_share make_any make_row split
  have joined_row := c_joined_row (P := l.prog) (w := w) (base := base) T t_joined_row share make_row split
  have joined := c_joined (P := l.prog) (w := w) (base := base) T t_joined is_thing share joined_any joined_row 24
  have reduced_by := c_reduced_by (P := l.prog) (w := w) (base := base) T t_reduced_by normalized joined
  have reduced := c_reduced (P := l.prog) (w := w) (base := base) T t_reduced need_tree listed check_set reduced_by
  have reduced_by_all := c_reduced_by_all (P := l.prog) (w := w) (base := base) T t_reduced_by_all reduced_by
  have tree_of := c_tree_of (P := l.prog) (w := w) (base := base) T t_tree_of check_table plain_tree reduced_by_all
  have common := c_common (P := l.prog) (w := w) (base := base) T t_common need_tree listed check_tree normalized sets_of reduced_by_all
  have always := c_is_always_together (P := l.prog) (w := w) (base := base) T t_is_always_together reduced normalized
  have factorial := c_factorial (P := l.prog) (w := w) (base := base) T t_factorial
  have sequences := c_sequences (P := l.prog) (w := w) (base := base) T t_sequences factorial
  have counted := c_counted (P := l.prog) (w := w) (base := base) T t_counted is_thing sequences 12
  have count := c_count (P := l.prog) (w := w) (base := base) T t_count need_tree counted
  have cell := c__law_cell (P := l.prog) (w := w) (base := base) T t__law_cell
  have digits := c__law_digits (P := l.prog) (w := w) (base := base) T t__law_digits
  have rich := c__law_rich (P := l.prog) (w := w) (base := base) T t__law_rich
  have order := c__law_order (P := l.prog) (w := w) (base := base) T t__law_order rich
  have lset := c__law_set (P := l.prog) (w := w) (base := base) T t__law_set rich
  have stretch := c__law_stretch (P := l.prog) (w := w) (base := base) T t__law_stretch digits rich
  have table := c__law_table (P := l.prog) (w := w) (base := base) T t__law_table cell lset stretch
  exact c_law (P := l.prog) (w := w) (base := base) T F cell order lset stretch table tree_of reduced common count always
end Wk
open PySem PySem.W PyProof.Rows
set_option maxRecDepth 100000 in
set_option maxHeartbeats 0 in
theorem PySem.Challenge.cw_unpartedrows_k35_whole_more_sets_holds : PySem.Challenge.rw_unpartedrows_k35_whole_more_sets.Holds := by
  w_on; o_law; k_head; (case hw => w_witness2)
  k_fill
  refine L2.walk_of (l := PySem.Challenge.rw_unpartedrows_k35_whole_more_sets) (n := 63) (k := 105) (x := "_law_script") (CX := fun _ => L2.CX0) (sp := fun w => Wk.spLaw _) rfl (by decide) rfl ⟨rfl, by decide, by decide⟩ (fun w h Y => PySem.W.kIn_of Y) ?F (fun _ _ a ns _ _ hS => ⟨a, ns, rfl, hS, fun _ => rfl⟩) (fun _ _ _ _ _ h => h)
  case F =>
    intro w mg fa h KX G hmg
    refine' Wk.all_mk KX G hmg ?txt ?t_is_size ?t_check_things ?t_is_set ?t_check_set ?t_check_table ?t_is_thing ?t_listed ?t_least_thing ?t_has_form ?t_check_tree ?t_need_tree ?t_things_of ?t_make_any ?t_make_row ?t_normalized ?t_plain_tree ?t_collect_sets ?t_sets_of ?t_share ?t_with_share ?t_split_any ?t_ascends ?t_split_row ?t_split ?t_joined_any ?t_joined_row ?t_joined ?t_reduced_by ?t_reduced ?t_reduced_by_all ?t_tree_of ?t_common ?t_is_always_together ?t_factorial ?t_sequences ?t_counted ?t_count ?t__law_cell ?t__law_digits ?t__law_rich ?t__law_order ?t__law_set ?t__law_stretch ?t__law_table ?a ?l ?c ?k
    (case a => k_is); (case l => k_is); (case c => k_is); (case k => k_is)
    case txt =>
      refine' Wk.txt_mk KX G ?z0 ?z1 ?z2 ?z3 ?z4 ?z5 ?z6 ?z7 ?z8 ?z9 ?z10 ?z11 ?z12 ?m1 ?m2 ?aW ?lW
      (case z0 => k_is); (case z1 => k_is); (case z2 => k_is); (case z3 => k_is); (case z4 => k_is); (case z5 => k_is); (case z6 => k_is); (case z7 => k_is); (case z8 => k_is); (case z9 => k_is); (case z10 => k_is); (case z11 => k_is); (case z12 => k_is)
      (case m1 => k_is); (case m2 => k_is); (case aW => k_is); (case lW => k_is)
    case t_is_size =>
      refine' Wk.tx_mk KX G Wk.hb_is_size ?a ?l ?c ?k
      (case a => k_is); (case l => k_is); (case c => k_is); (case k => k_is)
    case t_check_things =>
      refine' Wk.tx_mk KX G Wk.hb_check_things ?a ?l ?c ?k
      (case a => k_is); (case l => k_is); (case c => k_is); (case k => k_is)
    case t_is_set =>
      refine' Wk.tx_mk KX G Wk.hb_is_set ?a ?l ?c ?k
      (case a => k_is); (case l => k_is); (case c => k_is); (case k => k_is)
    case t_check_set =>
      refine' Wk.tx_mk KX G Wk.hb_check_set ?a ?l ?c ?k
      (case a => k_is); (case l => k_is); (case c => k_is); (case k => k_is)
    case t_check_table =>
      refine' Wk.tx_mk KX G Wk.hb_check_table ?a ?l ?c ?k
      (case a => k_is); (case l => k_is); (case c => k_is); (case k => k_is)
    case t_is_thing =>
      refine' Wk.tx_mk KX G Wk.hb_is_thing ?a ?l ?c ?k
      (case a => k_is); (case l => k_is); (case c => k_is); (case k => k_is)
    case t_listed =>
      refine' Wk.tx_mk KX G Wk.hb_listed ?a ?l ?c ?k
      (case a => k_is); (case l => k_is); (case c => k_is); (case k => k_is)
    case t_least_thing =>
      refine' Wk.tx_mk KX G Wk.hb_least_thing ?a ?l ?c ?k
      (case a => k_is); (case l => k_is); (case c => k_is); (case k => k_is)
    case t_has_form =>
      refine' Wk.tx_mk KX G Wk.hb_has_form ?a ?l ?c ?k
      (case a => k_is); (case l => k_is); (case c => k_is); (case k => k_is)
    case t_check_tree =>
      refine' Wk.tx_mk KX G Wk.hb_check_tree ?a ?l ?c ?k
      (case a => k_is); (case l => k_is); (case c => k_is); (case k => k_is)
    case t_need_tree =>
      refine' Wk.tx_mk KX G Wk.hb_need_tree ?a ?l ?c ?k
      (case a => k_is); (case l => k_is); (case c => k_is); (case k => k_is)
    case t_things_of =>
      refine' Wk.tx_mk KX G Wk.hb_things_of ?a ?l ?c ?k
      (case a => k_is); (case l => k_is); (case c => k_is); (case k => k_is)
    case t_make_any =>
      refine' Wk.tx_mk KX G Wk.hb_make_any ?a ?l ?c ?k
      (case a => k_is); (case l => k_is); (case c => k_is); (case k => k_is)
    case t_make_row =>
      refine' Wk.tx_mk KX G Wk.hb_make_row ?a ?l ?c ?k
      (case a => k_is); (case l => k_is); (case c => k_is); (case k => k_is)
    case t_normalized =>
      refine' Wk.tx_mk KX G Wk.hb_normalized ?a ?l ?c ?k
      (case a => k_is); (case l => k_is); (case c => k_is); (case k => k_is)
    case t_plain_tree =>
      refine' Wk.tx_mk KX G Wk.hb_plain_tree ?a ?l ?c ?k
      (case a => k_is); (case l => k_is); (case c => k_is); (case k => k_is)
    case t_collect_sets =>
      refine' Wk.tx_mk KX G Wk.hb_collect_sets ?a ?l ?c ?k
      (case a => k_is); (case l => k_is); (case c => k_is); (case k => k_is)
    case t_sets_of =>
      refine' Wk.tx_mk KX G Wk.hb_sets_of ?a ?l ?c ?k
      (case a => k_is); (case l => k_is); (case c => k_is); (case k => k_is)
    case t_share =>
      refine' Wk.tx_mk KX G Wk.hb_share ?a ?l ?c ?k
      (case a => k_is); (case l => k_is); (case c => k_is); (case k => k_is)
    case t_with_share =>
      refine' Wk.tx_mk KX G Wk.hb_with_share ?a ?l ?c ?k
      (case a => k_is); (case l => k_is); (case c => k_is); (case k => k_is)
    case t_split_any =>
      refine' Wk.tx_mk KX G Wk.hb_split_any ?a ?l ?c ?k
      (case a => k_is); (case l => k_is); (case c => k_is); (case k => k_is)
    case t_ascends =>
      refine' Wk.tx_mk KX G Wk.hb_ascends ?a ?l ?c ?k
      (case a => k_is); (case l => k_is); (case c => k_is); (case k => k_is)
    case t_split_row =>
      refine' Wk.tx_mk KX G Wk.hb_split_row ?a ?l ?c ?k
      (case a => k_is); (case l => k_is); (case c => k_is); (case k => k_is)
    case t_split =>
      refine' Wk.tx_mk KX G Wk.hb_split ?a ?l ?c ?k
      (case a => k_is); (case l => k_is); (case c => k_is); (case k => k_is)
    case t_joined_any =>
      refine' Wk.tx_mk KX G Wk.hb_joined_any ?a ?l ?c ?k
      (case a => k_is); (case l => k_is); (case c => k_is); (case k => k_is)
    case t_joined_row =>
      refine' Wk.tx_mk KX G Wk.hb_joined_row ?a ?l ?c ?k
      (case a => k_is); (case l => k_is); (case c => k_is); (case k => k_is)
    case t_joined =>
      refine' Wk.tx_mk KX G Wk.hb_joined ?a ?l ?c ?k
      (case a => k_is); (case l => k_is); (case c => k_is); (case k => k_is)
    case t_reduced_by =>
      refine' Wk.tx_mk KX G Wk.hb_reduced_by ?a ?l ?c ?k
      (case a => k_is); (case l => k_is); (case c => k_is); (case k => k_is)
    case t_reduced =>
      refine' Wk.tx_mk KX G Wk.hb_reduced ?a ?l ?c ?k
      (case a => k_is); (case l => k_is); (case c => k_is); (case k => k_is)
    case t_reduced_by_all =>
      refine' Wk.tx_mk KX G Wk.hb_reduced_by_all ?a ?l ?c ?k
      (case a => k_is); (case l => k_is); (case c => k_is); (case k => k_is)
    case t_tree_of =>
      refine' Wk.tx_mk KX G Wk.hb_tree_of ?a ?l ?c ?k
      (case a => k_is); (case l => k_is); (case c => k_is); (case k => k_is)
    case t_common =>
      refine' Wk.tx_mk KX G Wk.hb_common ?a ?l ?c ?k
      (case a => k_is); (case l => k_is); (case c => k_is); (case k => k_is)
    case t_is_always_together =>
      refine' Wk.tx_mk KX G Wk.hb_is_always_together ?a ?l ?c ?k
      (case a => k_is); (case l => k_is); (case c => k_is); (case k => k_is)
    case t_factorial =>
      refine' Wk.tx_mk KX G Wk.hb_factorial ?a ?l ?c ?k
      (case a => k_is); (case l => k_is); (case c => k_is); (case k => k_is)
    case t_sequences =>
      refine' Wk.tx_mk KX G Wk.hb_sequences ?a ?l ?c ?k
      (case a => k_is); (case l => k_is); (case c => k_is); (case k => k_is)
    case t_counted =>
      refine' Wk.tx_mk KX G Wk.hb_counted ?a ?l ?c ?k
      (case a => k_is); (case l => k_is); (case c => k_is); (case k => k_is)
    case t_count =>
      refine' Wk.tx_mk KX G Wk.hb_count ?a ?l ?c ?k
      (case a => k_is); (case l => k_is); (case c => k_is); (case k => k_is)
    case t__law_cell =>
      refine' Wk.tx_mk KX G Wk.hb__law_cell ?a ?l ?c ?k
      (case a => k_is); (case l => k_is); (case c => k_is); (case k => k_is)
    case t__law_digits =>
      refine' Wk.tx_mk KX G Wk.hb__law_digits ?a ?l ?c ?k
      (case a => k_is); (case l => k_is); (case c => k_is); (case k => k_is)
    case t__law_rich =>
      refine' Wk.tx_mk KX G Wk.hb__law_rich ?a ?l ?c ?k
      (case a => k_is); (case l => k_is); (case c => k_is); (case k => k_is)
    case t__law_order =>
      refine' Wk.tx_mk KX G Wk.hb__law_order ?a ?l ?c ?k
      (case a => k_is); (case l => k_is); (case c => k_is); (case k => k_is)
    case t__law_set =>
      refine' Wk.tx_mk KX G Wk.hb__law_set ?a ?l ?c ?k
      (case a => k_is); (case l => k_is); (case c => k_is); (case k => k_is)
    case t__law_stretch =>
      refine' Wk.tx_mk KX G Wk.hb__law_stretch ?a ?l ?c ?k
      (case a => k_is); (case l => k_is); (case c => k_is); (case k => k_is)
    case t__law_table =>
      refine' Wk.tx_mk KX G Wk.hb__law_table ?a ?l ?c ?k
      (case a => k_is); (case l => k_is); (case c => k_is); (case k => k_is)
