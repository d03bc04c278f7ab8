import PyProof.Rows.All
import Wide.All
import OpenK.AllK
import Wide.FinOn
import PyProof.Rows.StrMeet
import PyProof.Rows.TmSorted
import HandS.ForMost
import HandS.Codes
import HandS.Evl
import HandS.Star
import HandS.Property
import HandS.IsInst
import HandS.FStr
import HandS.Zip
import HandS.Walk
import HandS.SetFor
import HandS.Strs
import PySem.Challenge.RW_firstdecides_k12_whole_rows_joined
import KE.GoesEnum
import KE.GoesMore
import HandS.Defaults
set_option Elab.async false
set_option linter.all false
set_option maxRecDepth 100000
/-! K12M: the mathematics, no program in sight: sorting of texts, joined rows, orders that bear, implies. -/
namespace K12
open PySem PySem.Spec PyProof.Rows

/-! ### texts in ascending order -/
abbrev leS (a b : Str) : Bool := !ltCps b.cps.toList a.cps.toList
theorem leS_iff {a b : Str} : leS a b = true ↔ ¬ b.cps.toList < a.cps.toList := by
  unfold leS
  rw [ltCps_eq]
  simp
theorem leS_trans (a b c : Str) (h1 : leS a b = true) (h2 : leS b c = true) : leS a c = true := by
  rw [leS_iff] at h1 h2 ⊢
  rw [List.not_lt] at h1 h2 ⊢
  exact List.le_trans h1 h2
theorem leS_total (a b : Str) : (leS a b || leS b a) = true := by
  rw [Bool.or_eq_true, leS_iff, leS_iff, List.not_lt, List.not_lt]
  exact List.le_total _ _
theorem leS_anti {a b : Str} (h1 : leS a b = true) (h2 : leS b a = true) : a = b := by
  rw [leS_iff, List.not_lt] at h1 h2
  have e : a.cps.toList = b.cps.toList := List.le_antisymm h1 h2
  have e2 : a.cps = b.cps := by
    apply Array.ext'
    exact e
  cases a
  cases b
  exact congrArg Str.mk e2
/-- ascending -/
abbrev Asc (l : List Str) : Prop := l.Pairwise fun a b => leS a b = true
theorem asc_of_rising : ∀ (p : Str) (l : List Str), risingS p l = true → Asc (p :: l)
  | p, [], _ => List.pairwise_singleton _ _
  | p, x :: r, h => by
    have h0 : (!ltCps x.cps.toList p.cps.toList && risingS x r) = true := h
    rw [Bool.and_eq_true] at h0
    have ih := asc_of_rising x r h0.2
    refine List.pairwise_cons.mpr ⟨fun y hy => ?_, ih⟩
    rcases List.mem_cons.mp hy with e | hy
    · rw [e]
      exact h0.1
    · exact leS_trans p x y h0.1 ((List.pairwise_cons.mp ih).1 y hy)
theorem asc_of_sortedS : ∀ {l : List Str}, sortedS l = true → Asc l
  | [], _ => List.Pairwise.nil
  | x :: r, h => asc_of_rising x r h
def srt (xs : List Str) : List Str := xs.mergeSort leS
theorem srt_perm (xs : List Str) : (srt xs).Perm xs := List.mergeSort_perm xs leS
theorem srt_asc (xs : List Str) : Asc (srt xs) := List.pairwise_mergeSort leS_trans leS_total xs
theorem asc_uniq : ∀ {l m : List Str}, Asc l → Asc m → l.Perm m → l = m
  | [], m, _, _, h => (List.Perm.eq_nil h.symm).symm
  | x :: l, [], _, _, h => absurd h.length_eq (by simp)
  | x :: l, y :: m, hl, hm, h => by
    have hx : x ∈ y :: m := h.mem_iff.mp List.mem_cons_self
    have hy : y ∈ x :: l := h.mem_iff.mpr List.mem_cons_self
    have e : x = y := by
      rcases List.mem_cons.mp hx with e | hx
      · exact e
      · rcases List.mem_cons.mp hy with e | hy
        · exact e.symm
        · exact leS_anti ((List.pairwise_cons.mp hl).1 y hy) ((List.pairwise_cons.mp hm).1 x hx)
    subst e
    rw [asc_uniq (List.pairwise_cons.mp hl).2 (List.pairwise_cons.mp hm).2 (List.Perm.cons_inv h)]
theorem srt_of {ys xs : List Str} (p : ys.Perm xs) (h : sortedS ys = true) : ys = srt xs := asc_uniq (asc_of_sortedS h) (srt_asc xs) (p.trans (srt_perm xs).symm)
theorem mem_srt {x : Str} {xs : List Str} : x ∈ srt xs ↔ x ∈ xs := (srt_perm xs).mem_iff
theorem srt_length (xs : List Str) : (srt xs).length = xs.length := (srt_perm xs).length_eq
theorem srt_nodup {xs : List Str} : (srt xs).Nodup ↔ xs.Nodup := (srt_perm xs).nodup_iff
theorem srt_id {xs : List Str} (h : Asc xs) : srt xs = xs := asc_uniq (srt_asc xs) h (srt_perm xs)
/-- sets as ascending lists -/
theorem asc_ext {l m : List Str} (al : Asc l) (am : Asc m) (nl : l.Nodup) (nm : m.Nodup) (h : ∀ x, x ∈ l ↔ x ∈ m) : l = m :=
  asc_uniq al am ((List.perm_ext_iff_of_nodup nl nm).mpr h)
theorem srt_ext {l m : List Str} (nl : l.Nodup) (nm : m.Nodup) (h : ∀ x, x ∈ l ↔ x ∈ m) : srt l = srt m :=
  asc_ext (srt_asc _) (srt_asc _) (srt_nodup.mpr nl) (srt_nodup.mpr nm) fun x => by rw [mem_srt, mem_srt]; exact h x
theorem asc_filter {l : List Str} (h : Asc l) (p : Str → Bool) : Asc (l.filter p) := List.Pairwise.filter p h

/-! ### the sides of a row -/
abbrev Sides := List Str × List Str
/-- different names, none on both sides -/
structure Wf (s : Sides) : Prop where
  g : s.1.Nodup
  b : s.2.Nodup
  d : ∀ x ∈ s.1, x ∉ s.2
def rowOf (s : Sides) : Sides := (srt s.1, srt s.2)
theorem Wf.row {s : Sides} (h : Wf s) : Wf (rowOf s) := ⟨srt_nodup.mpr h.g, srt_nodup.mpr h.b, fun x hx hb => h.d x (mem_srt.mp hx) (mem_srt.mp hb)⟩
/-- the names of two lists, the second's behind -/
def both (a b : List Str) : List Str := a ++ b.filter fun x => decide (x ∉ a)
theorem mem_both {a b : List Str} {x : Str} : x ∈ both a b ↔ x ∈ a ∨ x ∈ b := by
  unfold both
  rw [List.mem_append, List.mem_filter]
  constructor
  · rintro (h | ⟨h, _⟩)
    · exact .inl h
    · exact .inr h
  · intro h
    by_cases ha : x ∈ a
    · exact .inl ha
    · exact .inr ⟨h.resolve_left ha, decide_eq_true ha⟩
theorem nodup_both {a b : List Str} (ha : a.Nodup) (hb : b.Nodup) : (both a b).Nodup := by
  unfold both
  refine List.nodup_append.mpr ⟨ha, hb.sublist List.filter_sublist, fun x hx y hy e => ?_⟩
  subst e
  exact of_decide_eq_true (List.mem_filter.mp hy).2 hx
/-- what the law joins -/
def joinS (a b : Sides) : Sides := (srt ((both a.1 b.1).filter fun x => decide (x ∉ srt (both a.2 b.2))), srt (both a.2 b.2))
theorem mem_join1 {a b : Sides} {x : Str} : x ∈ (joinS a b).1 ↔ (x ∈ a.1 ∨ x ∈ b.1) ∧ x ∉ a.2 ∧ x ∉ b.2 := by
  show x ∈ srt _ ↔ _
  rw [mem_srt, List.mem_filter, mem_both, decide_eq_true_eq, mem_srt, mem_both, not_or]
theorem mem_join2 {a b : Sides} {x : Str} : x ∈ (joinS a b).2 ↔ x ∈ a.2 ∨ x ∈ b.2 := by
  show x ∈ srt _ ↔ _
  rw [mem_srt, mem_both]
theorem wf_join {a b : Sides} (ha : Wf a) (hb : Wf b) : Wf (joinS a b) :=
  ⟨srt_nodup.mpr ((nodup_both ha.g hb.g).sublist List.filter_sublist), srt_nodup.mpr (nodup_both ha.b hb.b), fun x h1 h2 => by
    rw [mem_join1] at h1
    rw [mem_join2] at h2
    exact h2.elim h1.2.1 h1.2.2⟩
theorem join_asc (a b : Sides) : Asc (joinS a b).1 ∧ Asc (joinS a b).2 := ⟨srt_asc _, srt_asc _⟩
theorem row_join (a b : Sides) : rowOf (joinS a b) = joinS a b := by
  unfold rowOf
  rw [srt_id (join_asc a b).1, srt_id (join_asc a b).2]
/-- what the program joins: the reasons for are any list S of different names that has the members of the one that the program filters -/
def orCon (a b : Sides) : List Str := both a.2 b.2
def orPro (a b : Sides) : List Str := (a.1 ++ b.1).filter fun x => decide (x ∉ orCon a b)
theorem or_join {a b : Sides} (ha : Wf a) (hb : Wf b) {S : List Str} (nS : S.Nodup) (hS : ∀ x, x ∈ S ↔ x ∈ orPro (rowOf a) (rowOf b)) :
    rowOf (S, orCon (rowOf a) (rowOf b)) = joinS a b := by
  have w := wf_join ha hb
  have e1 : srt S = (joinS a b).1 := asc_ext (srt_asc _) (join_asc a b).1 (srt_nodup.mpr nS) w.g fun x => by
    rw [mem_srt, hS, mem_join1]
    unfold orPro orCon rowOf
    rw [List.mem_filter, List.mem_append, decide_eq_true_eq, mem_both, not_or]
    simp only [mem_srt]
  have e2 : srt (orCon (rowOf a) (rowOf b)) = (joinS a b).2 := asc_ext (srt_asc _) (join_asc a b).2 (srt_nodup.mpr (nodup_both ha.row.b hb.row.b)) w.b fun x => by
    rw [mem_srt, mem_join2]
    unfold orCon rowOf
    rw [mem_both]
    simp only [mem_srt]
  exact Prod.ext e1 e2
theorem join_congr {a a' b b' : Sides} (ha : Wf a) (ha' : Wf a') (hb : Wf b) (hb' : Wf b') (e1 : ∀ x, x ∈ a.1 ↔ x ∈ a'.1) (e2 : ∀ x, x ∈ a.2 ↔ x ∈ a'.2) (e3 : ∀ x, x ∈ b.1 ↔ x ∈ b'.1) (e4 : ∀ x, x ∈ b.2 ↔ x ∈ b'.2) : joinS a b = joinS a' b' := by
  have w := wf_join ha hb
  have w' := wf_join ha' hb'
  refine Prod.ext (asc_ext (join_asc a b).1 (join_asc a' b').1 w.g w'.g fun x => ?_) (asc_ext (join_asc a b).2 (join_asc a' b').2 w.b w'.b fun x => ?_)
  · rw [mem_join1, mem_join1, e1, e2, e3, e4]
  · rw [mem_join2, mem_join2, e2, e4]
/-- joining a row a second time changes nothing -/
theorem join_again {a b : Sides} (ha : Wf a) (hb : Wf b) : joinS (joinS a b) a = joinS a b := by
  have w := wf_join ha hb
  have w' := wf_join w ha
  refine Prod.ext (asc_ext (join_asc _ _).1 (join_asc a b).1 w'.g w.g fun x => ?_) (asc_ext (join_asc _ _).2 (join_asc a b).2 w'.b w.b fun x => ?_)
  · rw [mem_join1, mem_join1, mem_join2]
    constructor
    · rintro ⟨h | h, h2, h3⟩
      · exact h
      · exact ⟨.inl h, fun q => h2 (.inl q), fun q => h2 (.inr q)⟩
    · rintro ⟨h, h2, h3⟩
      exact ⟨.inl ⟨h, h2, h3⟩, fun q => q.elim h2 h3, h2⟩
  · rw [mem_join2, mem_join2]
    constructor
    · rintro (h | h)
      · exact h
      · exact .inl h
    · exact .inl

/-! ### a line bears sides -/
/-- the least place of a reason for -/
def topOf (line : List Str) (g : List Str) : Nat := (g.map line.idxOf).foldr min line.length
def bearsL (line : List Str) (s : Sides) : Bool := (s.2.filter fun x => decide (line.idxOf x < topOf line s.1)) == []
theorem top_le {line g : List Str} {x : Str} (h : x ∈ g) : topOf line g ≤ line.idxOf x := by
  unfold topOf
  induction g with
  | nil => cases h
  | cons y r ih =>
    rw [List.map_cons, List.foldr_cons]
    rcases List.mem_cons.mp h with e | h
    · rw [e]; exact Nat.min_le_left _ _
    · exact Nat.le_trans (Nat.min_le_right _ _) (ih h)
theorem top_is {line : List Str} : ∀ (g : List Str), topOf line g = line.length ∨ ∃ x ∈ g, topOf line g = line.idxOf x
  | [] => .inl rfl
  | y :: r => by
    have e : topOf line (y :: r) = min (line.idxOf y) (topOf line r) := rfl
    rcases Nat.le_total (line.idxOf y) (topOf line r) with h | h
    · exact .inr ⟨y, List.mem_cons_self, by rw [e, Nat.min_eq_left h]⟩
    · rcases top_is r with q | ⟨x, hx, q⟩
      · exact .inl (by rw [e, Nat.min_eq_right h, q])
      · exact .inr ⟨x, List.mem_cons_of_mem _ hx, by rw [e, Nat.min_eq_right h, q]⟩
theorem filter_nil_beq {l : List Str} {p : Str → Bool} : ((l.filter p) == []) = true ↔ ∀ x ∈ l, p x = false := by
  rw [beq_iff_eq, List.filter_eq_nil_iff]
  constructor
  · intro h x hx
    exact Bool.eq_false_iff.mpr (h x hx)
  · intro h x hx
    rw [h x hx]
    decide
/-- each reason against stands below some reason for -/
theorem bears_iff {line : List Str} {s : Sides} (hb : ∀ x ∈ s.2, x ∈ line) : bearsL line s = true ↔ ∀ x ∈ s.2, ∃ y ∈ s.1, line.idxOf y ≤ line.idxOf x := by
  unfold bearsL
  rw [filter_nil_beq]
  constructor
  · intro h x hx
    have q := of_decide_eq_false (h x hx)
    rcases top_is (line := line) s.1 with e | ⟨y, hy, e⟩
    · rw [e] at q
      exact absurd (List.idxOf_lt_length_of_mem (hb x hx)) q
    · exact ⟨y, hy, by rw [← e]; exact Nat.le_of_not_lt q⟩
  · intro h x hx
    obtain ⟨y, hy, q⟩ := h x hx
    exact decide_eq_false (Nat.not_lt.mpr (Nat.le_trans (top_le hy) q))
/-- only the members count -/
theorem bears_congr {line : List Str} {s t : Sides} (hb : ∀ x ∈ s.2, x ∈ line) (e1 : ∀ x, x ∈ s.1 ↔ x ∈ t.1) (e2 : ∀ x, x ∈ s.2 ↔ x ∈ t.2) : bearsL line s = bearsL line t := by
  have hb' : ∀ x ∈ t.2, x ∈ line := fun x hx => hb x ((e2 x).mpr hx)
  rw [Bool.eq_iff_iff, bears_iff hb, bears_iff hb']
  constructor
  · intro h x hx
    obtain ⟨y, hy, q⟩ := h x ((e2 x).mpr hx)
    exact ⟨y, (e1 y).mp hy, q⟩
  · intro h x hx
    obtain ⟨y, hy, q⟩ := h x ((e2 x).mp hx)
    exact ⟨y, (e1 y).mpr hy, q⟩
/-- an order that bears two rows bears the joined one -/
theorem bears_join {line : List Str} {a b : Sides} (wa : Wf a) (wb : Wf b) (g1 : ∀ x ∈ a.1, x ∈ line) (g2 : ∀ x ∈ b.1, x ∈ line) (h1 : ∀ x ∈ a.2, x ∈ line) (h2 : ∀ x ∈ b.2, x ∈ line)
    (ha : bearsL line a = true) (hb : bearsL line b = true) : bearsL line (joinS a b) = true := by
  have hj : ∀ x ∈ (joinS a b).2, x ∈ line := fun x hx => (mem_join2.mp hx).elim (h1 x) (h2 x)
  rw [bears_iff h1] at ha
  rw [bears_iff h2] at hb
  rw [bears_iff hj]
  have idx : ∀ {x y : Str}, x ∈ line → line.idxOf x = line.idxOf y → x = y := fun {x y} hx e => by
    have l1 := List.idxOf_lt_length_of_mem hx
    have q1 := List.getElem_idxOf l1
    have l2 : line.idxOf y < line.length := e ▸ l1
    have q2 := List.getElem_idxOf l2
    rw [← q1, ← q2]
    simp only [e]
  have step : ∀ x, x ∈ a.2 ∨ x ∈ b.2 → ∃ y, (y ∈ a.1 ∨ y ∈ b.1) ∧ line.idxOf y < line.idxOf x := fun x hx => by
    rcases hx with hx | hx
    · obtain ⟨y, hy, q⟩ := ha x hx
      exact ⟨y, .inl hy, Nat.lt_of_le_of_ne q fun e => wa.d y hy (idx (g1 y hy) e ▸ hx)⟩
    · obtain ⟨y, hy, q⟩ := hb x hx
      exact ⟨y, .inr hy, Nat.lt_of_le_of_ne q fun e => wb.d y hy (idx (g2 y hy) e ▸ hx)⟩
  have go : ∀ (n : Nat) (x : Str), line.idxOf x = n → (x ∈ a.2 ∨ x ∈ b.2) → ∃ y ∈ (joinS a b).1, line.idxOf y ≤ line.idxOf x := by
    intro n
    induction n using Nat.strongRecOn with
    | ind n ih =>
      intro x e hx
      obtain ⟨y, hy, q⟩ := step x hx
      by_cases c : y ∈ a.2 ∨ y ∈ b.2
      · obtain ⟨z, hz, r⟩ := ih (line.idxOf y) (e ▸ q) y rfl c
        exact ⟨z, hz, Nat.le_trans r (Nat.le_of_lt q)⟩
      · rw [not_or] at c
        exact ⟨y, mem_join1.mpr ⟨hy, c⟩, Nat.le_of_lt q⟩
  exact fun x hx => go _ x rfl (mem_join2.mp hx)

/-! ### what an order of the program says -/
def bearsO (line : List Str) (s : Sides) : Bool := match line.find? fun x => decide (x ∈ s.1 ++ s.2) with
  | none => true
  | some r => decide (r ∈ s.1)
theorem bears_order {line : List Str} {s : Sides} (w : Wf s) (hg : ∀ x ∈ s.1, x ∈ line) (hb : ∀ x ∈ s.2, x ∈ line) : bearsO line s = bearsL line s := by
  rw [Bool.eq_iff_iff, bears_iff hb]
  unfold bearsO
  cases e : line.find? fun x => decide (x ∈ s.1 ++ s.2) with
  | none =>
    have q := List.find?_eq_none.mp e
    refine ⟨fun _ x hx => absurd (decide_eq_true (List.mem_append_right _ hx)) (q x (hb x hx)), fun _ => rfl⟩
  | some r =>
    obtain ⟨hr, p, l, el, hp⟩ := List.find?_eq_some_iff_append.mp e
    have hr' : r ∈ s.1 ++ s.2 := of_decide_eq_true hr
    have hp' : ∀ x ∈ p, x ∉ s.1 ∧ x ∉ s.2 := fun x hx => by
      have q := hp x hx
      rw [Bool.not_eq_true', decide_eq_false_iff_not, List.mem_append, not_or] at q
      exact q
    have idr : line.idxOf r ≤ p.length := by
      have hrp : r ∉ p := fun q => (List.mem_append.mp hr').elim (hp' r q).1 (hp' r q).2
      rw [el, List.idxOf_append, if_neg hrp]
      simp
    have far : ∀ x ∈ s.1 ++ s.2, p.length ≤ line.idxOf x := fun x hx => by
      have hxp : x ∉ p := fun q => (List.mem_append.mp hx).elim (hp' x q).1 (hp' x q).2
      rw [el, List.idxOf_append, if_neg hxp]
      omega
    show decide (r ∈ s.1) = true ↔ _
    rw [decide_eq_true_eq]
    constructor
    · intro h x hx
      exact ⟨r, h, Nat.le_trans idr (far x (List.mem_append_right _ hx))⟩
    · intro h
      rcases List.mem_append.mp hr' with h' | h'
      · exact h'
      · exfalso
        obtain ⟨y, hy, q⟩ := h r h'
        have fy := far y (List.mem_append_left _ hy)
        have e2 : line.idxOf y = p.length := by omega
        have ly := List.idxOf_lt_length_of_mem (hg y hy)
        have gy := List.getElem_idxOf ly
        have ey : y = r := by
          rw [← gy]
          simp only [e2]
          simp [el]
        exact w.d y hy (ey ▸ h')

/-! ### implies -/
def impl (a b : Sides) : Bool :=
  if (decide (a.1 = []) && decide (a.2 ≠ [])) || decide (b.2 = []) then true
  else if !(b.2.all fun x => decide (x ∈ a.2)) then false
  else a.1.all fun x => decide (x ∈ b.1)
/-- lines: each is an order of ns, and each order of ns is one -/
structure AllLines (ns : List Str) (lines : List (List Str)) : Prop where
  perm : ∀ l ∈ lines, l.Perm ns
  all : ∀ l : List Str, l.Perm ns → l ∈ lines
/-- an order with x first -/
theorem first_line {ns : List Str} {x : Str} (hx : x ∈ ns) : (x :: ns.erase x).Perm ns := (List.perm_cons_erase hx).symm
theorem idx_first (x : Str) (r : List Str) : (x :: r).idxOf x = 0 := by simp
theorem idx_later {x y : Str} (r : List Str) (h : x ≠ y) : (x :: r).idxOf y = r.idxOf y + 1 := by
  rw [List.idxOf_cons]
  have : (x == y) = false := beq_eq_false_iff_ne.mpr h
  rw [this]
  simp
theorem impl_due {ns : List Str} {lines : List (List Str)} (L : AllLines ns lines) {a b : Sides} (wa : Wf a) (wb : Wf b) (ga : ∀ x ∈ a.1, x ∈ ns) (ba : ∀ x ∈ a.2, x ∈ ns) (gb : ∀ x ∈ b.1, x ∈ ns) (bb : ∀ x ∈ b.2, x ∈ ns) :
    impl a b = ((lines.filter fun l => bearsL l a && !bearsL l b) == []) := by
  rw [Bool.eq_iff_iff, beq_iff_eq, List.filter_eq_nil_iff]
  -- a line that bears a, not b
  have bad : (∃ l : List Str, l.Perm ns ∧ bearsL l a = true ∧ bearsL l b = false) → ¬ ∀ l ∈ lines, ¬ (bearsL l a && !bearsL l b) = true := by
    rintro ⟨l, hl, h1, h2⟩ h
    exact h l (L.all l hl) (by rw [h1, h2] <;> rfl)
  have at1 : ∀ (l : List Str) (s : Sides), l.Perm ns → (∀ x ∈ s.2, x ∈ ns) → ∀ x ∈ s.2, x ∈ l := fun l s p h x hx => p.mem_iff.mpr (h x hx)
  unfold impl
  by_cases c1 : ((decide (a.1 = []) && decide (a.2 ≠ [])) || decide (b.2 = [])) = true
  · rw [if_pos c1]
    refine ⟨fun _ l hl h => ?_, fun _ => rfl⟩
    rw [Bool.and_eq_true, Bool.not_eq_true'] at h
    have p := L.perm l hl
    rw [Bool.or_eq_true, Bool.and_eq_true, decide_eq_true_eq, decide_eq_true_eq, decide_eq_true_eq] at c1
    rcases c1 with ⟨e1, e2⟩ | e3
    · obtain ⟨x, hx⟩ := List.exists_mem_of_ne_nil _ e2
      obtain ⟨y, hy, _⟩ := (bears_iff (at1 l a p ba)).mp h.1 x hx
      rw [e1] at hy
      cases hy
    · have q : bearsL l b = true := (bears_iff (at1 l b p bb)).mpr fun x hx => by rw [e3] at hx; cases hx
      rw [q] at h
      cases h.2
  · rw [if_neg c1]
    rw [Bool.or_eq_true, Bool.and_eq_true, decide_eq_true_eq, decide_eq_true_eq, decide_eq_true_eq, not_or, not_and] at c1
    obtain ⟨c1, c2⟩ := c1
    by_cases c3 : (b.2.all fun x => decide (x ∈ a.2)) = true
    · rw [c3]
      simp only [Bool.not_true, Bool.false_eq_true, if_false]
      rw [List.all_eq_true] at c3
      obtain ⟨z, hz⟩ := List.exists_mem_of_ne_nil _ c2
      have hza : z ∈ a.2 := of_decide_eq_true (c3 z hz)
      constructor
      · intro h l hl q
        rw [Bool.and_eq_true, Bool.not_eq_true'] at q
        rw [List.all_eq_true] at h
        have p := L.perm l hl
        have q1 := (bears_iff (at1 l a p ba)).mp q.1
        have q2 : bearsL l b = true := (bears_iff (at1 l b p bb)).mpr fun x hx => by
          obtain ⟨y, hy, r⟩ := q1 x (of_decide_eq_true (c3 x hx))
          exact ⟨y, of_decide_eq_true (h y hy), r⟩
        rw [q2] at q
        cases q.2
      · intro h
        rw [List.all_eq_true]
        intro y hy
        rw [decide_eq_true_eq]
        by_cases hyb : y ∈ b.1
        · exact hyb
        · exfalso
          have nyz : y ≠ z := fun e => wa.d y hy (by rw [e]; exact hza)
          have hzy : z ∈ ns.erase y := (List.mem_erase_of_ne (Ne.symm nyz)).mpr (bb z hz)
          have pl : (y :: z :: (ns.erase y).erase z).Perm ns := (List.Perm.cons y (first_line hzy)).trans (first_line (ga y hy))
          refine bad ⟨_, pl, (bears_iff (at1 _ a pl ba)).mpr fun x _ => ⟨y, hy, by rw [idx_first]; exact Nat.zero_le _⟩, Bool.eq_false_iff.mpr fun q => ?_⟩ h
          obtain ⟨w, hw, r⟩ := (bears_iff (at1 _ b pl bb)).mp q z hz
          have nyw : y ≠ w := fun e => hyb (e ▸ hw)
          have nzw : z ≠ w := fun e => wb.d w hw (e ▸ hz)
          rw [idx_later _ nyz, idx_first, idx_later _ nyw, idx_later _ nzw] at r
          omega
    · rw [Bool.not_eq_true] at c3
      rw [c3]
      simp only [Bool.not_false, if_true]
      refine ⟨fun z => (by cases z), fun h => ?_⟩
      exfalso
      rw [List.all_eq_false] at c3
      obtain ⟨x, hx, hxa⟩ := c3
      have hxa' : x ∉ a.2 := fun q => hxa (decide_eq_true q)
      -- no line with x first bears b
      have no : ∀ r : List Str, (x :: r).Perm ns → bearsL (x :: r) b = false := fun r pl => Bool.eq_false_iff.mpr fun q => by
        obtain ⟨w, hw, e⟩ := (bears_iff (at1 _ b pl bb)).mp q x hx
        have nxw : x ≠ w := fun e => wb.d w hw (e ▸ hx)
        rw [idx_first, idx_later _ nxw] at e
        omega
      by_cases hg : x ∈ a.1
      · have pl := first_line (bb x hx)
        exact bad ⟨_, pl, (bears_iff (at1 _ a pl ba)).mpr fun u _ => ⟨x, hg, by rw [idx_first]; exact Nat.zero_le _⟩, no _ pl⟩ h
      · cases ea : a.1 with
        | nil =>
          have e2 : a.2 = [] := Decidable.byContradiction fun q => c1 ea q
          have pl := first_line (bb x hx)
          exact bad ⟨_, pl, (bears_iff (at1 _ a pl ba)).mpr fun u hu => (by rw [e2] at hu; cases hu), no _ pl⟩ h
        | cons y r0 =>
          have hy : y ∈ a.1 := by rw [ea]; exact List.mem_cons_self
          have nxy : x ≠ y := fun e => hg (e ▸ hy)
          have hyx : y ∈ ns.erase x := (List.mem_erase_of_ne (Ne.symm nxy)).mpr (ga y hy)
          have pl : (x :: y :: (ns.erase x).erase y).Perm ns := (List.Perm.cons x (first_line hyx)).trans (first_line (bb x hx))
          refine bad ⟨_, pl, (bears_iff (at1 _ a pl ba)).mpr fun u hu => ⟨y, hy, ?_⟩, no _ pl⟩ h
          have nxu : x ≠ u := fun e => hxa' (e ▸ hu)
          rw [idx_later _ nxy, idx_first, idx_later _ nxu]
          omega

/-! ### all lines of the names, by putting each name in at each place -/
def putIn (t : Str) (l : List Str) : List (List Str) := (List.range (l.length + 1)).map fun k => l.take k ++ [t] ++ l.drop k
def moreL (t : Str) (ls : List (List Str)) : List (List Str) := (ls.map (putIn t)).flatten
def linesOf (ns : List Str) : List (List Str) := ns.foldl (fun ls t => moreL t ls) [[]]
theorem mem_putIn {t : Str} {l m : List Str} : m ∈ putIn t l ↔ ∃ a b, l = a ++ b ∧ m = a ++ t :: b := by
  unfold putIn
  rw [List.mem_map]
  constructor
  · rintro ⟨k, _, rfl⟩
    exact ⟨l.take k, l.drop k, (List.take_append_drop k l).symm, by simp⟩
  · rintro ⟨a, b, rfl, rfl⟩
    refine ⟨a.length, List.mem_range.mpr (by rw [List.length_append]; omega), ?_⟩
    rw [List.take_left, List.drop_left]
    simp
theorem mem_moreL {t : Str} {ls : List (List Str)} {m : List Str} : m ∈ moreL t ls ↔ ∃ a b, a ++ b ∈ ls ∧ m = a ++ t :: b := by
  unfold moreL
  rw [List.mem_flatten]
  constructor
  · rintro ⟨p, hp, hm⟩
    obtain ⟨l, hl, rfl⟩ := List.mem_map.mp hp
    obtain ⟨a, b, e, rfl⟩ := mem_putIn.mp hm
    exact ⟨a, b, e ▸ hl, rfl⟩
  · rintro ⟨a, b, h, rfl⟩
    exact ⟨_, List.mem_map.mpr ⟨_, h, rfl⟩, mem_putIn.mpr ⟨a, b, rfl, rfl⟩⟩
theorem all_more {t : Str} {ns : List Str} {ls : List (List Str)} (h : AllLines ns ls) : AllLines (ns ++ [t]) (moreL t ls) := by
  refine ⟨fun m hm => ?_, fun m hm => ?_⟩
  · obtain ⟨a, b, hl, rfl⟩ := mem_moreL.mp hm
    exact (List.perm_middle.trans (List.Perm.cons t (h.perm _ hl))).trans (List.perm_append_singleton t ns).symm
  · have ht : t ∈ m := hm.mem_iff.mpr (by simp)
    obtain ⟨a, b, rfl⟩ := List.append_of_mem ht
    refine mem_moreL.mpr ⟨a, b, h.all _ ?_, rfl⟩
    have q : (t :: (a ++ b)).Perm (t :: ns) := (List.perm_middle.symm.trans hm).trans (List.perm_append_singleton t ns)
    exact q.cons_inv
theorem all_lines : ∀ (ns : List Str), AllLines ns (linesOf ns) := by
  have go : ∀ (ns pre : List Str) (ls : List (List Str)), AllLines pre ls → AllLines (pre ++ ns) (ns.foldl (fun ls t => moreL t ls) ls) := by
    intro ns
    induction ns with
    | nil => intro pre ls h; rw [List.append_nil]; exact h
    | cons t r ih =>
      intro pre ls h
      have q := ih (pre ++ [t]) (moreL t ls) (all_more h)
      rw [List.append_assoc] at q
      exact q
  intro ns
  exact go ns [] [[]] ⟨fun l hl => by rw [List.mem_singleton.mp hl], fun l hl => by rw [hl.eq_nil]; exact List.mem_singleton.mpr rfl⟩
end K12

/-! K12A: the text by places, what stands in the heap, promises' shapes. -/
namespace K12
open PySem PySem.Spec PyProof.Rows L2 Evl

/-! ### the text -/
def top (i : Nat) : Stmt := PySem.Challenge.pw_firstdecides_k12_whole_rows_joined.main.body.getD i (.Pass ⟨0, 0, 0, 0⟩)
abbrev sSpelled : Stmt := top 11
abbrev sName : Stmt := top 12
abbrev sNames : Stmt := top 14
abbrev sRow (j : Nat) : Stmt := inClass (top 17) j
abbrev sOrder (j : Nat) : Stmt := inClass (top 20) j
abbrev sBag : Stmt := top 22
abbrev sDraw : Stmt := top 23
abbrev sOf : Stmt := top 24
abbrev sMixed : Stmt := top 25
abbrev sSame : Stmt := top 26
abbrev sLNames : Stmt := top 27
abbrev sLOrder : Stmt := top 28
abbrev sSides : Stmt := top 29
abbrev sRowText : Stmt := top 30
abbrev sJoin : Stmt := top 31
abbrev sBears : Stmt := top 32
abbrev sLines : Stmt := top 33
abbrev sRowOf : Stmt := top 34
abbrev sNear : Stmt := top 35
abbrev sRight : Stmt := top 36
abbrev sJoinedSo : Stmt := top 37
abbrev sImplied : Stmt := top 38
abbrev sLaw : Stmt := top 39

/-! ### the built-in names -/
structure Bi (mg : Str → Option Value) : Prop where
  isi : mg "isinstance" = none
  len : mg "len" = none
  all : mg "all" = none
  any : mg "any" = none
  set : mg "set" = none
  sorted : mg "sorted" = none
  list : mg "list" = none
  tuple : mg "tuple" = none
  int : mg "int" = none
  str : mg "str" = none
  bool : mg "bool" = none
  abs : mg "abs" = none
  range : mg "range" = none
  min : mg "min" = none
  zip : mg "zip" = none
  enum : mg "enumerate" = none

/-! ### names -/
def letters : Str := "abcdefghijklmnopqrstuvwxyz"
structure GoodName (z : Str) : Prop where
  lo : 1 ≤ z.length
  hi : z.length ≤ 6
  cs : ∀ c ∈ z.cps.toList, c ∈ letters.cps.toList
abbrev GoodNames (xs : List Str) : Prop := ∀ x ∈ xs, GoodName x

/-- what a promise of a value says: it is handed back, what was tracked stands -/
abbrev RV1 (v : V) (H : Hp) (Q : VK) : Prop := ∀ H', Ex H H' → Q v H'
/-- .. of a thing of which P is true -/
abbrev RP1 (P : V → Hp → Prop) (H : Hp) (Q : VK) : Prop := ∀ v H', Ex H H' → P v H' → Q v H'

theorem same_ex {H H' : Hp} (h : Same H H') : Ex H H' := h

/-! ### list comprehensions over the things of a list: which are taken, what is made of each -/
theorem et_yes {σ : L2.St} {H : Hp} : EvT tYes σ H true := fun H1 _ _ q => q H1 (Ex.refl H1)
theorem given_of {α : Type} (xs : List α) (d : α) (p : α → Bool) (g : α → V) : given xs.length (fun i => p (xs.getD i d)) (fun i => g (xs.getD i d)) = (xs.filter p).map g := by
  unfold given
  have e : (List.range xs.length).map (fun i => xs.getD i d) = xs := by
    apply List.ext_getElem
    · rw [List.length_map, List.length_range]
    · intro i h1 h2
      rw [List.getElem_map, List.getElem_range, List.getD_eq_getElem?_getD, List.getElem?_eq_getElem h2]
      rfl
  have e2 := congrArg (fun l => (l.filter p).map g) e
  rw [List.filter_map, List.map_map] at e2
  exact e2
theorem ft {α : Type} (l : List α) : l.filter (fun _ => true) = l := List.filter_eq_self.mpr fun _ _ => rfl
section
variable {J : It} {n : Nat} {G : Hp → Prop} {Y : Nat → Hp → V → Hp → Prop} {K : PySem.W.Frag} {a : Addr} {t : TT} {te : TE} {vs : List Nat} {j : Nat} {σ : L2.St} {H1 : Hp} {D : Addr} {Qd : Hp → Prop}
/-- a turn's two readings -/
theorem lc_turn {f : Nat → Bool} {v : Nat → V} {i : Nat} {H H' : Hp} {σ2 : L2.St} (p : Cw H1 f v D i H) (e : Ex H H') (hi : i < 50000) (ht : EvT t σ2 H' (f i)) (he : f i = true → Ev te σ2 H' (v i)) :
    t σ2 H' fun b H3 => if b = true then te σ2 H3 fun y H4 => ∃ acc, H4 D = some (.lst acc) ∧ acc.length < sizeLine ∧ Cw H1 f v D (i + 1) (upd H4 D (.lst (acc ++ [y]))) else Cw H1 f v D (i + 1) H3 := by
  obtain ⟨p1, p2, p3⟩ := p
  refine ht H' (Ex.refl _) _ fun H3 e3 => ?_
  have e03 : Ex H1 H3 := (p2.trans e).trans e3
  have d3 := e3 D _ (e D _ p3)
  cases hf : f i with
  | true =>
    refine iteT (he hf H3 e3 _ fun H4 e4 => ⟨given i f v, e4 D _ d3, sz_lt (by have := given_len i f v; omega), p1, Ex.mut (e03.trans e4) p1, ?_⟩)
    rw [given_yes hf]
    exact upd_same
  | false =>
    refine iteF ⟨p1, e03, ?_⟩
    rw [given_no hf]
    exact d3
theorem lcW (w : Walk J n G Y) (f : Nat → Bool) (v : Nat → V) (hD : H1 D = none) (hn : n ≤ 40000) (hG : ∀ H, Ex H1 H → G H) (hw : ∀ x, wipe ((wipe σ vs).set j (some x)) vs = wipe σ vs)
    (hs : ∀ i x H H', i < n → Ex H1 H → Y i H x H' → Ex H H' ∧ EvT t ((wipe σ vs).set j (some x)) H' (f i) ∧ (f i = true → Ev te ((wipe σ vs).set j (some x)) H' (v i)))
    (hd : ∀ H', Ex H1 H' → H' D = some (.lst (given n f v)) → Qd H') :
    ∃ W : Nat → Nat → Hp → Prop, (∃ m, W 0 m (upd H1 D (.lst []))) ∧ ∀ i m H, W i m H →
      (J.stop i H ∧ Qd H) ∨ (J.go i H ∧ ∃ Nx : Hp → Prop, (∀ H', Nx H' → ∃ m', m' < m ∧ W (i + 1) m' H') ∧ ∀ x H', J.yld i H x H' → gName j x (wipe σ vs) H' fun σ2 H2 => wipe σ2 vs = wipe σ vs ∧ t σ2 H2 fun b H3 =>
        if b = true then te σ2 H3 fun y H4 => ∃ acc, H4 D = some (.lst acc) ∧ acc.length < sizeLine ∧ Nx (upd H4 D (.lst (acc ++ [y]))) else Nx H3) :=
  lc_it w (Cw H1 f v D) ⟨hD, Ex.new hD, upd_same⟩ (fun i H _ p => hG H p.2.1) (fun i x H H' hi p y => by
    obtain ⟨e, ht, he⟩ := hs i x H H' hi p.2.1 y
    exact ⟨hw x, lc_turn p e (by omega) ht he⟩) (fun H p => hd H p.2.1 p.2.2)
variable {α : Type} {xs : List α} {emb : α → V}
theorem get_emb {d : α} {i : Nat} {x : V} (h : (xs.map emb)[i]? = some x) : x = emb (xs.getD i d) ∧ xs.getD i d ∈ xs := by
  rw [List.getElem?_map] at h
  cases q : xs[i]? with
  | none => rw [q] at h; cases h
  | some z =>
    rw [q] at h
    have e : xs.getD i d = z := by rw [List.getD_eq_getElem?_getD, q]; rfl
    rw [e]
    exact ⟨(Option.some.inj h).symm, List.mem_of_getElem? q⟩
/-- over a list -/
theorem lcL (d : α) (p : α → Bool) (g : α → V) (hx : SqL K H1 a (xs.map emb)) (hD : H1 D = none) (hn : xs.length ≤ 40000) (hw : ∀ x, wipe ((wipe σ vs).set j (some x)) vs = wipe σ vs)
    (hs : ∀ x H', x ∈ xs → Ex H1 H' → EvT t ((wipe σ vs).set j (some (emb x))) H' (p x) ∧ (p x = true → Ev te ((wipe σ vs).set j (some (emb x))) H' (g x)))
    (hd : ∀ H', Ex H1 H' → H' D = some (.lst ((xs.filter p).map g)) → Qd H') :
    ∃ W : Nat → Nat → Hp → Prop, (∃ m, W 0 m (upd H1 D (.lst []))) ∧ ∀ i m H, W i m H →
      ((Itl K a).stop i H ∧ Qd H) ∨ ((Itl K a).go i H ∧ ∃ Nx : Hp → Prop, (∀ H', Nx H' → ∃ m', m' < m ∧ W (i + 1) m' H') ∧ ∀ x H', (Itl K a).yld i H x H' → gName j x (wipe σ vs) H' fun σ2 H2 => wipe σ2 vs = wipe σ vs ∧ t σ2 H2 fun b H3 =>
        if b = true then te σ2 H3 fun y H4 => ∃ acc, H4 D = some (.lst acc) ∧ acc.length < sizeLine ∧ Nx (upd H4 D (.lst (acc ++ [y]))) else Nx H3) := by
  refine lcW (walk_list (K := K) (a := a) (xs := xs.map emb)) (fun i => p (xs.getD i d)) (fun i => g (xs.getD i d)) hD (by rw [List.length_map]; exact hn) (fun H e => ex_l e hx) hw (fun i x H H' hi e y => ?_) fun H' e h => hd H' e ?_
  · obtain ⟨rfl, hy⟩ := y
    obtain ⟨rfl, hm⟩ := get_emb (d := d) hy
    exact ⟨Ex.refl _, hs _ _ hm e⟩
  · rw [List.length_map, given_of] at h
    exact h
/-- over a tuple -/
theorem lcT (d : α) (p : α → Bool) (g : α → V) (hx : SqT K H1 a (xs.map emb)) (hD : H1 D = none) (hn : xs.length ≤ 40000) (hw : ∀ x, wipe ((wipe σ vs).set j (some x)) vs = wipe σ vs)
    (hs : ∀ x H', x ∈ xs → Ex H1 H' → EvT t ((wipe σ vs).set j (some (emb x))) H' (p x) ∧ (p x = true → Ev te ((wipe σ vs).set j (some (emb x))) H' (g x)))
    (hd : ∀ H', Ex H1 H' → H' D = some (.lst ((xs.filter p).map g)) → Qd H') :
    ∃ W : Nat → Nat → Hp → Prop, (∃ m, W 0 m (upd H1 D (.lst []))) ∧ ∀ i m H, W i m H →
      ((Itt K a).stop i H ∧ Qd H) ∨ ((Itt K a).go i H ∧ ∃ Nx : Hp → Prop, (∀ H', Nx H' → ∃ m', m' < m ∧ W (i + 1) m' H') ∧ ∀ x H', (Itt K a).yld i H x H' → gName j x (wipe σ vs) H' fun σ2 H2 => wipe σ2 vs = wipe σ vs ∧ t σ2 H2 fun b H3 =>
        if b = true then te σ2 H3 fun y H4 => ∃ acc, H4 D = some (.lst acc) ∧ acc.length < sizeLine ∧ Nx (upd H4 D (.lst (acc ++ [y]))) else Nx H3) := by
  refine lcW (walk_tup (K := K) (a := a) (xs := xs.map emb)) (fun i => p (xs.getD i d)) (fun i => g (xs.getD i d)) hD (by rw [List.length_map]; exact hn) (fun H e => ex_t e hx) hw (fun i x H H' hi e y => ?_) fun H' e h => hd H' e ?_
  · obtain ⟨rfl, hy⟩ := y
    obtain ⟨rfl, hm⟩ := get_emb (d := d) hy
    exact ⟨Ex.refl _, hs _ _ hm e⟩
  · rw [List.length_map, given_of] at h
    exact h
/-- over the signs of a text -/
theorem lcC {z : Str} (p : Nat → Bool) (g : Nat → V) (hD : H1 D = none) (hn : z.length ≤ 40000) (hw : ∀ x, wipe ((wipe σ vs).set j (some x)) vs = wipe σ vs)
    (hs : ∀ c H', c ∈ z.cps.toList → Ex H1 H' → EvT t ((wipe σ vs).set j (some (.str ⟨#[c]⟩))) H' (p c) ∧ (p c = true → Ev te ((wipe σ vs).set j (some (.str ⟨#[c]⟩))) H' (g c)))
    (hd : ∀ H', Ex H1 H' → H' D = some (.lst ((z.cps.toList.filter p).map g)) → Qd H') :
    ∃ W : Nat → Nat → Hp → Prop, (∃ m, W 0 m (upd H1 D (.lst []))) ∧ ∀ i m H, W i m H →
      ((Its z).stop i H ∧ Qd H) ∨ ((Its z).go i H ∧ ∃ Nx : Hp → Prop, (∀ H', Nx H' → ∃ m', m' < m ∧ W (i + 1) m' H') ∧ ∀ x H', (Its z).yld i H x H' → gName j x (wipe σ vs) H' fun σ2 H2 => wipe σ2 vs = wipe σ vs ∧ t σ2 H2 fun b H3 =>
        if b = true then te σ2 H3 fun y H4 => ∃ acc, H4 D = some (.lst acc) ∧ acc.length < sizeLine ∧ Nx (upd H4 D (.lst (acc ++ [y]))) else Nx H3) := by
  refine lcW (walk_str (z := z)) (fun i => p (z.cps.toList.getD i 0)) (fun i => g (z.cps.toList.getD i 0)) hD hn (fun _ _ => trivial) hw (fun i x H H' hi e y => ?_) fun H' e h => hd H' e ?_
  · obtain ⟨rfl, c, hc, rfl⟩ := y
    have hc' : z.cps.toList[i]? = some c := by rw [Array.getElem?_toList]; exact hc
    have e2 : z.cps.toList.getD i 0 = c := by rw [List.getD_eq_getElem?_getD, hc']; rfl
    rw [e2]
    exact ⟨Ex.refl _, hs c _ (List.mem_of_getElem? hc') e⟩
  · have q := given_of z.cps.toList 0 p g
    rw [Array.length_toList] at q
    rw [q] at h
    exact h
end

/-! ### is_spelled, is_name -/
def spSpelled : Sp := fun vs H Q _ => ∃ z : Str, vs = [.str z, .int 6] ∧ GoodName z ∧ RV1 (.bl true) H Q
def spName : Sp := fun vs H Q _ => ∃ z : Str, vs = [.str z] ∧ GoodName z ∧ RV1 (.bl true) H Q
theorem scSpelled : FnScope ["value", "most", "letter"] ["value", "most"] (C8.fnScope sSpelled) := C8.fnScope_by (by decide +kernel)
theorem scName : FnScope ["value"] ["value"] (C8.fnScope sName) := C8.fnScope_by (by decide +kernel)
section
variable {P : Program} {w : World} {K : PySem.W.Frag} {mg : Str → Option Value} {base : Heap}
theorem ok_spelled {f : Addr} {fd : FuncData} {tL : Tok} (B : Bi mg) (mL : mg "LETTERS" = some (.str letters tL)) (D : C8.Def K mg "is_spelled" sSpelled f fd) (b : Binds K fd ["value", "most"] []) : C8.Cal P w K mg base 1 "is_spelled" spSpelled [] := by
  refine C8.cal0 D b .nil scSpelled (fun vs H Q E h => ?_) (fun cdv A outer s H vs Q E hr h => ?_)
  · obtain ⟨z, rfl, _⟩ := h
    rfl
  obtain ⟨z, rfl, g, k⟩ := h
  refine ⟨_, pss_cons (ps_if (PW.pt (pw_or (pt_not (pt_val (pe_callB call_isi (by rfl) B.isi (by decide +kernel) (pa_cons (pv 0) (pa_cons (pe_bltn (v := .ty "str") (by rfl) B.str (by decide +kernel) rfl) pa_nil)))))
      (pw_or1 (pt_not (pt_chain op_le op_le pe_int (pe_callB call_len_str (by rfl) B.len PySem.boot_len (pa_cons (pv 0) pa_nil)) (pv 1))))))
      (pss_one (ps_ret pe_bl)) pss_nil)
    (pss_one (ps_ret (pe_callB (cr_all rfl) (by rfl) B.all (by decide +kernel) (pa_cons
      (pe_lc (own := [("letter", 2)]) (g := gName 2) (tt := tYes) rfl scSpelled.nd (pi_str (pv 0)) (blkOk_by (N := ["value", "most", "letter"]) (sc := C8.fnScope sSpelled) (by decide +kernel))
        (fun _ _ _ _ _ => pg_name (i := 2) scSpelled.nd rfl (Or.inl rfl)) (fun _ _ _ _ _ => pts_nil)
        (fun _ _ _ _ _ => pe_cmpR op_in_sign (pv 2) (pe_glob (v := .str letters) (by rfl) mL ⟨_, rfl⟩) (by rfl))) pa_nil)))), ?_⟩
  have hz : z.length ≤ sizeLine := sz_of (by have := g.hi; omega)
  have h1 : decide ((1 : Int) ≤ (z.length : Int)) = true := decide_eq_true (by have := g.lo; omega)
  have h2 : decide ((z.length : Int) ≤ 6) = true := decide_eq_true (by have := g.hi; omega)
  refine ⟨_, rfl, _, _, _, _, true, rfl, .ty "str", .base (.str _), kit_ty (by decide +kernel), true, rfl, ?_⟩
  refine iteF ⟨_, rfl, z, rfl, hz, _, _, rfl, rfl, _, rfl, ?_⟩
  rw [h1]
  refine iteT ⟨_, rfl, _, _, rfl, rfl, _, rfl, ?_⟩
  rw [h2]
  refine iteF ⟨_, rfl, z, rfl, fun D hD => lcC (fun _ => true) (fun _ => V.bl true) hD (by have := g.hi; omega) (fun _ => rfl) (fun c H' hc e => ⟨et_yes, fun _ H2 e2 Q' q => ⟨_, rfl, c, letters, rfl, rfl, ?_⟩⟩) fun H' e hL => ?_⟩
  · rw [decide_eq_true (g.cs c hc)]
    exact q H2 (Ex.refl _)
  · refine ⟨D, z.cps.toList.map fun _ => true, rfl, sq_of ?_, ?_⟩
    · rw [hL, ft, List.map_map]
      all_goals rfl
    · have e2 : ((z.cps.toList.map fun _ => true).all id) = true := by simp
      rw [e2]
      exact k _ e
theorem ok_name {f : Addr} {fd : FuncData} {t6 : Tok} (m6 : mg "NAME_LENGTH" = some (.int 6 t6)) (G : C8.Cal P w K mg base 1 "is_spelled" spSpelled []) (D : C8.Def K mg "is_name" sName f fd) (b : Binds K fd ["value"] []) : C8.Cal P w K mg base 2 "is_name" spName [] := by
  refine C8.cal0 D b .nil scName (fun vs H Q E h => ?_) (fun cdv A outer s H vs Q E hr h => ?_)
  · obtain ⟨z, rfl, _⟩ := h
    rfl
  obtain ⟨z, rfl, g, k⟩ := h
  refine ⟨_, pss_one (ps_ret (C8.pe_c G hr (by decide) (by rfl) (pa_cons (pv 0) (pa_cons (pe_glob (v := .int 6) (by rfl) m6 ⟨_, rfl⟩) pa_nil)))), ?_⟩
  exact ⟨_, rfl, z, rfl, g, k⟩
end
end K12

/-! K12S: a set made of a list of texts: how many there are, and its members in order. -/
namespace K12
open PySem PySem.Spec PyProof.Rows L2 Evl

/-- an entry of such a set -/
def TxE (w : World) (e : Int × Value) : Prop := ∃ k tk, e = (hashStr w k, Value.str k tk)
/-- the set at a has the texts l, in whatever order they lie in it -/
structure TxSet (w : World) (h : Heap) (a : Addr) (l : List Str) : Prop where
  there : ∃ o es ep t, h.get? a = some o ∧ o.ExactSet ∧ o.data = .set es ep t ∧ (∀ e ∈ es.toList, TxE w e) ∧ (es.toList.map fun e => strOf e.2).Perm l ∧ t.fits es.size = true ∧ Ris t.place.toList ∧ (w.params.followText "set-order" = true ∨ t.led = true)
  nd : l.Nodup
  few : l.length < scanBound
/-- one more text -/
def putTx (l : List Str) (k : Str) : List Str := if k ∈ l then l else k :: l
theorem putTx_nodup {l : List Str} {k : Str} (h : l.Nodup) : (putTx l k).Nodup := by
  unfold putTx
  split
  · exact h
  · exact List.nodup_cons.mpr ⟨by assumption, h⟩
theorem mem_putTx {l : List Str} {k x : Str} : x ∈ putTx l k ↔ x ∈ l ∨ x = k := by
  unfold putTx
  split
  · exact ⟨.inl, fun h => h.elim id fun e => e ▸ (by assumption)⟩
  · rw [List.mem_cons]
    exact Or.comm
theorem putTx_len (l : List Str) (k : Str) : (putTx l k).length ≤ l.length + 1 := by
  unfold putTx
  split
  · omega
  · rw [List.length_cons]
    omega
def allTx (xs : List Str) : List Str := xs.foldl putTx []
theorem allTx_snoc (xs : List Str) (k : Str) : allTx (xs ++ [k]) = putTx (allTx xs) k := by
  unfold allTx
  rw [List.foldl_append]
  rfl
theorem allTx_take {xs : List Str} {i : Nat} {k : Str} (h : xs[i]? = some k) : allTx (xs.take (i + 1)) = putTx (allTx (xs.take i)) k := by
  rw [List.take_add_one, h]
  exact allTx_snoc _ _
theorem allTx_facts : ∀ (n : Nat) (xs : List Str), xs.length = n → (allTx xs).Nodup ∧ (∀ x, x ∈ allTx xs ↔ x ∈ xs) ∧ (allTx xs).length ≤ n := by
  intro n
  induction n with
  | zero =>
    intro xs h
    rw [List.length_eq_zero_iff.mp h]
    exact ⟨List.nodup_nil, fun _ => Iff.rfl, Nat.le_refl _⟩
  | succ n ih =>
    intro xs h
    obtain ⟨ys, k, rfl⟩ : ∃ ys k, xs = ys ++ [k] := ⟨xs.dropLast, xs.getLast (fun e => by rw [e] at h; cases h), (List.dropLast_concat_getLast _).symm⟩
    rw [List.length_append, List.length_singleton] at h
    obtain ⟨i1, i2, i3⟩ := ih ys (by omega)
    rw [allTx_snoc]
    refine ⟨putTx_nodup i1, fun x => ?_, Nat.le_trans (putTx_len _ _) (by omega)⟩
    rw [mem_putTx, i2, List.mem_append, List.mem_singleton]
theorem allTx_nodup (xs : List Str) : (allTx xs).Nodup := (allTx_facts _ xs rfl).1
theorem mem_allTx {xs : List Str} {x : Str} : x ∈ allTx xs ↔ x ∈ xs := (allTx_facts _ xs rfl).2.1 x
theorem allTx_len (xs : List Str) : (allTx xs).length ≤ xs.length := (allTx_facts _ xs rfl).2.2
theorem allTx_same {xs : List Str} (h : xs.Nodup) : (allTx xs).length = xs.length := ((List.perm_ext_iff_of_nodup (allTx_nodup xs) h).mpr fun _ => mem_allTx).length_eq

section
variable {P : Program} {w : World} {h h' : Heap} {a : Addr} {l : List Str}
theorem tx_is {k : Str} {e : Int × Value} (g : TxE w e) : (PySem.strKind P w).is k e.2 = true ↔ strOf e.2 = k := by
  obtain ⟨k0, tk, rfl⟩ := g
  show (Value.isStrOf k (.str k0 tk)) = true ↔ k0 = k
  simp [Value.isStrOf]
theorem tx_elems {es : List (Int × Value)} (g : ∀ e ∈ es, TxE w e) : ElemsOf (PySem.strKind P w) es := fun e he => by
  obtain ⟨k, tk, rfl⟩ := g e he
  exact ⟨⟨k, strKind_is P w k tk, rfl⟩, rfl⟩
theorem TxSet.at (R : TxSet w h a l) (k : ∀ o, h.get? a = some o → h'.get? a = some o) : TxSet w h' a l := by
  obtain ⟨o, es, ep, t, ho, r⟩ := R.there
  exact ⟨⟨o, es, ep, t, k o ho, r⟩, R.nd, R.few⟩
theorem TxSet.new (ho : h.get? a = some { cls := .type "set", dict := none, data := .set #[] 0 (.fresh 0 0 (!w.params.followText "set-order")) }) : TxSet w h a [] :=
  ⟨⟨_, _, _, _, ho, ⟨rfl, rfl, rfl⟩, rfl, (by intro e he; simp at he), List.Perm.refl _, rfl, List.Pairwise.nil, by
    cases q : w.params.followText "set-order" with
    | true => exact .inl rfl
    | false => exact .inr rfl⟩, List.nodup_nil, by decide⟩
end

section
variable {P : Program} {w : World} {A : Around} {E : Value → Shared → Prop} {s : Shared} {a : Addr} {l : List Str}
/-- what is stored at the set's address -/
theorem tx_stored {h : Heap} {o : Obj} {es es' : Array (Int × Value)} {ep : Nat} {t t' : SetTable} (ho : h.get? a = some o) (hx : o.ExactSet) (hd : o.data = .set es ep t) (g : ∀ e ∈ es'.toList, TxE w e)
    (p : (es'.toList.map fun e => strOf e.2).Perm l) (nd : l.Nodup) (few : l.length < scanBound) (hf : t'.fits es'.size = true) (r : Ris t'.place.toList) (ld : w.params.followText "set-order" = true ∨ t'.led = true) :
    TxSet w (h.update a (Obj.putSet es' t')) a l :=
  ⟨⟨_, es', _, t', store_at ho hd, hx, rfl, g, p, hf, r, ld⟩, nd, few⟩
/-- the table is told: stored, and laid anew where it is too full -/
theorem tx_tail {g : Bool → Sem Unit} (hg : ∀ (b : Bool) (s₁ : Shared) (Q' : Unit → Shared → Prop), Q' () s₁ → wpAny (model P w) A (g b) Q' E s₁) {o : Obj} {es es1 : Array (Int × Value)} {ep : Nat} {t t2 : SetTable} (ho : s.heap.get? a = some o) (hx : o.ExactSet)
    (hd : o.data = .set es ep t) (ge : ∀ e ∈ es1.toList, TxE w e) (p : (es1.toList.map fun e => strOf e.2).Perm l) (nd : l.Nodup) (few : l.length < scanBound) (hf : t2.fits es1.size = true) (r : Ris t2.place.toList)
    (ld : w.params.followText "set-order" = true ∨ t2.led = true) {was : Bool} {R : Option Bool → Shared → Prop} (hR : ∀ h', Heap.SameBut a s.heap h' → TxSet w h' a l → R (some true) { s with heap := h' }) :
    wpAny (model P w) A (do
        storeSet a es1 t2
        if (!was && t2.tooFull) = true then do
            g (relayAll t2 es1 (SetTable.grown es1.size)).2.2
            storeSet a (relayAll t2 es1 (SetTable.grown es1.size)).1 (relayAll t2 es1 (SetTable.grown es1.size)).2.1
            pure (some true)
          else pure (some true)) R E s := by
  have len1 : es1.size = l.length := by
    have q := p.length_eq
    rw [List.length_map, Array.length_toList] at q
    exact q
  have sb1 := Heap.SameBut.update s.heap a (Obj.putSet es1 t2)
  have ho1 := store_at (es' := es1) (t' := t2) ho hd
  refine wpAny_bind (wpAny_storeSet_of ho hd ?_ (fits_of_scanBound (by rw [len1]; exact few)))
  split
  · have pm := relayAll_perm t2 es1 (SetTable.grown es1.size)
    have hf3 := relayAll_fits t2 es1 (SetTable.grown es1.size)
    have hr3 := relayAll_ris t2 es1 (SetTable.grown es1.size)
    have hl3 := relayAll_led t2 es1 (SetTable.grown es1.size)
    generalize relayAll t2 es1 (SetTable.grown es1.size) = Z at pm hf3 hr3 hl3 ⊢
    obtain ⟨es2, t3, gave⟩ := Z
    dsimp only at pm hf3 hr3 hl3 ⊢
    have len2 : es2.size = l.length := by
      have q := pm.length_eq
      rw [Array.length_toList, Array.length_toList] at q
      omega
    refine wpAny_bind (hg _ _ _ (wpAny_bind (wpAny_storeSet_of ho1 rfl (wpAny_pure (hR _ (sb1.trans (Heap.SameBut.update _ a _)) ?_)) (fits_of_scanBound (by rw [len2]; exact few)))))
    exact tx_stored ho1 hx rfl (fun e he => ge e (pm.mem_iff.mp he)) ((pm.map _).trans p) nd few hf3 hr3 (ld.imp id fun z => by rw [hl3]; exact z)
  · exact wpAny_pure (hR _ sb1 (tx_stored ho hx hd ge p nd few hf r ld))
/-- a text is put in -/
theorem tx_add {k : Str} {tk : Tok} {Q : Bool → Shared → Prop} (R : TxSet w s.heap a l) (room : l.length + 1 < scanBound) (hQ : ∀ b h', Heap.SameBut a s.heap h' → TxSet w h' a (putTx l k) → Q b { s with heap := h' }) :
    wpAny (model P w) A (setAddHashed a (.str k tk) ((PySem.strKind P w).hash k)) Q E s := by
  obtain ⟨⟨o, es, ep, t, ho, hx, hd, ge, p, hf, r, ld⟩, nd, few⟩ := R
  have hsc : (Value.str k tk).scannable = true := rfl
  have len0 : es.size = l.length := by
    have q := p.length_eq
    rw [List.length_map, Array.length_toList] at q
    exact q
  have el : ElemsOf (PySem.strKind P w) es.toList := tx_elems ge
  have hb : es.size < scanBound := by rw [len0]; exact few
  unfold setAddHashed setAddHashedIn
  refine wpAny_holding (wpAny_bind (wpAny_setState_of ho hd hf ?_))
  dsimp only
  rw [byScan_of hsc hb el]
  simp only [↓reduceIte]
  unfold setAddByScan
  refine wpAny_bind (wpAny_bind (wpAny_rule (wpAny_bind (wpAny_setScan_of (strKind_is P w k tk) ho hd hf el ?_))))
  cases hfi : List.findIdx? (fun e => (PySem.strKind P w).is k e.2) es.toList with
  | some j =>
    dsimp only
    obtain ⟨hj, pj, _⟩ := List.findIdx?_eq_some_iff_getElem.mp hfi
    have hk : k ∈ l := by
      have m := List.getElem_mem hj
      exact p.mem_iff.mp (List.mem_map.mpr ⟨_, m, (tx_is (P := P) (ge _ m)).mp pj⟩)
    refine wpAny_pure (wpAny_pure ?_)
    refine hQ _ s.heap (Heap.SameBut.refl a s.heap) ?_
    unfold putTx
    rw [if_pos hk]
    exact ⟨⟨o, es, ep, t, ho, hx, hd, ge, p, hf, r, ld⟩, nd, few⟩
  | none =>
    dsimp only
    have hk : k ∉ l := fun z => by
      obtain ⟨e, he, q⟩ := List.mem_map.mp (p.mem_iff.mpr z)
      have c := List.findIdx?_eq_none_iff.mp hfi e he
      rw [(tx_is (P := P) (ge e he)).mpr q] at c
      cases c
    have quiet : ∀ (b : Bool) (s₁ : Shared) (Q' : Unit → Shared → Prop), Q' () s₁ → wpAny (model P w) A (match b with | true => rule "set.scan.the-table-gave-way" | false => pure ()) Q' E s₁ :=
      fun b s₁ Q' q => by cases b <;> first | exact wpAny_pure q | exact wpAny_rule q
    have pm := layNew_perm t es ((PySem.strKind P w).hash k) (.str k tk)
    have hf1 := layNew_fits t es ((PySem.strKind P w).hash k) (.str k tk)
    have hr1 := layNew_ris t es ((PySem.strKind P w).hash k) (.str k tk) r
    have hl1 := layNew_led t es ((PySem.strKind P w).hash k) (.str k tk)
    generalize layNew t es ((PySem.strKind P w).hash k) (.str k tk) = Z at pm hf1 hr1 hl1 ⊢
    obtain ⟨es1, t1, was, gave⟩ := Z
    dsimp only at pm hf1 hr1 hl1 ⊢
    rw [Array.toList_push] at pm
    have pc := pm.trans (List.perm_append_singleton _ _)
    have ep1 : putTx l k = k :: l := if_neg hk
    have p1 : (es1.toList.map fun e => strOf e.2).Perm (putTx l k) := by
      rw [ep1]
      exact (pc.map _).trans (List.Perm.cons k p)
    have ge1 : ∀ e ∈ es1.toList, TxE w e := fun e he => by
      rcases List.mem_cons.mp (pc.mem_iff.mp he) with z | z
      · exact ⟨k, tk, z⟩
      · exact ge e z
    have nd1 : (putTx l k).Nodup := putTx_nodup nd
    have few1 : (putTx l k).length < scanBound := Nat.lt_of_le_of_lt (putTx_len l k) room
    have ld1 : w.params.followText "set-order" = true ∨ t1.led = true := ld.imp id fun z => by rw [hl1]; exact z
    refine wpAny_bind (quiet _ _ _ ?_)
    split
    · refine wpAny_bind ?_
      rw [hashByValue_scannable 8 hsc]
      refine wpAny_pure (tx_tail quiet ho hx hd ge1 p1 nd1 few1 ?_ ?_ ?_ fun h' sb r' => ?_)
      · first | (split <;> first | exact hf1 | exact SetTable.fits_plain_off hf1) | exact hf1
      · first | (split <;> exact hr1) | exact hr1
      · first | (split <;> exact ld1) | exact ld1
      · dsimp only
        exact wpAny_pure (hQ _ h' sb r')
    · refine wpAny_bind (wpAny_pure ?_)
      simp only [↓reduceIte]
      refine tx_tail quiet ho hx hd ge1 p1 nd1 few1 hf1 hr1 ld1 fun h' sb r' => ?_
      dsimp only
      exact wpAny_pure (hQ _ h' sb r')
/-- the loop of set.update over a walk that yields the texts xs -/
theorem tx_loop {I : Addr} {fp wr : List Addr} {G : Array GenState → Array GenState → Prop} {n : Nat} {Pv : Nat → Value → Prop} {St : Nat → Shared → Prop} {R : Result → Shared → Prop} (W : WalksS P w A.in1 I fp wr G n Pv St) (S : Addr) (hS : S ∉ fp)
    (xs : List Str) (hn : n = xs.length) (few : xs.length + 1 < scanBound) (hv : ∀ i v, Pv i v → ∃ k t, xs[i]? = some k ∧ v = .str k t) :
    ∀ (m i : Nat) (s : Shared), n - i = m → i ≤ n → St i s → TxSet w s.heap S (allTx (xs.take i)) → (∀ s', Moved (S :: wr) G s s' → TxSet w s'.heap S (allTx xs) → R (.ok (.ret .none)) s') →
      codeAny (model P w) A (.builtin "set.update.loop" ⟨[.ref S, .ref I], []⟩) R s := by
  have hw : S ∉ wr := fun h => hS (W.sub _ h)
  have sub : ∀ b ∈ wr, b ∈ S :: wr := fun b hb => List.mem_cons_of_mem _ hb
  intro m
  induction m with
  | zero =>
    intro i s hm hi st T hR
    have e : i = n := by omega
    subst e
    refine codeAny_builtin F.entry_set_update_loop ?_
    rw [Around.under_plainId F.plain_set_update_loop _]
    refine wpAny_bind (m := pyNext (.ref I)) (W.done s _ _ st fun s' mv => ?_)
    refine wpAny_pure (hR s' (mv.mono sub) ?_)
    rw [List.take_of_length_le (by omega)] at T
    exact T.at fun o q => mv.heap S o hw q
  | succ m ih =>
    intro i s hm hi st T hR
    have lt : i < n := by omega
    refine codeAny_builtin F.entry_set_update_loop ?_
    rw [Around.under_plainId F.plain_set_update_loop _]
    refine wpAny_bind (m := pyNext (.ref I)) (W.item i s _ _ lt st fun v s' pv st' mv => ?_)
    obtain ⟨k, t, hk, rfl⟩ := hv i v pv
    have T' := T.at (h' := s'.heap) fun o q => mv.heap S o hw q
    have small : (allTx (xs.take i)).length + 1 < scanBound := by
      have q := allTx_len (xs.take i)
      rw [List.length_take] at q
      omega
    refine wpAny_bind (m := holding [Value.str k t] (setAdd S (.str k t))) (wpAny_holding ?_)
    unfold setAdd
    refine wpAny_holding (wpAny_bind ((PySem.strKind P w).pyHash (k := k) (strKind_is _ _ _ _) ?_))
    refine tx_add (s := { s' with toks := s'.toks + 1 }) T' small fun b h' sb T2 => ?_
    rw [← allTx_take hk] at T2
    refine wpAny_pure ⟨plainId_quiet F.plain_set_update_loop _, ih (i + 1) _ (by omega) lt (W.frame _ s' _ _ st' (Nat.le_succ _) fun b hb o q => ?_) T2 fun s3 mv3 T3 => ?_⟩
    · have ne : b ≠ S := fun z => hS (z ▸ hb)
      exact (sb.2 b ne).trans q
    · refine hR s3 (Moved.trans W.gtrans ((mv.mono sub).then_heap (Nat.le_succ _) fun b o hb q => ?_) mv3) T3
      have ne : b ≠ S := fun z => hb (z ▸ List.mem_cons_self)
      exact (sb.2 b ne).trans q
/-- the object that set.__new__ lays -/
abbrev tx0 (w : World) : Obj := { cls := .type "set", dict := none, data := .set #[] 0 (.fresh 0 0 (!w.params.followText "set-order")) }
set_option maxHeartbeats 4000000 in
/-- set(xs) of a list of texts -/
theorem tx_set {b : Addr} {items : Array Value} (xs : List Str) {Q : Value → Shared → Prop} (hh : A.handled = none) (hl : s.heap.IsList b items) (hx : StrsAre items.toList xs) (few : xs.length + 1 < scanBound)
    (h : ∀ (h' : Heap) (tk : Nat), TxSet w h' s.heap.objs.size (allTx xs) → (∀ c o, s.heap.get? c = some o → h'.get? c = some o) → Q (.ref s.heap.objs.size) { s with heap := h', toks := tk }) :
    wpAny (model P w) A (call (.type "set") [.ref b]) Q E s := by
  have len : items.size = xs.length := by rw [← StrsAre.len_eq hx, Array.length_toList]
  obtain ⟨c, tl, hmro⟩ := F.called_set.mro
  have hmade := F.called_set.made
  have hsub := F.called_set.sub
  have f1 := F.called_set.notType
  have f2 := F.called_set.canCreate
  have f3 := F.typeCall_set_1 (.ref b)
  refine wpAny_call (codeAny_of_tree ?_)
  show wpAny _ _ (callAny (.type "set") _) _ _ _
  refine wpAny_pure ⟨Code.quiet_builtin _ (by decide +kernel), codeAny_builtin F.entry_type_call ?_⟩
  rw [Around.under_plain (weight_type_call_type "set" [.ref b] []) rfl]
  repeat (any_goals (first | assumption | wp_step))
  refine codeAny_mono (code_set_led1 (.ref b) (E := E) (Q₁ := fun obj s₁ => obj = .ref s.heap.objs.size ∧ s₁ = { s with heap := s.heap.push (tx0 w) }) ⟨rfl, rfl⟩) fun r s₁ hr => ?_
  cases r with
  | error e => exact hr
  | ok fl =>
    cases fl with
    | ret obj =>
      obtain ⟨rfl, rfl⟩ := hr
      have here : (s.heap.push (tx0 w)).get? s.heap.objs.size = some (tx0 w) := Heap.get?_push_size _ rfl
      have hT : Shared.TypeIs { s with heap := s.heap.push (tx0 w) } (.ref s.heap.objs.size) "set" := ⟨_, here, rfl⟩
      have g1 := F.called_set.init.lookup
      have g2 := F.called_set.init.bind (.ref s.heap.objs.size)
      repeat (any_goals (first | assumption | wp_step))
      refine codeAny_mono (codeAny_call_builtin (R := wants (fun r s₂ => r = .none ∧ ∃ h' tk, s₂ = { s with heap := h', toks := tk } ∧ TxSet w h' s.heap.objs.size (allTx xs) ∧ (∀ c o, s.heap.get? c = some o → h'.get? c = some o)) E)
        F.called_set.init.plain F.entry_set_init (check_set_init_1 hT ?_)) fun r₂ s₂ hr₂ => ?_
      · obtain ⟨⟨oc, od, odt, osl⟩, hol, e1, nl, e2⟩ := hl
        simp only at e1 e2
        subst e1 e2
        have hol1 : (s.heap.push (tx0 w)).get? b = some { cls := .type "list", dict := od, data := .seq items nl, slots := osl } := Heap.get?_push_of_some _ hol
        have hl1 : (s.heap.push (tx0 w)).IsList b items := ⟨_, hol1, rfl, nl, rfl⟩
        have sb1 := F.sub_list_set
        have sb2 := F.sub_list_frozenset
        have nd : (Value.type "list" == Value.type "dict") = false := by decide
        unfold Builtin.«set.__init__» noKeywords Builtin.Frozenset.updateFrom
        generalize hPI : pyIter = PI
        wp_walk
        subst hPI
        refine wpAny_pyIter_list hl1 (wpAny_bind (wpAny_runValue ?_))
        have lt : b < s.heap.objs.size := Heap.lt_size hol
        have sz : (s.heap.push (tx0 w)).objs.size = s.heap.objs.size + 1 := Heap.size_push ..
        have hI : b ≠ (s.heap.push (tx0 w)).objs.size := by rw [sz]; exact Nat.ne_of_lt (Nat.lt_succ_of_lt lt)
        have hS : s.heap.objs.size ∉ [(s.heap.push (tx0 w)).objs.size, b] := by
          rw [sz, List.mem_cons, List.mem_singleton, not_or]
          exact ⟨Nat.ne_of_lt (Nat.lt_succ_self _), Nat.ne_of_gt lt⟩
        have a0 : A.in1.in1.in1.handled = none := by simp [hh]
        refine tx_loop ((Walks.list a0 _ b hI items).toS) s.heap.objs.size hS xs len few (fun i v hv => ?_) (items.size - 0) 0 _ (by omega) (Nat.zero_le _) ⟨⟨_, Heap.get?_push_size _ rfl, rfl, rfl⟩, hl1.push _⟩ (TxSet.new (Heap.get?_push_of_some _ here)) fun s' mv T => ?_
        · have li : i < xs.length := by rw [← len]; exact (Array.getElem?_eq_some_iff.mp hv).1
          obtain ⟨t, e⟩ := SS.strs_at hx i v (by rw [Array.getElem?_toList]; exact hv)
          refine ⟨xs[i], t, List.getElem?_eq_getElem li, ?_⟩
          rw [e, List.getD_eq_getElem?_getD, List.getElem?_eq_getElem li]
          all_goals rfl
        · obtain ⟨h', g2, d', tk', os'⟩ := s'
          obtain rfl : g2 = s.gens := mv.gens
          obtain rfl : d' = s.drawn := mv.drawn
          obtain rfl : os' = s.os := mv.os
          show wpAny _ _ _ _ _ _
          refine wpAny_pure (show wpAny _ _ (ret Value.none) _ _ _ from wpAny_pure ⟨rfl, h', tk', rfl, T, fun c o q => ?_⟩)
          have lc : c < s.heap.objs.size := Heap.lt_size q
          refine mv.heap c o ?_ (Heap.get?_push_of_some _ (Heap.get?_push_of_some _ q))
          rw [List.mem_cons, List.mem_singleton, sz, not_or]
          exact ⟨Nat.ne_of_lt lc, Nat.ne_of_lt (Nat.lt_succ_of_lt lc)⟩
      · cases r₂ with
        | error e => exact hr₂
        | ok fl₂ =>
          cases fl₂ with
          | ret r =>
            obtain ⟨rfl, h', tk, rfl, T, k⟩ := hr₂
            repeat (any_goals (first | assumption | wp_step))
            exact h _ _ T k
          | _ => exact hr₂.elim
    | _ => exact hr.elim
/-- sorted(of that set) -/
theorem tx_sorted {Q : Value → Shared → Prop} (R : TxSet w s.heap a l) (hh : A.handled = none) (few : l.length < 64)
    (hQ : ∀ s' p (out : Array Value) (c : Nat) (ys : List Str), (∀ b o, s.heap.get? b = some o → s'.heap.get? b = some o) → s'.gens = s.gens → s'.os = s.os → s.heap.objs.size ≤ p →
      s'.heap.get? p = some (seqObj "list" out c) → StrsAre out.toList ys → ys.Perm l → sortedS ys = true → Q (.ref p) s') :
    wpAny (model P w) A (call (.builtin "sorted") [.ref a]) Q E s := by
  obtain ⟨⟨o, es, ep, t, ho, hx, hd, ge, p, hf, r, ld⟩, nd, fewB⟩ := R
  have len0 : es.size = l.length := by
    have q := p.length_eq
    rw [List.length_map, Array.length_toList] at q
    exact q
  refine Calls.call_function_entry kind_sorted plain_sorted entry_sorted (args_sorted1 _) ?_
  unfold Builtin.«sorted»
  refine wpAny_bind (m := checkCount "sorted" 1 1 _) (wpAny_pure (wpAny_bind (collect_set (A := A.in1) hh ⟨o, ho, hx.1, hd⟩ hf (by rw [len0]; exact fewB) r ld fun s1 vs k1 z1 g1 o1 pm => ?_)))
  have lenv : vs.length = l.length := by rw [pm.length_eq, List.length_map, Array.length_toList, len0]
  have hS : StrsAre vs (vs.map strOf) := strsAre_map vs fun v hv => by
    obtain ⟨e, he, rfl⟩ := List.mem_map.mp (pm.mem_iff.mp hv)
    obtain ⟨k, tk, rfl⟩ := ge e he
    exact ⟨k, tk, rfl⟩
  have pv : (vs.map strOf).Perm l := by
    have q := pm.map strOf
    rw [List.map_map] at q
    exact q.trans p
  have s64 : vs.length < 64 := by rw [lenv]; exact few
  refine wpAny_bind (wpAny_newList ?_ (by rw [sizeLine_eq]; omega))
  have hoL : (s1.heap.push (seqObj "list" vs.toArray 0)).get? s1.heap.objs.size = some (seqObj "list" vs.toArray 0) := Heap.get?_push_size _ rfl
  refine wpAny_bind (wpAny_holding (wpAny_call_entry slot_list_sort ⟨_, hoL, rfl⟩ entry_list_sort (list_sort_treeK strKind_oneLt hoL hS.keysOf (fun v₁ v₂ rest e => keyKind_strs (by rw [← e]; exact hS)) s64 fun st hp hs => ⟨_, rfl, ?_⟩) (args_list_sort _)))
  obtain ⟨ys, y1, y2, y3⟩ := sorted_out_str hS hp hs
  obtain ⟨c, hc⟩ := sortedHeap_at (vs := vs) (out := (arrOf st).map (·.2)) hoL
  refine wpAny_pure ⟨_, rfl, hQ _ s1.heap.objs.size _ c ys (fun b u q => ?_) g1 o1 z1 hc y1 (y2.trans pv) y3⟩
  have q1 := k1 b u q
  have lt := Heap.lt_size q1
  show (sortedHeap (s1.heap.push (seqObj "list" vs.toArray 0)) s1.heap.objs.size vs _).get? b = some u
  rw [sortedHeap_old (Nat.ne_of_lt lt) (by rw [size_push']; exact Nat.lt_succ_of_lt lt)]
  exact Heap.get?_push_of_some _ q1
end

/-! ### the two rules -/
section
variable {X : Cx}
/-- len(set(xs)) of a list of different texts -/
def tLenTx (K : PySem.W.Frag) (ta : TE) : TE := fun σ H Q => ta σ H fun x H1 => ∃ l, ∃ xs : List Str, x = .ref l ∧ SqL K H1 l (xs.map V.str) ∧ xs.Nodup ∧ xs.length ≤ 60 ∧ Q (.int xs.length) H1
/-- sorted(set(xs)) of a list of texts -/
def tSortTx (K : PySem.W.Frag) (ta : TE) : TE := fun σ H Q => ta σ H fun x H1 => ∃ l, ∃ xs : List Str, x = .ref l ∧ SqL K H1 l (xs.map V.str) ∧ xs.length ≤ 60 ∧
  ∀ p, H1 p = none → Q (.ref p) (upd H1 p (.lst ((srt (allTx xs)).map V.str)))
theorem pe_lenTx {e : Expr} {ta : TE} {p p2 q pos : Pos} (hc : X.calm = true) (g1 : Gl X "len") (m1 : X.mg "len" = none) (g2 : Gl X "set") (m2 : X.mg "set" = none) (ha : PE X e ta)
    (na : starEach [e] X.env = (false, eval e X.env) :: starEach [] X.env := by rfl) : PE X (.Call (.Name "len" p) [.Call (.Name "set" p2) [e] [] q] [] pos) (tLenTx X.K ta) := by
  refine ⟨fun pins s σ H Q I h => Call_ (ld_blt I g1 m1 boot_len (PyProof.Rows.callWith_builtin1 (PyProof.Rows.args_cons ?_ rfl) rfl rfl))⟩
  refine Call_ (ld_blt I g2 m2 boot_set (PyProof.Rows.callWith_type1 (PyProof.Rows.args_cons (thn (ha.run pins s σ H _ I h) fun v s1 ⟨x, H1, I1, rx, l, xs, ex, hq, nd, few, q1⟩ => PyProof.Rows.args_nil ?_) na) na rfl))
  subst ex
  obtain rfl : v = Value.ref l := rx
  obtain ⟨its, r, pl, hz⟩ := I1.list hq
  refine tx_set xs (I1.ok.hd hc) pl.isList (by simpa using strsAre_of r) (by unfold scanBound; omega) fun h' tk T k => PyProof.Rows.args_nil ?_
  obtain ⟨⟨o, es, ep, t, ho, hx, hd, ge, pm, hf, _, _⟩, _, _⟩ := T
  have len : es.size = xs.length := by
    have z := pm.length_eq
    rw [List.length_map, Array.length_toList, allTx_same nd] at z
    exact z
  have I2 : Inv X pins σ H1 { s1 with heap := h', toks := tk } := I1.kept k
  exact call_len_set ho hx hd hf (by omega) ⟨.int xs.length, H1, I2.tok _, ⟨_, by rw [len]⟩, q1⟩
theorem pe_sortTx {e : Expr} {ta : TE} {p p2 q pos : Pos} (hc : X.calm = true) (g1 : Gl X "sorted") (m1 : X.mg "sorted" = none) (g2 : Gl X "set") (m2 : X.mg "set" = none) (ha : PE X e ta)
    (na : starEach [e] X.env = (false, eval e X.env) :: starEach [] X.env := by rfl) : PE X (.Call (.Name "sorted" p) [.Call (.Name "set" p2) [e] [] q] [] pos) (tSortTx X.K ta) := by
  refine ⟨fun pins s σ H Q I h => Call_ (ld_blt (u := .builtin "sorted") I g1 m1 (by decide +kernel) (PyProof.Rows.callWith_builtin1 (PyProof.Rows.args_cons ?_ rfl) rfl rfl))⟩
  refine Call_ (ld_blt I g2 m2 boot_set (PyProof.Rows.callWith_type1 (PyProof.Rows.args_cons (thn (ha.run pins s σ H _ I h) fun v s1 ⟨x, H1, I1, rx, l, xs, ex, hq, few, q1⟩ => PyProof.Rows.args_nil ?_) na) na rfl))
  subst ex
  obtain rfl : v = Value.ref l := rx
  obtain ⟨its, r, pl, hz⟩ := I1.list hq
  have small := allTx_len xs
  refine tx_set xs (I1.ok.hd hc) pl.isList (by simpa using strsAre_of r) (by unfold scanBound; omega) fun h' tk T k => PyProof.Rows.args_nil ?_
  have I2 : Inv X pins σ H1 { s1 with heap := h', toks := tk } := I1.kept k
  refine tx_sorted T (I2.ok.hd hc) (by omega) fun s' b out c ys k2 g o hp hg hy pm so => ?_
  have ey : ys = srt (allTx xs) := srt_of pm so
  subst ey
  have hlen : ((srt (allTx xs)).map V.str).length ≤ sizeLine := by rw [List.length_map, srt_length, sizeLine_eq]; omega
  have hn : H1 b = none := I2.hok.fresh hp
  have J : Inv X pins σ (upd H1 b (.lst ((srt (allTx xs)).map V.str))) s' := I2.call' (ch := []) o (Un.laid k2 hp hn) (I2.hok.laid k2 hp ⟨hlen, out.toList, c, vals_of_strs hy, hg⟩) (by rw [g]; exact I2.bare) (fun _ z => nomatch z)
  exact ⟨.ref b, _, J, rfl, q1 b hn⟩
end
end K12

/-! K12R: rules: x | y and k in x by an own class's methods; for .. in enumerate(a tuple). -/
namespace K12
open PySem PySem.Spec PyProof.Rows L2 Evl
theorem back_of {P : Value → Shared → Prop} {z : V} {v : Value} {s' : Shared} (r : RelV z v) (h : P v s') : PySem.W.CmpBack P v s' := by
  cases z <;> first
    | (obtain ⟨t, rfl⟩ := r; exact h)
    | (cases r; exact h)
section
variable {X : Cx} {CX : CXT} {pins : List (Addr × Obj)} {σ : L2.St} {H : Hp} {s : Shared} {C : Addr} {n : Nat} {sp : Sp} {g : Addr} {fd : FuncData} {ps : List Str} {E : XK}
/-- x op y of two instances of the class at C, by its own method -/
def rBin (C : Addr) (sp : Sp) (E : XK) : R2 := fun x y H Q => ∃ a dx fs b dy gs, x = .ref a ∧ y = .ref b ∧ H a = some (.ins C dx fs) ∧ H b = some (.ins C dy gs) ∧ sp [x, y] H Q E
theorem op_bin {op : Operator} (F : FnOk X.prog X.w X.K X.mg X.base CX n g fd ps sp) (hr : Room n X.A) (hb : Binds X.K fd ps []) (hx : Passes CX X E) (hc : PySem.W.selfFirst X.K C = true)
    (hs : PySem.W.findIn X.K (.ref C) (PySem.dunder op.info.2) = some (some (.ref g))) (hf : PySem.W.isFn X.K (.ref g) = true) : OpR X (binaryOp op) (rBin C sp E) := by
  intro pins s σ H x y v u Q I rx ry h
  obtain ⟨a, dx, fs, b, dy, gs, rfl, rfl, ha, hb', q⟩ := h
  obtain rfl : v = Value.ref a := rx
  obtain rfl : u = Value.ref b := ry
  obtain ⟨mA, O, _⟩ := ins_get I.hok ha
  obtain ⟨mB, O', _⟩ := ins_get I.hok hb'
  obtain ⟨od, J, _⟩ := O.look
  obtain ⟨od', J', _⟩ := O'.look
  obtain ⟨m, hF⟩ := I.fr
  refine PySem.W.binop_K hF I.ok.mod.kin J J'.type hc hs hf ?_
  refine thn (run_fn (us := [.ref a, .ref b]) (vs := [.ref a, .ref b]) (ds := []) (dvs := []) F hr hb .nil hx I (.cons rfl (.cons rfl .nil)) q) fun w' s' z => ?_
  obtain ⟨z', H', I', rz, qz⟩ := z
  exact back_of rz ⟨z', H', I', rz, qz⟩
/-- k not in y, y an instance of the class at C with its own __contains__ -/
def rNotIn (C : Addr) (sp : Sp) (E : XK) : R2 := fun x y H Q => ∃ b dy gs, y = .ref b ∧ H b = some (.ins C dy gs) ∧ sp [y, x] H (fun z H' => ∃ k, z = .bl k ∧ Q (.bl (!k)) H') E
theorem op_notIn (F : FnOk X.prog X.w X.K X.mg X.base CX n g fd ps sp) (hr : Room n X.A) (hb : Binds X.K fd ps []) (hx : Passes CX X E)
    (hs : PySem.W.findIn X.K (.ref C) "__contains__" = some (some (.ref g))) (hf : PySem.W.isFn X.K (.ref g) = true) : OpR X (compareOp .NotIn) (rNotIn C sp E) := by
  intro pins s σ H x y v u Q I rx ry h
  obtain ⟨b, dy, gs, rfl, hb', q⟩ := h
  obtain rfl : u = Value.ref b := ry
  obtain ⟨mB, O', _⟩ := ins_get I.hok hb'
  obtain ⟨od', J', _⟩ := O'.look
  obtain ⟨m, hF⟩ := I.fr
  refine PySem.W.notIn_K hF I.ok.mod.kin J' hs hf ?_
  refine thn (run_fn (us := [.ref b, v]) (vs := [.ref b, x]) (ds := []) (dvs := []) F hr hb .nil hx I (.cons rfl (.cons rx .nil)) q) fun w' s' z => ?_
  obtain ⟨z', H', I', rz, k, ez, qz⟩ := z
  subst ez
  obtain rfl : w' = Value.bool k := rz
  exact wpAny_truthy_bool ⟨.bl (!k), H', I', rfl, qz⟩
end

/-! ### for i, x in enumerate(t), t a tuple -/
theorem new_enum (t : Addr) (items : Array Value) :
    Meets (Builtin.«enumerate.__new__» ⟨[.type "enumerate", .ref t], []⟩) (fun _ R s => s.heap.IsTuple t items ∧
      R (.ok (.ret (.ref (s.heap.objs.size + 1)))) { s with heap := (s.heap.push { cls := .type "tuple_iterator", data := .fields #[.ref t, .int 0 0] }).push { cls := .type "enumerate", data := .fields #[.none, .bool false, .ref s.heap.objs.size, rawInt 0, .none, .none] } }) :=
  .of_wp fun prog w A R s h => by
    obtain ⟨hp, g, d, tk, os⟩ := s
    obtain ⟨ht, h⟩ := h
    have sub := sub_enumerate
    have it : ∀ {A' : Around} {E : Value → Shared → Prop} {Q : Value → Shared → Prop}, Q (.ref hp.objs.size) ⟨hp.push { cls := .type "tuple_iterator", data := .fields #[.ref t, .int 0 0] }, g, d, tk, os⟩ → wpAny (model prog w) A' (pyIter (.ref t)) Q E ⟨hp, g, d, tk, os⟩ :=
      fun q => wpAny_pyIter_tuple (s := ⟨hp, g, d, tk, os⟩) ht q
    have sz : (hp.push { cls := .type "tuple_iterator", data := .fields #[.ref t, .int 0 0] }).objs.size = hp.objs.size + 1 := Heap.size_push ..
    rw [← sz] at h
    wp_walk using it
    refine wpAny_stack_any fun st => wpAny_pure ?_
    split
    · rename_i c _ _ _ _ _
      cases (c == Value.type "enumerate")
      · wp_walk using it
        exact ⟨_, rfl, h⟩
      · wp_walk using it
        exact ⟨_, rfl, h⟩
    · wp_walk using it
      exact ⟨_, rfl, h⟩
theorem call_enum {prog : Program} {w : World} {A : Around} {E : Value → Shared → Prop} {s : Shared} {t : Addr} {items : Array Value} {Q : Value → Shared → Prop} (ht : s.heap.IsTuple t items)
    (h : ∀ h', IsEnum h' (s.heap.objs.size + 1) s.heap.objs.size 0 .none → h'.IsTupleIter s.heap.objs.size t 0 → (∀ b o, s.heap.get? b = some o → h'.get? b = some o) → Q (.ref (s.heap.objs.size + 1)) { s with heap := h' }) :
    wpAny (model prog w) A (call (.type "enumerate") [.ref t]) Q E s := by
  refine callType_new F.called_enumerate (by decide) (F.typeCall_enumerate_1 _) (F.newCall_enumerate_1 _) (fun obj => F.args_object_init_2 obj _) F.entry_enumerate_new (new_enum t items) ⟨ht, ?_⟩
  have sz : (s.heap.push { cls := .type "tuple_iterator", data := .fields #[.ref t, .int 0 0] }).objs.size = s.heap.objs.size + 1 := Heap.size_push ..
  have he : IsEnum ((s.heap.push { cls := .type "tuple_iterator", data := .fields #[.ref t, .int 0 0] }).push { cls := .type "enumerate", data := .fields #[.none, .bool false, .ref s.heap.objs.size, rawInt 0, .none, .none] }) (s.heap.objs.size + 1) s.heap.objs.size 0 .none := by
    have q := Heap.get?_push_size (s.heap.push { cls := .type "tuple_iterator", data := .fields #[.ref t, .int 0 0] }) (o := { cls := .type "enumerate", data := .fields #[.none, .bool false, .ref s.heap.objs.size, rawInt 0, .none, .none] }) rfl
    rw [sz] at q
    exact q
  exact ⟨⟨_, he, rfl⟩, h _ he ⟨_, Heap.get?_push_of_some _ (Heap.get?_push_size _ rfl), rfl, rfl⟩ fun b o q => Heap.get?_push_of_some _ (Heap.get?_push_of_some _ q)⟩
theorem tup_ne {h : Heap} {a b : Addr} {items : Array Value} {o : Obj} {T : String} (p : IsTup h a items) (ho : h.get? b = some o) (hc : o.cls = .type T) (hT : T ≠ "tuple") : a ≠ b := fun z => by
  obtain ⟨oa, ha, ca, _⟩ := p
  rw [z, ho] at ha
  have e := Option.some.inj ha
  rw [← e, hc] at ca
  exact hT (Value.type.inj ca)
/-- the tuple at a, each item in a new pair -/
def IteT (K : PySem.W.Frag) (a : Addr) : It :=
  ⟨fun i H => ∃ (xs : List V) (x : V), SqT K H a xs ∧ xs[i]? = some x, fun i H v H' => ∃ T x, v = .ref T ∧ H T = none ∧ H' = upd H T (.tup [.int (i : Nat), x]) ∧ ∀ xs, SqT K H a xs → xs[i]? = some x, fun i H => ∃ xs : List V, SqT K H a xs ∧ xs.length = i⟩
theorem turn_enumT {P : Program} {w : World} {K : PySem.W.Frag} {elts : List Expr} {kk : Nat} {tpos : Pos} (a e it : Addr) :
    Turn P w K (.Tuple elts kk tpos) (IteT K a) [e, it] e (fun i h => (∃ old, IsEnum h e it ((i : Nat) : Int) old) ∧ h.IsTupleIter it a i ∧ e ≠ it) where
  mem := List.mem_cons_self
  obj := fun i h ⟨⟨old, he⟩, ⟨o, ho, _, hd⟩, _⟩ b hb => by
    rcases List.mem_cons.mp hb with z | z
    · rw [z]
      exact ⟨_, he, fun v q => nomatch q⟩
    · rw [List.mem_singleton.mp z]
      exact ⟨o, ho, fun v q => by rw [hd] at q; cases q⟩
  keep := fun i h h' ⟨⟨old, he⟩, hi, hne⟩ k => ⟨⟨old, k e (by simp) _ he⟩, hi.at fun o q => k it (by simp) o q, hne⟩
  item := by
    intro X hP hw hK hc i pins s σ H E I hf ⟨⟨old, he⟩, hit, hne⟩ ⟨xs, x, hq, hx⟩
    subst hP hw hK
    obtain ⟨its, rv, p, hz⟩ := I.tuple hq
    obtain ⟨u, hu, ru⟩ := rv.get hx
    have hu' : its.toArray[i]? = some u := by rw [List.getElem?_toArray]; exact hu
    have lt : i < its.toArray.size := (Array.getElem?_eq_some_iff.mp hu').1
    have lte : e < s.heap.objs.size := Heap.lt_size he
    have lti : it < s.heap.objs.size := by obtain ⟨_, q, _⟩ := hit; exact Heap.lt_size q
    have nea : e ≠ a := Ne.symm (tup_ne p he rfl (by decide))
    have nia : a ≠ it := by
      obtain ⟨o2, h2, c2, _⟩ := id hit
      exact tup_ne p h2 c2 (by decide)
    refine wpAny_pyNext_enum_itemD (Draws.tuple (A := X.A.in1) (I.ok.hd hc) it a nia its.toArray) he ⟨hit, p⟩ lt hne (by rw [List.mem_cons, List.mem_singleton, not_or]; exact ⟨hne, nea⟩) fun y h' tk hy ho st hT hsz hk => ?_
    have hy' : its.toArray[i]? = some y := hy
    rw [hu'] at hy'
    cases hy'
    refine ⟨_, rfl, wpAny_letOwnedTupleGo_enum (s := { s with heap := h', toks := tk + 1 }) ho fun h2 he2 sb => ?_⟩
    have hT2 : h2.get? s.heap.objs.size = some { cls := .type "tuple", data := .seq #[.int i tk, u] } := (sb.2 _ (Nat.ne_of_gt lte)).trans hT
    have new : ObjOk X.prog X.w (upd H s.heap.objs.size (.tup [.int (i : Nat), x])) h2 s.heap.objs.size (.tup [.int (i : Nat), x]) :=
      ⟨by show 2 ≤ sizeLine; decide, [.int i tk, u], .cons ⟨_, rfl⟩ (.cons ru .nil), ⟨_, hT2, rfl, _, rfl⟩⟩
    have I1 : Inv X pins σ (upd H s.heap.objs.size (.tup [.int (i : Nat), x])) { s with heap := h2, toks := tk + 1 } :=
      I.turnedNew (ch := [e, it]) (fun b ob hb q => (sb.2 b (fun z => hb (by simp [z]))).trans (hk b ob (fun z => hb (by simp [z])) (fun z => hb (by simp [z])) q)) hf (Nat.le_refl _) new
    refine ⟨.ref s.heap.objs.size, _, I1, rfl, ⟨_, x, rfl, I.hok.fresh (Nat.le_refl _), rfl, fun ys hy => by rw [I.tuple_inj hy hq]; exact hx⟩, ⟨⟨u, ?_⟩, st.1.at fun o q => (sb.2 it (Ne.symm hne)).trans q, hne⟩, fun b hb => ?_⟩
    · have e1 : ((i + 1 : Nat) : Int) = (i : Int) + 1 := by omega
      rw [e1]
      exact he2
    · have lb : b < s.heap.objs.size := by
        rcases List.mem_cons.mp hb with z | z
        · rw [z]; exact lte
        · rw [List.mem_singleton.mp z]; exact lti
      rw [upd_ne (Nat.ne_of_lt lb)]
      exact (hf b hb).1
  done := by
    intro X hP hw hK hc i pins s σ H E I hf ⟨⟨old, he⟩, hit, hne⟩ ⟨xs, hq, hx⟩
    subst hP hw hK
    obtain ⟨its, rv, p, hz⟩ := I.tuple hq
    have hl := rv.length
    have nia : a ≠ it := by
      obtain ⟨o2, h2, c2, _⟩ := id hit
      exact tup_ne p h2 c2 (by decide)
    obtain ⟨f0, f1, f2, f3, f4, f5⟩ := hf it (by simp)
    have sz : its.toArray.size = i := by rw [List.size_toArray]; omega
    subst sz
    exact wpAny_pyNext_enum_endD (Draws.tuple (A := X.A.in1) (I.ok.hd hc) it a nia its.toArray) he ⟨hit, p⟩ fun h' eb => ⟨rfl, I.turned (t' := s.toks) (fun b o hb q => eb b o hb q) f0 f1 f3 f4 f5⟩
  self := fun A i s Q E ⟨⟨_, he⟩, _⟩ h => wpAny_pyIter_enum he h
def iEnumT (K : PySem.W.Frag) (ta : TA) : TI := fun σ H R => ta σ H fun vs H1 => ∃ a xs, vs = [.ref a] ∧ SqT K H1 a xs ∧ R (IteT K a) H1
theorem pi_enumT {X : Cx} {e : Expr} {ta : TA} {p pos tpos : Pos} {elts : List Expr} {kk : Nat} (hg : Gl X "enumerate") (hm : X.mg "enumerate" = none) (ha : PA X [e] ta) (hs : starEach [e] X.env = [(false, eval e X.env)] := by rfl) :
    PI X (.Tuple elts kk tpos) (.Call (.Name "enumerate" p) [e] [] pos) (iEnumT X.K ta) := by
  refine ⟨fun pins s σ H R I h => Call_ (ld_blt I hg hm boot_enumerate (PyProof.Rows.callWith_type1 (thn (ha.run pos pins s σ H _ I h) fun us s1 ⟨vs, H1, I1, r1, a, xs, ex, hq, q⟩ => ?_) hs rfl))⟩
  subst ex
  obtain ⟨u, rfl, ru⟩ := r1.one
  obtain rfl : u = Value.ref a := ru
  obtain ⟨its, rv, p', hz⟩ := I1.tuple hq
  refine call_enum p' fun h' he hit hk => wpAny_pyIter_enum he ?_
  have I2 : Inv X pins σ H1 { s1 with heap := h' } := I1.kept (t' := s1.toks) hk
  refine ⟨s1.heap.objs.size + 1, [s1.heap.objs.size + 1, s1.heap.objs.size], _, _, H1, rfl, I2, turn_enumT a (s1.heap.objs.size + 1) s1.heap.objs.size, ⟨⟨.none, he⟩, hit, Nat.succ_ne_self _⟩, fun b hb => ?_, q⟩
  have le : s1.heap.objs.size ≤ b := by
    rcases List.mem_cons.mp hb with z | z
    · rw [z]; exact Nat.le_succ _
    · rw [List.mem_singleton.mp z]; exact Nat.le_refl _
  exact I1.fpOk le (I1.hok.fresh le)
theorem walk_enumT {K : PySem.W.Frag} {a : Addr} {xs : List V} : Walk (IteT K a) xs.length (fun H => SqT K H a xs) (YPair (fun i => some (.int (i : Nat))) (fun i => xs[i]?)) :=
  ⟨fun i H hi h => ⟨xs, xs[i], h, List.getElem?_eq_getElem hi⟩, fun H h => ⟨xs, h, rfl⟩, fun i H x H' hi h ⟨T, y, e1, e2, e3, e4⟩ => ⟨T, _, y, e1, e2, e3, rfl, e4 xs h⟩⟩
end K12

/-! K12E: what the expressions of these texts evaluate to (over Evl). -/
namespace K12
open PySem PySem.Spec PyProof.Rows L2 Evl
theorem inV_str (x : Str) : ∀ ys : List Str, inV (.str x) (ys.map V.str) = decide (x ∈ ys)
  | [] => rfl
  | y :: r => by
    have ih := inV_str x r
    unfold inV at ih ⊢
    rw [List.map_cons, List.any_cons, ih]
    show ((y == x) || _) = _
    by_cases e : y = x
    · subst e
      simp
    · have e1 : (y == x) = false := beq_eq_false_iff_ne.mpr e
      have e2 : (x ∈ y :: r) ↔ x ∈ r := by
        rw [List.mem_cons]
        exact ⟨fun h => h.resolve_left fun q => e q.symm, .inr⟩
      rw [e1, Bool.false_or]
      exact decide_eq_decide.mpr e2.symm
/-- the texts xs stand at p, as a list or a tuple -/
abbrev SqS (K : PySem.W.Frag) (H : Hp) (p : Addr) (xs : List Str) : Prop := SqL K H p (xs.map V.str) ∨ SqT K H p (xs.map V.str)
theorem SqS.ex {K : PySem.W.Frag} {H H' : Hp} {p : Addr} {xs : List Str} (h : SqS K H p xs) (e : Ex H H') : SqS K H' p xs := h.imp (ex_l e) (ex_t e)
/-- the same for any things -/
abbrev SqV (K : PySem.W.Frag) (H : Hp) (p : Addr) (xs : List V) : Prop := SqL K H p xs ∨ SqT K H p xs
theorem SqV.ex {K : PySem.W.Frag} {H H' : Hp} {p : Addr} {xs : List V} (h : SqV K H p xs) (e : Ex H H') : SqV K H' p xs := h.imp (ex_l e) (ex_t e)
section
variable {K : PySem.W.Frag} {σ : L2.St} {H : Hp} {ta tb te : TE} {p a : Addr} {x : Str} {ys xs : List Str}
theorem ev_in (ha : Ev ta σ H (.str x)) (hb : Ev tb σ H (.ref p)) (hs : SqS K H p ys) : Ev (tOp (rIn K false) ta tb) σ H (.bl (decide (x ∈ ys))) := by
  rw [← inV_str]
  rcases hs with h | h
  · exact ev_op ha hb (rv_isL h rfl (flat_strs ys))
  · exact ev_op ha hb (rv_isT h rfl (flat_strs ys))
theorem ev_nin (ha : Ev ta σ H (.str x)) (hb : Ev tb σ H (.ref p)) (hs : SqS K H p ys) : Ev (tOp (rIn K true) ta tb) σ H (.bl (decide (x ∉ ys))) := by
  have e : decide (x ∉ ys) = !inV (.str x) (ys.map V.str) := by rw [inV_str]; simp
  rw [e]
  rcases hs with h | h
  · exact ev_op ha hb (rv_niL h rfl (flat_strs ys))
  · exact ev_op ha hb (rv_niT h rfl (flat_strs ys))
theorem ev_fld {C dx : Addr} {fs : List (Str × V)} {f : Str} {v : V} (h : Ev te σ H (.ref a)) (ho : H a = some (.ins C dx fs)) (c : Cls K C) (n : NoAttr K C f) (l : fs.lookup f = some v) : Ev (tFld K te f) σ H v := fun H1 e Q q =>
  h H1 e _ fun H2 e2 => ⟨a, C, dx, fs, v, rfl, e2 _ _ (e _ _ ho), c, n, l, q H2 e2⟩
/-- list(x) -/
theorem el_listV {zs : List V} (h : Ev te σ H (.ref p)) (hs : SqV K H p zs) : EvL (tCB (fun xs H Q => ∃ p ys, xs = [.ref p] ∧ (SqL K H p ys ∨ SqT K H p ys) ∧ ∀ l, H l = none → Q (.ref l) (upd H l (.lst ys))) (tCons te tNil)) σ H zs := fun H1 e Q q =>
  h H1 e _ fun H2 e2 => ⟨p, zs, rfl, SqV.ex hs (e.trans e2), fun l hl => q l _ (fresh_back e2 hl) (e2.trans (Ex.new hl)) upd_same⟩
/-- sorted(x) of a new list of texts -/
theorem el_sorted (h : EvL te σ H (xs.map V.str)) (few : xs.length < 64) : EvL (tCB (rSortedS K) (tCons te tNil)) σ H ((srt xs).map V.str) := fun H1 e Q q =>
  h H1 e _ fun b H2 hb e2 h2 => ⟨b, xs, rfl, sq_of h2, few, fun ys l pm so hl => by
    rw [srt_of pm so]
    exact q l _ (fresh_back e2 hl) (e2.trans (Ex.new hl)) upd_same⟩
/-- sorted(x) of a list of texts that stands -/
theorem el_sortedV (h : Ev te σ H (.ref p)) (hs : SqL K H p (xs.map V.str)) (few : xs.length < 64) : EvL (tCB (rSortedS K) (tCons te tNil)) σ H ((srt xs).map V.str) := fun H1 e Q q =>
  h H1 e _ fun H2 e2 => ⟨p, xs, rfl, ex_l (e.trans e2) hs, few, fun ys l pm so hl => by
    rw [srt_of pm so]
    exact q l _ (fresh_back e2 hl) (e2.trans (Ex.new hl)) upd_same⟩
/-- tuple(x) of a new list -/
theorem eu_tuple {zs : List V} (h : EvL te σ H zs) : EvU (tCB (fun xs H Q => ∃ p ys, xs = [.ref p] ∧ ((SqL K H p ys ∧ ∀ l, H l = none → Q (.ref l) (upd H l (.tup ys))) ∨ (SqT K H p ys ∧ Q (.ref p) H))) (tCons te tNil)) σ H zs := fun H1 e Q q =>
  h H1 e _ fun b H2 hb e2 h2 => ⟨b, zs, rfl, .inl ⟨sq_of h2, fun l hl => q l _ (fresh_back e2 hl) (e2.trans (Ex.new hl)) upd_same⟩⟩
/-- tuple(x) of a list that stands -/
theorem eu_tupleV {zs : List V} (h : Ev te σ H (.ref p)) (hs : SqL K H p zs) : EvU (tCB (fun xs H Q => ∃ p ys, xs = [.ref p] ∧ ((SqL K H p ys ∧ ∀ l, H l = none → Q (.ref l) (upd H l (.tup ys))) ∨ (SqT K H p ys ∧ Q (.ref p) H))) (tCons te tNil)) σ H zs := fun H1 e Q q =>
  h H1 e _ fun H2 e2 => ⟨p, zs, rfl, .inl ⟨ex_l (e.trans e2) hs, fun l hl => q l _ (fresh_back e2 hl) (e2.trans (Ex.new hl)) upd_same⟩⟩
/-- [*x, *y] -/
theorem el_stars {zs ws : List V} {b : Addr} (h1 : Ev ta σ H (.ref a)) (s1 : SqV K H a zs) (h2 : Ev tb σ H (.ref b)) (s2 : SqV K H b ws) (few : zs.length + ws.length ≤ 100000) : EvL (tLst (StX.tStar K ta (StX.tStar K tb tNil))) σ H (zs ++ ws) := fun H1 e Q q =>
  h1 H1 e _ fun H2 e2 => ⟨a, zs, rfl, (SqV.ex s1 (e.trans e2)).symm, h2 H2 (e.trans e2) _ fun H3 e3 => ⟨b, ws, rfl, (SqV.ex s2 ((e.trans e2).trans e3)).symm, by
    have e4 : zs ++ (ws ++ []) = zs ++ ws := by rw [List.append_nil]
    show (zs ++ (ws ++ [])).length ≤ sizeLine ∧ ∀ (p : Addr), H3 p = none → Q (V.ref p) (upd H3 p (HO.lst (zs ++ (ws ++ []))))
    rw [e4]
    exact ⟨sz_of (by rw [List.length_append]; exact few), fun l hl => q l _ (fresh_back (e2.trans e3) hl) ((e2.trans e3).trans (Ex.new hl)) upd_same⟩⟩⟩
/-- x + y, both new lists | the second a list that stands -/
theorem el_cat {zs ws : List V} (h1 : EvL ta σ H zs) (h2 : EvL tb σ H ws) (few : zs.length + ws.length ≤ 100000) : EvL (tOp rCat ta tb) σ H (zs ++ ws) := fun H1 e Q q =>
  h1 H1 e _ fun l1 H2 f1 e2 g1 => h2 H2 (e.trans e2) _ fun l2 H3 f2 e3 g2 => ⟨l1, l2, zs, ws, rfl, rfl, e3 _ _ g1, g2, sz_of few, fun l hl => q l _ (fresh_back (e2.trans e3) hl) ((e2.trans e3).trans (Ex.new hl)) upd_same⟩
/-- len(x) -/
theorem ev_lenV {zs : List V} (h : Ev te σ H (.ref p)) (hs : SqV K H p zs) : Ev (tCB (fun xs H Q => ∃ p ys, xs = [.ref p] ∧ (SqL K H p ys ∨ SqT K H p ys) ∧ Q (.int ys.length) H) (tCons te tNil)) σ H (.int zs.length) := fun H1 e Q q =>
  h H1 e _ fun H2 e2 => ⟨p, zs, rfl, SqV.ex hs (e.trans e2), q H2 e2⟩
/-- xs[i] of a list, of a tuple -/
theorem ev_ixL {zs : List V} {i : Nat} {v : V} (h1 : Ev ta σ H (.ref p)) (h2 : Ev tb σ H (.int i)) (hs : SqL K H p zs) (hv : zs[i]? = some v) : Ev (tOp (rIxL K) ta tb) σ H v := ev_op h1 h2 (rv_ixL hs (atI_nat hv))
theorem ev_ixT {zs : List V} {i : Nat} {v : V} (h1 : Ev ta σ H (.ref p)) (h2 : Ev tb σ H (.int i)) (hs : SqT K H p zs) (hv : zs[i]? = some v) : Ev (tOp (rIxT K) ta tb) σ H v := ev_op h1 h2 (rv_ixT hs (atI_nat hv))
/-- a def that hands back a value | a new thing of which P is true -/
theorem ev_callV {sp : Sp} {E : XK} {tA : TA} {vs : List V} {v : V} (h : EvA tA σ H vs) (hs : ∀ H1, Ex H H1 → ∀ Q, RV1 v H1 Q → sp (vs ++ []) H1 Q E) : Ev (tCall sp [] E tA) σ H v := fun H1 e Q q =>
  h H1 e _ fun H2 e2 => hs H2 (e.trans e2) _ fun H3 e3 => q H3 (e2.trans e3)
end
/-- .. what all(..), any(..) say of a list of truth values -/
theorem ev_all {K : PySem.W.Frag} {σ : L2.St} {H : Hp} {te : TE} {bs : List Bool} (h : EvL te σ H (bs.map V.bl)) : Ev (tCB (rAll K) (tCons te tNil)) σ H (.bl (bs.all id)) := fun H1 e Q q =>
  h H1 e _ fun b H2 hb e2 h2 => ⟨b, bs, rfl, sq_of h2, q H2 e2⟩
theorem ev_any {K : PySem.W.Frag} {σ : L2.St} {H : Hp} {te : TE} {bs : List Bool} (h : EvL te σ H (bs.map V.bl)) : Ev (tCB (rAny K) (tCons te tNil)) σ H (.bl (bs.any id)) := fun H1 e Q q =>
  h H1 e _ fun b H2 hb e2 h2 => ⟨b, bs, rfl, sq_of h2, q H2 e2⟩
section
variable {K : PySem.W.Frag} {σ : L2.St} {H : Hp} {tl te : TE} {t : TT} {vs : List Nat} {j : Nat} {a : Addr} {α : Type} {xs : List α} {emb : α → V}
/-- [e for x in xs if t], xs a list, a tuple that stands, a new list -/
theorem el_compL (d : α) (p : α → Bool) (g : α → V) (h : Ev tl σ H (.ref a)) (hx : SqL K H a (xs.map emb)) (hn : xs.length ≤ 40000) (hw : ∀ x, wipe ((wipe σ vs).set j (some x)) vs = wipe σ vs)
    (hs : ∀ x H', x ∈ xs → Ex H H' → EvT t ((wipe σ vs).set j (some (emb x))) H' (p x) ∧ (p x = true → Ev te ((wipe σ vs).set j (some (emb x))) H' (g x))) :
    EvL (tLc (iList K tl) (gName j) t te vs) σ H ((xs.filter p).map g) := fun H0 e Q q => h H0 e _ fun H1 e1 => ⟨a, rfl, ⟨_, ex_l (e.trans e1) hx⟩, fun D hD =>
  lcL d p g (ex_l (e.trans e1) hx) hD hn hw (fun x H' hm e2 => hs x H' hm ((e.trans e1).trans e2)) fun H' e2 hL => q D H' (fresh_back e1 hD) (e1.trans e2) hL⟩
theorem el_compT (d : α) (p : α → Bool) (g : α → V) (h : Ev tl σ H (.ref a)) (hx : SqT K H a (xs.map emb)) (hn : xs.length ≤ 40000) (hw : ∀ x, wipe ((wipe σ vs).set j (some x)) vs = wipe σ vs)
    (hs : ∀ x H', x ∈ xs → Ex H H' → EvT t ((wipe σ vs).set j (some (emb x))) H' (p x) ∧ (p x = true → Ev te ((wipe σ vs).set j (some (emb x))) H' (g x))) :
    EvL (tLc (iTup K tl) (gName j) t te vs) σ H ((xs.filter p).map g) := fun H0 e Q q => h H0 e _ fun H1 e1 => ⟨a, rfl, ⟨_, ex_t (e.trans e1) hx⟩, fun D hD =>
  lcT d p g (ex_t (e.trans e1) hx) hD hn hw (fun x H' hm e2 => hs x H' hm ((e.trans e1).trans e2)) fun H' e2 hL => q D H' (fresh_back e1 hD) (e1.trans e2) hL⟩
theorem el_compN (d : α) (p : α → Bool) (g : α → V) (h : EvL tl σ H (xs.map emb)) (hn : xs.length ≤ 40000) (hw : ∀ x, wipe ((wipe σ vs).set j (some x)) vs = wipe σ vs)
    (hs : ∀ x H', x ∈ xs → Ex H H' → EvT t ((wipe σ vs).set j (some (emb x))) H' (p x) ∧ (p x = true → Ev te ((wipe σ vs).set j (some (emb x))) H' (g x))) :
    EvL (tLc (iList K tl) (gName j) t te vs) σ H ((xs.filter p).map g) := fun H0 e Q q => h H0 e _ fun b H1 fb e1 hb => ⟨b, rfl, ⟨_, sq_of hb⟩, fun D hD =>
  lcL d p g (sq_of hb) hD hn hw (fun x H' hm e2 => hs x H' hm ((e.trans e1).trans e2)) fun H' e2 hL => q D H' (fresh_back e1 hD) (e1.trans e2) hL⟩
end
/-- x.f = a new tuple -/
theorem s_fldU {K : PySem.W.Frag} {σ : L2.St} {H : Hp} {ta tv : TE} {D : Ends} {a C dx : Addr} {fs : List (Str × V)} {f : Str} {zs : List V} (h : EvU tv σ H zs) (ho : Ev ta σ H (.ref a)) (hH : H a = some (.ins C dx fs)) (c : Cls K C) (n : NoAttr K C f) (few : fs.length < 1000)
    (k : ∀ p H1, H p = none → Ex H H1 → H1 p = some (.tup zs) → D.nx σ (upd H1 a (.ins C dx (putF f (.ref p) fs)))) : sFld K ta tv f D σ H := h H (Ex.refl _) _ fun p H1 np e1 hp => ho H1 e1 _ fun H2 e2 =>
  ⟨a, C, dx, fs, rfl, (e1.trans e2) _ _ hH, c, n, few, k p H2 np (e1.trans e2) (e2 _ _ hp)⟩
theorem q_fldU {K : PySem.W.Frag} {σ : L2.St} {H : Hp} {ta tv : TE} {tz : TS} {D : Ends} {a C dx : Addr} {fs : List (Str × V)} {f : Str} {zs : List V} (h : EvU tv σ H zs) (ho : Ev ta σ H (.ref a)) (hH : H a = some (.ins C dx fs)) (c : Cls K C) (n : NoAttr K C f) (few : fs.length < 1000)
    (k : ∀ p H1, H p = none → Ex H H1 → H1 p = some (.tup zs) → tz D σ (upd H1 a (.ins C dx (putF f (.ref p) fs)))) : tSeq (sFld K ta tv f) tz D σ H := s_fldU (D := { D with nx := tz D }) h ho hH c n few k
/-- x.f = a new list -/
theorem q_fldL {K : PySem.W.Frag} {σ : L2.St} {H : Hp} {ta tv : TE} {tz : TS} {D : Ends} {a C dx : Addr} {fs : List (Str × V)} {f : Str} {zs : List V} (h : EvL tv σ H zs) (ho : Ev ta σ H (.ref a)) (hH : H a = some (.ins C dx fs)) (c : Cls K C) (n : NoAttr K C f) (few : fs.length < 1000)
    (k : ∀ p H1, H p = none → Ex H H1 → H1 p = some (.lst zs) → tz D σ (upd H1 a (.ins C dx (putF f (.ref p) fs)))) : tSeq (sFld K ta tv f) tz D σ H := h H (Ex.refl _) _ fun p H1 np e1 hp => ho H1 e1 _ fun H2 e2 =>
  ⟨a, C, dx, fs, rfl, (e1.trans e2) _ _ hH, c, n, few, k p H2 np (e1.trans e2) (e2 _ _ hp)⟩
/-- x.f = a value -/
theorem q_fldV {K : PySem.W.Frag} {σ : L2.St} {H : Hp} {ta tv : TE} {tz : TS} {D : Ends} {a C dx : Addr} {fs : List (Str × V)} {f : Str} {v : V} (h : Ev tv σ H v) (ho : Ev ta σ H (.ref a)) (hH : H a = some (.ins C dx fs)) (c : Cls K C) (n : NoAttr K C f) (few : fs.length < 1000)
    (k : ∀ H1, Ex H H1 → tz D σ (upd H1 a (.ins C dx (putF f v fs)))) : tSeq (sFld K ta tv f) tz D σ H := h H (Ex.refl _) _ fun H1 e1 => ho H1 e1 _ fun H2 e2 =>
  ⟨a, C, dx, fs, rfl, (e1.trans e2) _ _ hH, c, n, few, k H2 (e1.trans e2)⟩
/-- if t: what is never reached -/
theorem q_not {σ : L2.St} {H : Hp} {t : TT} {tu tz : TS} {D : Ends} (h : EvT t σ H false) (k : ∀ H1, Ex H H1 → tz D σ H1) : tSeq (tIfS t tu tNext) tz D σ H := q_when h (fun e => by cases e) fun _ => k
theorem et_notT {σ : L2.St} {H : Hp} {t : TT} (h : EvT t σ H true) : EvT (tNot t) σ H false := et_not h
theorem filt_map {α : Type} {xs : List α} {g : α → V} {zs : List V} (e : zs = xs.map g) {K : PySem.W.Frag} {σ : L2.St} {H : Hp} {te : TE} (h : EvL te σ H ((xs.filter fun _ => true).map g)) : EvL te σ H zs := by
  rw [ft] at h
  rw [e]
  exact h
end K12

/-! K12P: the program's defs on rows. -/
namespace K12
open PySem PySem.Spec PyProof.Rows L2 Evl

/-! ### is_names -/
def spNames : Sp := fun vs H Q _ => ∃ (p : Addr) (xs : List Str), vs = [.ref p] ∧ H p = some (.lst (xs.map V.str)) ∧ GoodNames xs ∧ xs.Nodup ∧ xs.length ≤ 20 ∧ RV1 (.bl true) H Q
theorem scNames : FnScope ["value", "item"] ["value"] (C8.fnScope sNames) := C8.fnScope_by (by decide +kernel)
section
variable {P : Program} {w : World} {K : PySem.W.Frag} {mg : Str → Option Value} {base : Heap}
theorem ok_names {f : Addr} {fd : FuncData} (B : Bi mg) (G : C8.Cal P w K mg base 2 "is_name" spName []) (D : C8.Def K mg "is_names" sNames f fd) (b : Binds K fd ["value"] []) : C8.Cal P w K mg base 3 "is_names" spNames [] := by
  refine C8.cal0 D b .nil scNames (fun vs H Q E h => ?_) (fun cdv A outer s H vs Q E hr h => ?_)
  · obtain ⟨p, xs, rfl, _⟩ := h
    rfl
  obtain ⟨p, xs, rfl, hp, good, nd, few, k⟩ := h
  refine ⟨_, pss_cons (ps_if (PW.pt (pw_or (pt_not (pt_val (pe_callB call_isiT (by rfl) B.isi (by decide +kernel) (pa_cons (pv 0) (pa_cons (pe_tup (pa_cons (pe_bltn (v := .ty "list") (by rfl) B.list (by decide +kernel) rfl) (pa_cons (pe_bltn (v := .ty "tuple") (by rfl) B.tuple (by decide +kernel) rfl) pa_nil))) pa_nil)))))
      (pw_or1 (pt_not (pt_val (pe_callB (cr_all rfl) (by rfl) B.all (by decide +kernel) (pa_cons
        (pe_lc (own := [("item", 1)]) (g := gName 1) (tt := tYes) rfl scNames.nd (pi_list (pv 0)) (blkOk_by (N := ["value", "item"]) (sc := C8.fnScope sNames) (by decide +kernel))
          (fun _ _ _ _ _ => pg_name (i := 1) scNames.nd rfl (Or.inl rfl)) (fun _ _ _ _ _ => pts_nil)
          (fun _ _ _ _ _ => C8.pe_c G hr (by decide) (by rfl) (pa_cons (pv 1) pa_nil))) pa_nil)))))))
      (pss_one (ps_ret pe_bl)) pss_nil)
    (pss_one (ps_ret (pe_cmpR op_eq (pe_lenTx rfl (by rfl) B.len (by rfl) B.set (pv 0)) (pe_callB call_len_seq (by rfl) B.len PySem.boot_len (pa_cons (pv 0) pa_nil)) (nomark _)))), ?_⟩
  refine ⟨_, rfl, by show 2 ≤ sizeLine; decide, fun T hT => ⟨_, T, _, _, _, true, rfl, upd_same, .cons (.ty "list") (.cons (.ty "tuple") .nil), .base (.lst (by rw [upd_ne (ne_of_none hp hT)]; exact hp)), kitAny_cons (kit_ty (b := "list") (r := true) (by decide +kernel)) (fun z => by cases z) (fun _ => rfl), true, rfl, ?_⟩⟩
  have e1 : Ex H (upd H T (.tup [.ty "list", .ty "tuple"])) := Ex.new hT
  refine iteF ?_
  have hall : ((xs.map fun _ => true).all id) = true := by simp
  have ev := ev_all (K := K) (σ := L2.start ["value", "item"] [V.ref p]) (H := upd H T (.tup [.ty "list", .ty "tuple"])) (bs := xs.map fun _ => true) (te := tLc (iList K (tVar 0)) (gName 1) tYes (tCall spName [] C8.E0 (tCons (tVar 1) tNil)) [1]) (by
    have q := el_compL (K := K) (σ := L2.start ["value", "item"] [V.ref p]) (H := upd H T (.tup [.ty "list", .ty "tuple"])) (tl := tVar 0) (t := tYes) (te := tCall spName [] C8.E0 (tCons (tVar 1) tNil)) (vs := [1]) (j := 1) (a := p) (xs := xs) (emb := V.str) Str.empty (fun _ => true) (fun _ => V.bl true) (ev_var rfl) (sq_of (e1 _ _ hp)) (by omega) (fun _ => rfl)
      (fun x H' hx _ => ⟨et_yes, fun _ => ev_callV (ea_cons (ev_var rfl) ea_nil) fun H1 _ Q' q => ⟨x, rfl, good x hx, q⟩⟩)
    rw [ft] at q
    rw [List.map_map]
    exact q)
  refine et_B ev _ (Ex.refl _) _ fun H2 e2 => ?_
  rw [hall]
  refine iteF ?_
  refine ⟨_, rfl, p, xs, rfl, sq_of (e2 _ _ (e1 _ _ hp)), nd, by omega, _, rfl, p, _, rfl, .inl (sq_of (e2 _ _ (e1 _ _ hp))), rfl, ?_⟩
  rw [List.length_map, decide_eq_true rfl]
  exact k _ (e1.trans e2)
end
end K12

/-! K12Q: the class Row. -/
namespace K12
open PySem PySem.Spec PyProof.Rows L2 Evl

/-! ### a row in the heap -/
def rowF (tp tc tn : Addr) : List (Str × V) := putF "named" (.ref tn) (putF "con" (.ref tc) (putF "pro" (.ref tp) []))
theorem n1 : ¬ (("named" : Str) = "con") := by decide +kernel
theorem n2 : ¬ (("named" : Str) = "pro") := by decide +kernel
theorem n3 : ¬ (("con" : Str) = "pro") := by decide +kernel
theorem rowF_pro (tp tc tn : Addr) : (rowF tp tc tn).lookup ("pro" : Str) = some (.ref tp) := by
  unfold rowF
  rw [lookup_putF, if_neg (Ne.symm n2), lookup_putF, if_neg (Ne.symm n3), lookup_putF, if_pos rfl]
theorem rowF_con (tp tc tn : Addr) : (rowF tp tc tn).lookup ("con" : Str) = some (.ref tc) := by
  unfold rowF
  rw [lookup_putF, if_neg (Ne.symm n1), lookup_putF, if_pos rfl]
theorem rowF_named (tp tc tn : Addr) : (rowF tp tc tn).lookup ("named" : Str) = some (.ref tn) := by
  unfold rowF
  rw [lookup_putF, if_pos rfl]
theorem rowF_no (tp tc tn : Addr) {m : Str} (h1 : ¬ m = "named") (h2 : ¬ m = "con") (h3 : ¬ m = "pro") : (rowF tp tc tn).lookup m = none := by
  unfold rowF
  rw [lookup_putF, if_neg h1, lookup_putF, if_neg h2, lookup_putF, if_neg h3]
  rfl
/-- the row at r of the class at C has these sides (both ascending) -/
def RowR (C : Addr) (H : Hp) (r : Addr) (s : Sides) : Prop := ∃ dx tp tc tn, H r = some (.ins C dx (rowF tp tc tn)) ∧ H tp = some (.tup (s.1.map V.str)) ∧ H tc = some (.tup (s.2.map V.str)) ∧ H tn = some (.tup ((srt (s.1 ++ s.2)).map V.str))
def RowAt (C : Addr) (H : Hp) (x : V) (s : Sides) : Prop := ∃ r, x = .ref r ∧ RowR C H r s
theorem RowR.ex {C : Addr} {H H' : Hp} {r : Addr} {s : Sides} (h : RowR C H r s) (e : Ex H H') : RowR C H' r s := by
  obtain ⟨dx, tp, tc, tn, h1, h2, h3, h4⟩ := h
  exact ⟨dx, tp, tc, tn, e _ _ h1, e _ _ h2, e _ _ h3, e _ _ h4⟩
/-- good sides: names, different, none on both, few -/
structure Good (s : Sides) : Prop where
  wf : Wf s
  n1 : GoodNames s.1
  n2 : GoodNames s.2
  f1 : s.1.length ≤ 8
  f2 : s.2.length ≤ 8
theorem Good.row {s : Sides} (g : Good s) : Good (rowOf s) :=
  ⟨g.wf.row, fun x hx => g.n1 x (mem_srt.mp hx), fun x hx => g.n2 x (mem_srt.mp hx), by show (srt s.1).length ≤ 8; rw [srt_length]; exact g.f1, by show (srt s.2).length ≤ 8; rw [srt_length]; exact g.f2⟩
structure TxtRow (K : PySem.W.Frag) (mg : Str → Option Value) (C : Addr) : Prop where
  cl : Cls K C
  nP : NoAttr K C "pro"
  nC : NoAttr K C "con"
  nN : NoAttr K C "named"
  mgC : mg "Row" = some (.ref C)

/-! ### Row.__init__ -/
def spRowInit (C : Addr) : Sp := fun vs H Q _ => ∃ (x dx g b : Addr) (s : Sides), vs = [.ref x, .ref g, .ref b] ∧ H x = some (.ins C dx []) ∧ H g = some (.lst (s.1.map V.str)) ∧ H b = some (.lst (s.2.map V.str)) ∧
  s.1.Nodup ∧ s.2.Nodup ∧ (∀ z ∈ s.1, z ∉ s.2) ∧ GoodNames s.1 ∧ GoodNames s.2 ∧ s.1.length ≤ 20 ∧ s.2.length ≤ 20 ∧
  ∀ H', (∀ a o, a ≠ x → H a = some o → H' a = some o) → RowR C H' x (rowOf s) → Q .non H'
abbrev nmInit : List Str := ["self", "pro", "con", "name"]
theorem scRowInit : FnScope nmInit ["self", "pro", "con"] (C8.fnScope (sRow 0)) := C8.fnScope_by (by decide +kernel)
section
variable {P : Program} {w : World} {K : PySem.W.Frag} {mg : Str → Option Value} {base : Heap}
theorem ok_rowInit {C f : Addr} {fd : FuncData} (B : Bi mg) (T : TxtRow K mg C) (G : C8.Cal P w K mg base 3 "is_names" spNames []) (M : Mk K C f) (F : C8.Fun K "__init__" "Row.__init__" (sRow 0) f fd) (b : Binds K fd ["self", "pro", "con"] []) :
    C8.Mak P w K mg base 4 "Row" C (spRowInit C) [] := by
  refine C8.mak0 M T.mgC F b .nil scRowInit (fun vs H Q E h => ?_) (fun cdv A outer s H vs Q E hr h => ?_)
  · obtain ⟨x, dx, g, b, s, rfl, _⟩ := h
    rfl
  obtain ⟨x, dx, g, b, s, rfl, hx, hg, hb, nd1, nd2, dj, gn1, gn2, f1, f2, k⟩ := h
  refine ⟨_, pss_cons (ps_if (pt_not (pt_val (C8.pe_c G hr (by decide) (by rfl) (pa_cons (pv 1) pa_nil)))) pss_never pss_nil)
    (pss_cons (ps_if (pt_not (pt_val (C8.pe_c G hr (by decide) (by rfl) (pa_cons (pv 2) pa_nil)))) pss_never pss_nil)
    (pss_cons (ps_if (pt_val (pe_callB (cr_any rfl) (by rfl) B.any (by decide +kernel) (pa_cons
        (pe_lc (own := [("name", 3)]) (g := gName 3) (tt := tYes) (te := tOp (rIn K false) (tVar 3) (tVar 2)) rfl scRowInit.nd (pi_list (pv 1)) (blkOk_by (N := nmInit) (sc := C8.fnScope (sRow 0)) (by decide +kernel))
          (fun _ _ _ _ _ => pg_name (i := 3) scRowInit.nd rfl (Or.inl rfl)) (fun _ _ _ _ _ => pts_nil)
          (fun _ _ _ _ _ => pe_cmpR op_in_seq (pv 3) (pv 2) (by rfl))) pa_nil))) pss_never pss_nil)
    (pss_cons (ps_fld (pv 0) (pe_callTy call_tuple_of (by rfl) B.tuple (by decide +kernel) (pa_cons (pe_callB cr_sortedS (by rfl) B.sorted (by decide +kernel) (pa_cons (pe_callTy call_list_of (by rfl) B.list (by decide +kernel) (pa_cons (pv 1) pa_nil)) pa_nil)) pa_nil)) rfl)
    (pss_cons (ps_fld (pv 0) (pe_callTy call_tuple_of (by rfl) B.tuple (by decide +kernel) (pa_cons (pe_callB cr_sortedS (by rfl) B.sorted (by decide +kernel) (pa_cons (pe_callTy call_list_of (by rfl) B.list (by decide +kernel) (pa_cons (pv 2) pa_nil)) pa_nil)) pa_nil)) rfl)
    (pss_one (ps_fld (pv 0) (pe_callTy call_tuple_of (by rfl) B.tuple (by decide +kernel) (pa_cons (pe_callB cr_sortedS (by rfl) B.sorted (by decide +kernel) (pa_cons
      (pe_lst (StX.pa_star (pe_fld (pv 0) rfl) (StX.pa_star (pe_fld (pv 0) rfl) pa_nil))) pa_nil)) pa_nil)) rfl)))))), ?_⟩
  -- the two looks at the names
  refine q_not (et_notT (et_B (ev_callV (ea_cons (ev_var rfl) ea_nil) fun H1 e1 Q' q => ⟨g, s.1, rfl, e1 _ _ hg, gn1, nd1, f1, q⟩))) fun H1 e1 => ?_
  refine q_not (et_notT (et_B (ev_callV (ea_cons (ev_var rfl) ea_nil) fun H2 e2 Q' q => ⟨b, s.2, rfl, e2 _ _ (e1 _ _ hb), gn2, nd2, f2, q⟩))) fun H2 e2 => ?_
  have e02 := e1.trans e2
  -- none stands on both sides
  have hany : ((s.1.map fun _ => false).any id) = false := by simp
  refine q_not (et_B (ev_is (ev_any (bs := s.1.map fun _ => false) (filt_map (K := K) (xs := s.1) (g := fun _ => V.bl false) (by rw [List.map_map]; rfl)
    (el_compL (a := g) (emb := V.str) Str.empty (fun _ => true) (fun _ => V.bl false) (ev_var rfl) (sq_of (e02 _ _ hg)) (by omega) (fun _ => rfl)
      (fun z H' hz e => ⟨et_yes, fun _ => ev_is (ev_in (ys := s.2) (ev_var rfl) (ev_var rfl) (.inl (sq_of (e _ _ (e02 _ _ hb))))) (by rw [decide_eq_false (dj z hz)])⟩)))) (by rw [hany]))) fun H3 e3 => ?_
  have e03 := e02.trans e3
  -- self.pro
  refine q_fldU (eu_tuple (el_sorted (xs := s.1) (el_listV (ev_var rfl) (.inl (sq_of (e03 _ _ hg)))) (by omega))) (ev_var rfl) (e03 _ _ hx) T.cl T.nP (by show 0 < 1000; decide) fun tp H4 ntp e4 htp => ?_
  have e04 := e03.trans e4
  have x4 := e04 _ _ hx
  -- self.con
  have keep5 : ∀ a o, a ≠ x → H4 a = some o → upd H4 x (.ins C dx (putF "pro" (.ref tp) [])) a = some o := fun a o na h => by rw [upd_ne na]; exact h
  have nx : ∀ {H' : Hp} {a : Addr} {ys : List V}, Ex H H' → H' a = some (.lst ys) → a ≠ x := fun e h => ne_of h (e _ _ hx) (by intro q; cases q)
  have b5 : upd H4 x (.ins C dx (putF "pro" (.ref tp) [])) b = some (.lst (s.2.map V.str)) := keep5 _ _ (nx (Ex.refl H) hb) (e04 _ _ hb)
  refine q_fldU (eu_tuple (el_sorted (xs := s.2) (el_listV (ev_var rfl) (.inl (sq_of b5))) (by omega))) (ev_var rfl) upd_same T.cl T.nC (by show 1 < 1000; decide) fun tc H6 ntc e6 htc => ?_
  have x6 : H6 x = some (.ins C dx (putF "pro" (.ref tp) [])) := e6 _ _ upd_same
  have px : tp ≠ x := ne_of htp x4 (by intro q; cases q)
  have cx : tc ≠ x := ne_of htc x6 (by intro q; cases q)
  have tp6 : H6 tp = some (.tup ((srt s.1).map V.str)) := e6 _ _ (keep5 _ _ px htp)
  -- self.named
  have keep7 : ∀ a o, a ≠ x → H6 a = some o → upd H6 x (.ins C dx (putF "con" (.ref tc) (putF "pro" (.ref tp) []))) a = some o := fun a o na h => by rw [upd_ne na]; exact h
  have l1 : (putF "con" (.ref tc) (putF "pro" (.ref tp) [])).lookup ("pro" : Str) = some (V.ref tp) := by rw [lookup_putF, if_neg (Ne.symm n3), lookup_putF, if_pos rfl]
  have l2 : (putF "con" (.ref tc) (putF "pro" (.ref tp) [])).lookup ("con" : Str) = some (V.ref tc) := by rw [lookup_putF, if_pos rfl]
  have h7 : EvL (tLst (StX.tStar K (tFld K (tVar 0) "pro") (StX.tStar K (tFld K (tVar 0) "con") tNil))) (L2.start nmInit [V.ref x, V.ref g, V.ref b]) (upd H6 x (.ins C dx (putF "con" (.ref tc) (putF "pro" (.ref tp) [])))) ((srt s.1 ++ srt s.2).map V.str) := by
    rw [List.map_append]
    exact el_stars (ev_fld (ev_var rfl) upd_same T.cl T.nP l1) (.inr (st_of (keep7 _ _ px tp6))) (ev_fld (ev_var rfl) upd_same T.cl T.nC l2) (.inr (st_of (keep7 _ _ cx htc))) (by rw [List.length_map, List.length_map, srt_length, srt_length]; omega)
  refine s_fldU (eu_tuple (el_sorted h7 (by rw [List.length_append, srt_length, srt_length]; omega))) (ev_var rfl) upd_same T.cl T.nN (by show 2 < 1000; decide) fun tn H8 ntn e8 htn => ?_
  have x8 := e8 _ _ (upd_same (H := H6) (a := x))
  have nx8 : tn ≠ x := ne_of htn x8 (by intro q; cases q)
  refine k _ (fun a o na h => ?_) ⟨dx, tp, tc, tn, upd_same, ?_, ?_, ?_⟩
  · rw [upd_ne na]
    exact e8 _ _ (keep7 _ _ na (e6 _ _ (keep5 _ _ na (e04 _ _ h))))
  · rw [upd_ne px]
    exact e8 _ _ (keep7 _ _ px tp6)
  · rw [upd_ne cx]
    exact e8 _ _ (keep7 _ _ cx htc)
  · rw [upd_ne nx8]
    exact htn
end
end K12

/-! K12V: Row's methods: hopeless, in, sign, text. -/
namespace K12
open PySem PySem.Spec PyProof.Rows L2 Evl

/-! ### data compared with nothing -/
theorem dp_strs {K : PySem.W.Frag} {H : Hp} : ∀ xs : List Str, DpAll K H (xs.map V.str) (xs.map PyData.str)
  | [] => .nil
  | x :: r => .cons (.str x) (dp_strs r)
theorem lay_strs : ∀ {xs : List Str}, (∀ x ∈ xs, PyData.strOk x = true) → PyData.canLayAll0 (xs.map PyData.str) = true
  | [], _ => rfl
  | x :: r, h => by
    show (PyData.strOk x && PyData.canLayAll0 (r.map PyData.str)) = true
    rw [h x List.mem_cons_self, lay_strs fun y hy => h y (List.mem_cons_of_mem _ hy)]
    rfl
theorem depth_strs : ∀ xs : List Str, PyData.depthAll (xs.map PyData.str) = 0
  | [] => rfl
  | x :: r => by
    show max (PyData.depth (.str x)) (PyData.depthAll (r.map PyData.str)) = 0
    rw [depth_strs r]
    rfl
theorem shaped_tup {xs : List Str} (h : ∀ x ∈ xs, PyData.strOk x = true) : SeqAt.shaped (.tuple (xs.map PyData.str)) = true := by
  show (PyData.canLayAll0 (xs.map PyData.str) && decide (PyData.depthAll (xs.map PyData.str) + 1 ≤ 64)) = true
  rw [lay_strs h, depth_strs]
  rfl
theorem shaped_lst {xs : List Str} (h : ∀ x ∈ xs, PyData.strOk x = true) : SeqAt.shaped (.list (xs.map PyData.str)) = true := shaped_tup h
theorem eqv_nilT (ds : List PyData) : PyData.eqv (.tuple ds) (.tuple []) = decide (ds = []) := by
  cases ds <;> rfl
theorem eqv_nilL (ds : List PyData) : PyData.eqv (.list ds) (.list []) = decide (ds = []) := by
  cases ds <;> rfl
theorem strOk_name {x : Str} (g : GoodName x) : PyData.strOk x = true := by
  unfold PyData.strOk
  rw [Array.all_eq_true']
  intro c hc
  have h := g.cs c (by simpa using hc)
  have e : letters.cps.toList = (List.range 26).map fun i => i + 97 := by decide +kernel
  rw [e] at h
  obtain ⟨i, hi, rfl⟩ := List.mem_map.mp h
  have := List.mem_range.mp hi
  exact decide_eq_true (by omega)
theorem map_nil_iff {α β : Type} (f : α → β) (xs : List α) : decide (xs.map f = []) = decide (xs = []) := by
  cases xs <;> rfl
section
variable {K : PySem.W.Frag} {σ : L2.St} {H : Hp} {ta : TE} {p : Addr} {xs : List Str}
/-- t == (), t != () -/
theorem ev_eqT0 (h : Ev ta σ H (.ref p)) (hs : SqT K H p (xs.map V.str)) (ok : ∀ x ∈ xs, PyData.strOk x = true) : Ev (tOp (rEqD K) ta (tTup tNil)) σ H (.bl (decide (xs = []))) :=
  ev_opU h (eu_tup ea_nil (Nat.zero_le _)) fun q H1 hq e => rv_val fun H2 e2 Q k => ⟨.tuple (xs.map PyData.str), .tuple [], .tup (ex_t (e.trans e2) hs) (dp_strs xs), .tup (st_of (e2 _ _ hq)) .nil, shaped_tup ok, rfl, by
    rw [eqv_nilT, map_nil_iff]
    exact k⟩
theorem ev_neT0 (h : Ev ta σ H (.ref p)) (hs : SqT K H p (xs.map V.str)) (ok : ∀ x ∈ xs, PyData.strOk x = true) : Ev (tOp (rNeD K) ta (tTup tNil)) σ H (.bl (!decide (xs = []))) :=
  ev_opU h (eu_tup ea_nil (Nat.zero_le _)) fun q H1 hq e => rv_val fun H2 e2 Q k => ⟨.tuple (xs.map PyData.str), .tuple [], .tup (ex_t (e.trans e2) hs) (dp_strs xs), .tup (st_of (e2 _ _ hq)) .nil, shaped_tup ok, rfl, by
    rw [eqv_nilT, map_nil_iff]
    exact k⟩
/-- xs != [] of a list of texts that stands -/
theorem ev_neL0 (h : Ev ta σ H (.ref p)) (hs : SqL K H p (xs.map V.str)) (ok : ∀ x ∈ xs, PyData.strOk x = true) : Ev (tOp (rNeD K) ta (tLst tNil)) σ H (.bl (!decide (xs = []))) :=
  ev_opL h (el_lst ea_nil (Nat.zero_le _)) fun q H1 hq e => rv_val fun H2 e2 Q k => ⟨.list (xs.map PyData.str), .list [], .lst (ex_l (e.trans e2) hs) (dp_strs xs), .lst (sq_of (e2 _ _ hq)) .nil, shaped_lst ok, rfl, by
    rw [eqv_nilL, map_nil_iff]
    exact k⟩
/-- [..] == [] of a new list of texts -/
theorem ev_eqN0 (h : EvL ta σ H (xs.map V.str)) (ok : ∀ x ∈ xs, PyData.strOk x = true) : Ev (tOp (rEqD K) ta (tLst tNil)) σ H (.bl (decide (xs = []))) :=
  ev_opLL (ys := []) h (el_lst ea_nil (Nat.zero_le _)) fun q q2 H1 hq hq2 e => rv_val fun H2 e2 Q k => ⟨.list (xs.map PyData.str), .list [], .lst (sq_of (e2 _ _ hq)) (dp_strs xs), .lst (sq_of (e2 _ _ hq2)) .nil, shaped_lst ok, rfl, by
    rw [eqv_nilL, map_nil_iff]
    exact k⟩
end

/-! ### the promises -/
/-- a row's names all are good -/
def GoodS (s : Sides) : Prop := GoodNames s.1 ∧ GoodNames s.2
theorem GoodS.srt {s : Sides} (g : GoodS s) : GoodNames (srt (s.1 ++ s.2)) := fun x hx => by
  rcases List.mem_append.mp (mem_srt.mp hx) with h | h
  · exact g.1 x h
  · exact g.2 x h
def spHopeless (C : Addr) : Sp := fun vs H Q _ => ∃ (r : Addr) (s : Sides), vs = [.ref r] ∧ RowR C H r s ∧ GoodS s ∧ RV1 (.bl (decide (s.1 = []) && !decide (s.2 = []))) H Q
def spContains (C : Addr) : Sp := fun vs H Q _ => ∃ (r : Addr) (s : Sides) (z : Str), vs = [.ref r, .str z] ∧ RowR C H r s ∧ GoodName z ∧ RV1 (.bl (decide (z ∈ srt (s.1 ++ s.2)))) H Q
def signOf (s : Sides) (z : Str) : Str := if z ∈ s.1 then "+" else "-"
def spSign (C : Addr) : Sp := fun vs H Q _ => ∃ (r : Addr) (s : Sides) (z : Str), vs = [.ref r, .str z] ∧ RowR C H r s ∧ GoodName z ∧ z ∈ srt (s.1 ++ s.2) ∧ RV1 (.str (signOf s z)) H Q
def wordOf (s : Sides) (z : Str) : Str := z ++ signOf s z
def textOf (s : Sides) : Str := if srt (s.1 ++ s.2) = [] then "even" else Txt.join " " ((srt (s.1 ++ s.2)).map (wordOf s))
def spText (C : Addr) : Sp := fun vs H Q _ => ∃ (r : Addr) (s : Sides), vs = [.ref r] ∧ RowR C H r s ∧ GoodS s ∧ s.1.length ≤ 8 ∧ s.2.length ≤ 8 ∧ RV1 (.str (textOf s)) H Q
theorem scHopeless : FnScope ["self"] ["self"] (C8.fnScope (sRow 2)) := C8.fnScope_by (by decide +kernel)
theorem scContains : FnScope ["self", "reason"] ["self", "reason"] (C8.fnScope (sRow 11)) := C8.fnScope_by (by decide +kernel)
theorem scSign : FnScope ["self", "reason"] ["self", "reason"] (C8.fnScope (sRow 3)) := C8.fnScope_by (by decide +kernel)
theorem scText : FnScope ["self", "name"] ["self"] (C8.fnScope (sRow 6)) := C8.fnScope_by (by decide +kernel)
section
variable {P : Program} {w : World} {K : PySem.W.Frag} {mg : Str → Option Value} {base : Heap}
theorem ok_hopeless {C f : Addr} {fd : FuncData} (T : TxtRow K mg C) (F : C8.Fun K "hopeless" "Row.hopeless" (sRow 2) f fd) : FnOk P w K mg base C8.CX0 1 f fd ["self"] (spHopeless C) := by
  refine C8.fn0 F scHopeless (fun vs H Q E h => ?_) (fun cdv A outer s H vs Q E hr h => ?_)
  · obtain ⟨r, s, rfl, _⟩ := h
    rfl
  obtain ⟨r, s, rfl, ⟨dx, tp, tc, tn, h1, h2, h3, h4⟩, g, k⟩ := h
  refine ⟨_, pss_one (ps_ret (pe_and (pe_cmpR (op_eqD hr.units) (pe_fld (pv 0) rfl) (pe_tup pa_nil) (nomark _)) (pe_one (pe_cmpR (op_neD hr.units) (pe_fld (pv 0) rfl) (pe_tup pa_nil) (nomark _))))), ?_⟩
  exact s_ret (ev_andV (ev_eqT0 (ev_fld (ev_var rfl) h1 T.cl T.nP (rowF_pro _ _ _)) (st_of h2) fun x hx => strOk_name (g.1 x hx)) fun _ =>
    ev_neT0 (ev_fld (ev_var rfl) h1 T.cl T.nC (rowF_con _ _ _)) (st_of h3) fun x hx => strOk_name (g.2 x hx)) k
theorem ok_contains {C f : Addr} {fd : FuncData} (T : TxtRow K mg C) (G : C8.Cal P w K mg base 2 "is_name" spName []) (F : C8.Fun K "__contains__" "Row.__contains__" (sRow 11) f fd) : FnOk P w K mg base C8.CX0 3 f fd ["self", "reason"] (spContains C) := by
  refine C8.fn0 F scContains (fun vs H Q E h => ?_) (fun cdv A outer s H vs Q E hr h => ?_)
  · obtain ⟨r, s, z, rfl, _⟩ := h
    rfl
  obtain ⟨r, s, z, rfl, ⟨dx, tp, tc, tn, h1, h2, h3, h4⟩, g, k⟩ := h
  refine ⟨_, pss_one (ps_ret (pe_and (C8.pe_c G hr (by decide) (by rfl) (pa_cons (pv 1) pa_nil)) (pe_one (pe_cmpR op_in_seq (pv 1) (pe_fld (pv 0) rfl) (by rfl))))), ?_⟩
  exact s_ret (ev_andV (a := true) (ev_callV (ea_cons (ev_var rfl) ea_nil) fun H1 _ Q' q => ⟨z, rfl, g, q⟩) fun _ => ev_in (ev_var rfl) (ev_fld (ev_var rfl) h1 T.cl T.nN (rowF_named _ _ _)) (.inr (st_of h4))) k
/-- k not in self -/
theorem ev_notIn {σ : L2.St} {H : Hp} {C : Addr} {ta tb : TE} {r : Addr} {s : Sides} {z : Str} {E : XK} (ha : Ev ta σ H (.str z)) (hb : Ev tb σ H (.ref r)) (hR : RowR C H r s) (g : GoodName z) : Ev (tOp (rNotIn C (spContains C) E) ta tb) σ H (.bl (!decide (z ∈ srt (s.1 ++ s.2)))) := fun H1 e Q q =>
  ha H1 e _ fun H2 e2 => hb H2 (e.trans e2) _ fun H3 e3 => by
    have R := hR.ex ((e.trans e2).trans e3)
    obtain ⟨dx, tp, tc, tn, h1, _⟩ := id R
    exact ⟨r, dx, _, rfl, h1, r, s, z, rfl, R, g, fun H4 e4 => ⟨_, rfl, q H4 ((e2.trans e3).trans e4)⟩⟩
theorem ok_sign {C f fc : Addr} {fd fdc : FuncData} (T : TxtRow K mg C) (Gc : FnOk P w K mg base C8.CX0 3 fc fdc ["self", "reason"] (spContains C)) (bc : Binds K fdc ["self", "reason"] []) (hc : PySem.W.findIn K (.ref C) "__contains__" = some (some (.ref fc))) (ic : PySem.W.isFn K (.ref fc) = true)
    (me : Meth K C "sign" f) (F : C8.Fun K "sign" "Row.sign" (sRow 3) f fd) (b : Binds K fd ["self", "reason"] []) : C8.Met P w K mg base 4 C "sign" (spSign C) [] := by
  refine C8.met0 T.cl me F b scSign (fun vs H Q E h => ?_) (fun cdv A outer s H vs Q E hr h => ?_)
  · obtain ⟨r, s, z, rfl, _⟩ := h
    rfl
  obtain ⟨r, s, z, rfl, R, g, hz, k⟩ := h
  obtain ⟨dx, tp, tc, tn, h1, h2, h3, h4⟩ := id R
  refine ⟨_, pss_cons (ps_if (pt_cmpR (op_notIn (E := C8.E0) Gc hr bc C8.pass0 hc ic) (pv 1) (pv 0) (by rfl)) (pss_one (ps_ret pe_str)) pss_nil)
    (pss_one (ps_ret (pe_ifExp (pt_cmpR op_in_seq (pv 1) (pe_fld (pv 0) rfl) (by rfl)) pe_str pe_str))), ?_⟩
  refine q_not (et_is (et_test (ev_notIn (ev_var rfl) (ev_var rfl) R g)) (by rw [decide_eq_true hz]; rfl)) fun H1 e1 => ?_
  refine s_ret (ev_if (et_test (ev_in (ys := s.1) (ev_var rfl) (ev_fld (ev_var rfl) (e1 _ _ h1) T.cl T.nP (rowF_pro _ _ _)) (.inr (st_of (e1 _ _ h2)))))
    (fun h => ev_is ev_c ?_) (fun h => ev_is ev_c ?_)) fun H2 e2 => k H2 (e1.trans e2)
  · show V.str "+" = V.str (signOf s z)
    unfold signOf
    rw [if_pos (of_decide_eq_true h)]
  · show V.str "-" = V.str (signOf s z)
    unfold signOf
    rw [if_neg (of_decide_eq_false h)]
end
end K12

/-! K12W: Row.text, Row.implies. -/
namespace K12
open PySem PySem.Spec PyProof.Rows L2 Evl

theorem sign_len (s : Sides) (z : Str) : (signOf s z).length = 1 := by
  unfold signOf
  split <;> decide +kernel
theorem word_len {s : Sides} {z : Str} (g : GoodName z) : (wordOf s z).length ≤ 7 := by
  unfold wordOf
  rw [Str.length_append, sign_len]
  have := g.hi
  omega
theorem sum_le {α : Type} {l : List α} {f : α → Nat} {k : Nat} (h : ∀ x ∈ l, f x ≤ k) : (l.map f).sum ≤ l.length * k := by
  induction l with
  | nil => exact Nat.zero_le _
  | cons x r ih =>
    rw [List.map_cons, List.sum_cons, List.length_cons, Nat.add_mul, Nat.one_mul, Nat.add_comm]
    exact Nat.add_le_add (ih fun y hy => h y (List.mem_cons_of_mem _ hy)) (h x List.mem_cons_self)
/-- sep.join(words) -/
theorem ev_join {K : PySem.W.Frag} {σ : L2.St} {H : Hp} {to te : TE} {a : Str} {ys : List Str} (ho : Ev to σ H (.str a)) (h : EvL te σ H (ys.map V.str)) (few : (ys.map (·.length)).sum + ys.length * a.length ≤ 16777216) :
    Ev (tM1 (fun x xs H Q => ∃ a p, ∃ ys : List Str, x = .str a ∧ xs = [.ref p] ∧ (SqL K H p (ys.map V.str) ∨ SqT K H p (ys.map V.str)) ∧ (ys.map (·.length)).sum + ys.length * a.length ≤ 16777216 ∧ Q (.str (Txt.join a ys)) H) to te) σ H (.str (Txt.join a ys)) := fun H1 e Q q =>
  ho H1 e _ fun H2 e2 => ⟨⟨a, rfl⟩, h H2 (e.trans e2) _ fun p H3 np e3 hp => ⟨a, p, ys, rfl, rfl, .inl (sq_of hp), few, q H3 (e2.trans e3)⟩⟩
/-- .. of a list that stands -/
theorem ev_joinV {K : PySem.W.Frag} {σ : L2.St} {H : Hp} {to te : TE} {a : Str} {p : Addr} {ys : List Str} (ho : Ev to σ H (.str a)) (h : Ev te σ H (.ref p)) (hs : SqL K H p (ys.map V.str)) (few : (ys.map (·.length)).sum + ys.length * a.length ≤ 16777216) :
    Ev (tM1 (fun x xs H Q => ∃ a p, ∃ ys : List Str, x = .str a ∧ xs = [.ref p] ∧ (SqL K H p (ys.map V.str) ∨ SqT K H p (ys.map V.str)) ∧ (ys.map (·.length)).sum + ys.length * a.length ≤ 16777216 ∧ Q (.str (Txt.join a ys)) H) to te) σ H (.str (Txt.join a ys)) := fun H1 e Q q =>
  ho H1 e _ fun H2 e2 => ⟨⟨a, rfl⟩, h H2 (e.trans e2) _ fun H3 e3 => ⟨a, p, ys, rfl, rfl, .inl (ex_l ((e.trans e2).trans e3) hs), few, q H3 (e2.trans e3)⟩⟩
theorem ev_fmt {σ : L2.St} {H : Hp} {te : TE} {y : Str} (h : Ev te σ H (.str y)) (few : y.length ≤ 1000) : Ev (tFmt te) σ H (.str y) := fun H1 e Q q =>
  h H1 e _ fun H2 e2 => .inl ⟨y, rfl, sz_of (by omega), q H2 e2⟩
theorem ev_two {σ : L2.St} {H : Hp} {t1 t2 : TE} {x y : Str} (h1 : Ev t1 σ H (.str x)) (h2 : Ev t2 σ H (.str y)) (few : x.length + y.length ≤ 1000) : Ev (fun σ H Q => tJs [t1, t2] Str.empty σ H fun out H1 => Q (.str out) H1) σ H (.str (x ++ y)) := fun H1 e Q q =>
  h1 H1 e _ fun H2 e2 => ⟨x, rfl, by rw [Str.empty_append]; exact sz_of (by omega), h2 H2 (e.trans e2) _ fun H3 e3 => ⟨y, rfl, by rw [Str.empty_append, Str.length_append]; exact sz_of (by omega), by
    show Q (.str (Str.empty ++ x ++ y)) H3
    rw [Str.empty_append]
    exact q H3 (e2.trans e3)⟩⟩
/-- a method that hands back a value -/
theorem ev_methV {σ : L2.St} {H : Hp} {C a dx : Addr} {m : Str} {fs : List (Str × V)} {sp : Sp} {E : XK} {to : TE} {tA : TA} {vs : List V} {v : V} (ho : Ev to σ H (.ref a)) (hH : H a = some (.ins C dx fs)) (l : fs.lookup m = none) (h : EvA tA σ H vs)
    (hs : ∀ H1, Ex H H1 → ∀ Q, RV1 v H1 Q → sp (.ref a :: (vs ++ [])) H1 Q E) : Ev (tMeth C m sp [] E to tA) σ H v := fun H1 e Q q =>
  ho H1 e _ fun H2 e2 => ⟨a, dx, fs, rfl, e2 _ _ (e _ _ hH), l, h H2 (e.trans e2) _ fun H3 e3 => hs H3 ((e.trans e2).trans e3) _ fun H4 e4 => q H4 ((e2.trans e3).trans e4)⟩
/-- a property that hands back a value -/
theorem ev_propV {σ : L2.St} {H : Hp} {C a dx : Addr} {fs : List (Str × V)} {sp : Sp} {E : XK} {to : TE} {v : V} (ho : Ev to σ H (.ref a)) (hH : H a = some (.ins C dx fs)) (hs : ∀ H1, Ex H H1 → ∀ Q, RV1 v H1 Q → sp [.ref a] H1 Q E) : Ev (tProp C sp [] E to) σ H v := fun H1 e Q q =>
  ho H1 e _ fun H2 e2 => ⟨a, dx, fs, rfl, e2 _ _ (e _ _ hH), hs H2 (e.trans e2) _ fun H3 e3 => q H3 (e2.trans e3)⟩
section
variable {P : Program} {w : World} {K : PySem.W.Frag} {mg : Str → Option Value} {base : Heap}
abbrev nmText : List Str := ["self", "name"]
theorem ok_text {C f : Addr} {fd : FuncData} (T : TxtRow K mg C) (G : C8.Met P w K mg base 4 C "sign" (spSign C) []) (me : Meth K C "text" f) (F : C8.Fun K "text" "Row.text" (sRow 6) f fd) (b : Binds K fd ["self"] []) : C8.Met P w K mg base 5 C "text" (spText C) [] := by
  refine C8.met0 T.cl me F b scText (fun vs H Q E h => ?_) (fun cdv A outer s H vs Q E hr h => ?_)
  · obtain ⟨r, s, rfl, _⟩ := h
    rfl
  obtain ⟨r, s, rfl, R, g, f1, f2, k⟩ := h
  obtain ⟨dx, tp, tc, tn, h1, h2, h3, h4⟩ := id R
  refine ⟨_, pss_cons (ps_if (pt_cmpR (op_eqD hr.units) (pe_fld (pv 0) rfl) (pe_tup pa_nil) (nomark _)) (pss_one (ps_ret pe_str)) pss_nil)
    (pss_one (ps_ret (pe_join pe_str
      (pe_lc (own := [("name", 1)]) (g := gName 1) (tt := tYes) (te := fun σ H Q => tJs [tFmt (tVar 1), tFmt (tMeth C "sign" (spSign C) [] C8.E0 (tVar 0) (tCons (tVar 1) tNil))] Str.empty σ H fun out H1 => Q (.str out) H1) rfl scText.nd (pi_tup (pe_fld (pv 0) rfl))
        (blkOk_by (N := nmText) (sc := C8.fnScope (sRow 6)) (by decide +kernel))
        (fun _ _ _ _ _ => pg_name (i := 1) scText.nd rfl (Or.inl rfl)) (fun _ _ _ _ _ => pts_nil)
        (fun _ _ _ _ _ => pe_joined (.cons (pe_fmt (pv 1)) (.cons (pe_fmt (C8.pe_mt (pl := _) G hr (by decide) (pv 0) (pa_cons (pv 1) pa_nil))) .nil))))))), ?_⟩
  have few := srt_length (s.1 ++ s.2)
  rw [List.length_append] at few
  refine q_when (et_test (ev_eqT0 (ev_fld (ev_var rfl) h1 T.cl T.nN (rowF_named _ _ _)) (st_of h4) fun x hx => strOk_name (g.srt x hx))) (fun hb H1 e1 => s_ret ev_c fun H2 e2 => ?_) fun hb H1 e1 => ?_
  · have q := k H2 (e1.trans e2)
    unfold textOf at q
    rw [if_pos (of_decide_eq_true hb)] at q
    exact q
  · refine s_ret (ev_join (K := K) (ys := (srt (s.1 ++ s.2)).map (wordOf s)) ev_c (filt_map (K := K) (xs := srt (s.1 ++ s.2)) (g := fun z => V.str (wordOf s z)) (by rw [List.map_map]; rfl)
      (el_compT (a := tn) (emb := V.str) Str.empty (fun _ => true) (fun z => V.str (wordOf s z)) (ev_fld (ev_var rfl) (e1 _ _ h1) T.cl T.nN (rowF_named _ _ _)) (st_of (e1 _ _ h4)) (by omega) (fun _ => rfl)
        (fun z H' hz e => ⟨et_yes, fun _ => ?_⟩))) ?_) fun H2 e2 => ?_
    · have gz := g.srt z hz
      have R' := R.ex (e1.trans e)
      have few1 := gz.hi
      exact ev_two (ev_fmt (ev_var rfl) (by omega)) (ev_fmt (ev_methV (ev_var rfl) (e _ _ (e1 _ _ h1)) (rowF_no _ _ _ (by decide +kernel) (by decide +kernel) (by decide +kernel)) (ea_cons (ev_var rfl) ea_nil)
        fun H2 e2 Q' q => ⟨r, s, z, rfl, R'.ex e2, gz, hz, q⟩) (by rw [sign_len]; omega)) (by rw [sign_len]; omega)
    · rw [List.map_map, List.length_map]
      have q := sum_le (l := srt (s.1 ++ s.2)) (f := fun z => (wordOf s z).length) (k := 7) fun z hz => word_len (g.srt z hz)
      show (List.map (fun z => (wordOf s z).length) (srt (s.1 ++ s.2))).sum + _ ≤ _
      have l1 : (Str.ofString " ").length = 1 := by decide +kernel
      rw [l1]
      omega
    · have q := k H2 (e1.trans e2)
      unfold textOf at q
      rw [if_neg (of_decide_eq_false hb)] at q
      exact q

/-! ### implies -/
def spImplies (C : Addr) : Sp := fun vs H Q _ => ∃ (r r2 : Addr) (s t : Sides), vs = [.ref r, .ref r2] ∧ RowR C H r s ∧ RowR C H r2 t ∧ GoodS s ∧ GoodS t ∧ s.1.length ≤ 8 ∧ t.2.length ≤ 8 ∧ RV1 (.bl (impl s t)) H Q
abbrev nmImpl : List Str := ["self", "other", "name"]
theorem scImplies : FnScope nmImpl ["self", "other"] (C8.fnScope (sRow 5)) := C8.fnScope_by (by decide +kernel)
/-- all([x in t for x in u]) of two fields -/
theorem ok_implies {C f fh ph : Addr} {fd fdh : FuncData} (B : Bi mg) (T : TxtRow K mg C) (Gh : FnOk P w K mg base C8.CX0 1 fh fdh ["self"] (spHopeless C)) (bh : Binds K fdh ["self"] []) (hp : PropOf K C "hopeless" ph fh)
    (me : Meth K C "implies" f) (F : C8.Fun K "implies" "Row.implies" (sRow 5) f fd) (b : Binds K fd ["self", "other"] []) : C8.Met P w K mg base 3 C "implies" (spImplies C) [] := by
  refine C8.met0 T.cl me F b scImplies (fun vs H Q E h => ?_) (fun cdv A outer s H vs Q E hr h => ?_)
  · obtain ⟨r, r2, s, t, rfl, _⟩ := h
    rfl
  obtain ⟨r, r2, s, t, rfl, R, R2, g, g2, f1, f2, k⟩ := h
  obtain ⟨dx, tp, tc, tn, h1, h2, h3, h4⟩ := id R
  obtain ⟨dx', tp', tc', tn', h1', h2', h3', h4'⟩ := id R2
  refine ⟨_, pss_cons (ps_if (PW.pt (pw_or (pt_val (pe_prop (E := C8.E0) (pv 0) T.cl hp Gh hr bh .nil C8.pass0 rfl)) (pw_or1 (pt_cmpR (op_eqD hr.units) (pe_fld (pv 1) rfl) (pe_tup pa_nil) (nomark _))))) (pss_one (ps_ret pe_bl)) pss_nil)
    (pss_cons (ps_if (pt_not (pt_val (pe_callB (cr_all rfl) (by rfl) B.all (by decide +kernel) (pa_cons
        (pe_lc (own := [("name", 2)]) (g := gName 2) (tt := tYes) (te := tOp (rIn K false) (tVar 2) (tFld K (tVar 0) "con")) rfl scImplies.nd (pi_tup (pe_fld (pv 1) rfl)) (blkOk_by (N := nmImpl) (sc := C8.fnScope (sRow 5)) (by decide +kernel))
          (fun _ _ _ _ _ => pg_name (i := 2) scImplies.nd rfl (Or.inl rfl)) (fun _ _ _ _ _ => pts_nil)
          (fun _ _ _ _ _ => pe_cmpR op_in_seq (pv 2) (pe_fld (pv 0) rfl) (by rfl))) pa_nil)))) (pss_one (ps_ret pe_bl)) pss_nil)
    (pss_one (ps_ret (pe_callB (cr_all rfl) (by rfl) B.all (by decide +kernel) (pa_cons
        (pe_lc (own := [("name", 2)]) (g := gName 2) (tt := tYes) (te := tOp (rIn K false) (tVar 2) (tFld K (tVar 1) "pro")) rfl scImplies.nd (pi_tup (pe_fld (pv 0) rfl)) (blkOk_by (N := nmImpl) (sc := C8.fnScope (sRow 5)) (by decide +kernel))
          (fun _ _ _ _ _ => pg_name (i := 2) scImplies.nd rfl (Or.inl rfl)) (fun _ _ _ _ _ => pts_nil)
          (fun _ _ _ _ _ => pe_cmpR op_in_seq (pv 2) (pe_fld (pv 1) rfl) (by rfl))) pa_nil))))), ?_⟩
  have same : impl s t = (if (decide (s.1 = []) && !decide (s.2 = [])) || decide (t.2 = []) then true else if !(t.2.all fun x => decide (x ∈ s.2)) then false else s.1.all fun x => decide (x ∈ t.1)) := by
    unfold impl
    have e : decide (s.2 ≠ []) = !decide (s.2 = []) := by simp
    rw [e]
  rw [same] at k
  refine q_when (et_or (et_B (ev_propV (ev_var rfl) h1 fun H1 e1 Q' q => ⟨r, s, rfl, R.ex e1, g, q⟩)) fun _ => et_test (ev_eqT0 (ev_fld (ev_var rfl) h1' T.cl T.nC (rowF_con _ _ _)) (st_of h3') fun x hx => strOk_name (g2.2 x hx)))
    (fun hb H1 e1 => s_ret ev_c fun H2 e2 => ?_) fun hb H1 e1 => ?_
  · have q := k H2 (e1.trans e2)
    rw [hb] at q
    exact q
  refine q_when (et_not (et_B (ev_all (bs := t.2.map fun x => decide (x ∈ s.2)) (filt_map (K := K) (xs := t.2) (g := fun x => V.bl (decide (x ∈ s.2))) (by rw [List.map_map]; rfl)
      (el_compT (a := tc') (emb := V.str) Str.empty (fun _ => true) (fun x => V.bl (decide (x ∈ s.2))) (ev_fld (ev_var rfl) (e1 _ _ h1') T.cl T.nC (rowF_con _ _ _)) (st_of (e1 _ _ h3')) (by omega) (fun _ => rfl)
        (fun z H' hz e => ⟨et_yes, fun _ => ev_in (ev_var rfl) (ev_fld (ev_var rfl) (e _ _ (e1 _ _ h1)) T.cl T.nC (rowF_con _ _ _)) (.inr (st_of (e _ _ (e1 _ _ h3))))⟩))))))
    (fun hb2 H2 e2 => s_ret ev_c fun H3 e3 => ?_) fun hb2 H2 e2 => ?_
  · have q := k H3 ((e1.trans e2).trans e3)
    have hb2' : (!(t.2.all fun x => decide (x ∈ s.2))) = true := by
      rw [← hb2, List.all_map]
      rfl
    rw [hb, hb2'] at q
    exact q
  · have e12 := e1.trans e2
    refine s_ret (ev_is (ev_all (bs := s.1.map fun x => decide (x ∈ t.1)) (filt_map (K := K) (xs := s.1) (g := fun x => V.bl (decide (x ∈ t.1))) (by rw [List.map_map]; rfl)
      (el_compT (a := tp) (emb := V.str) Str.empty (fun _ => true) (fun x => V.bl (decide (x ∈ t.1))) (ev_fld (ev_var rfl) (e12 _ _ h1) T.cl T.nP (rowF_pro _ _ _)) (st_of (e12 _ _ h2)) (by omega) (fun _ => rfl)
        (fun z H' hz e => ⟨et_yes, fun _ => ev_in (ev_var rfl) (ev_fld (ev_var rfl) (e _ _ (e12 _ _ h1')) T.cl T.nP (rowF_pro _ _ _)) (.inr (st_of (e _ _ (e12 _ _ h2'))))⟩)))) ?_) fun H3 e3 => k H3 (e12.trans e3)
    have hb2' : (!(t.2.all fun x => decide (x ∈ s.2))) = false := by
      rw [← hb2, List.all_map]
      rfl
    rw [hb, hb2', List.all_map]
    rfl
end
end K12

/-! K12O: Row.__or__. -/
namespace K12
open PySem PySem.Spec PyProof.Rows L2 Evl

def orRow (s t : Sides) : Sides := rowOf (srt (allTx (orPro s t)), orCon s t)
theorem orRow_join {a b : Sides} (ha : Wf a) (hb : Wf b) : orRow (rowOf a) (rowOf b) = joinS a b :=
  or_join ha hb (srt_nodup.mpr (allTx_nodup _)) fun x => by rw [mem_srt, mem_allTx]
theorem el_sortTx {K : PySem.W.Frag} {σ : L2.St} {H : Hp} {te : TE} {xs : List Str} (h : EvL te σ H (xs.map V.str)) (few : xs.length ≤ 60) : EvL (tSortTx K te) σ H ((srt (allTx xs)).map V.str) := fun H1 e Q q =>
  h H1 e _ fun p H2 np e2 hp => ⟨p, xs, rfl, sq_of hp, few, fun l hl => q l _ (fresh_back e2 hl) (e2.trans (Ex.new hl)) upd_same⟩
def spOr (C : Addr) : Sp := fun vs H Q _ => ∃ (r r2 : Addr) (s t : Sides), vs = [.ref r, .ref r2] ∧ RowR C H r s ∧ RowR C H r2 t ∧ Good s ∧ Good t ∧ ∀ x H', Ex H H' → RowR C H' x (orRow s t) → Q (.ref x) H'
abbrev nmOr : List Str := ["self", "other", "added", "con", "both", "pro", "name"]
theorem scOr : FnScope nmOr ["self", "other"] (C8.fnScope (sRow 10)) := C8.fnScope_by (by decide +kernel)
theorem orPro_len (s t : Sides) : (orPro s t).length ≤ s.1.length + t.1.length := by
  unfold orPro
  exact Nat.le_trans (List.length_filter_le _ _) (Nat.le_of_eq List.length_append)
theorem both_len (a b : List Str) : (both a b).length ≤ a.length + b.length := by
  unfold both
  rw [List.length_append]
  exact Nat.add_le_add_left (List.length_filter_le _ _) _
/-- a row is made: what the class's promise asks and gives -/
theorem ev_row {C : Addr} {σ : L2.St} {H : Hp} {E : XK} {t1 t2 : TE} {g b : Addr} {s : Sides} {Q : VK} (h1 : Ev t1 σ H (.ref g)) (h2 : Ev t2 σ H (.ref b)) (hg : H g = some (.lst (s.1.map V.str))) (hb : H b = some (.lst (s.2.map V.str))) (n1 : s.1.Nodup) (n2 : s.2.Nodup) (dj : ∀ z ∈ s.1, z ∉ s.2)
    (g1 : GoodNames s.1) (g2 : GoodNames s.2) (f1 : s.1.length ≤ 20) (f2 : s.2.length ≤ 20) (k : ∀ x H', Ex H H' → RowR C H' x (rowOf s) → Q (.ref x) H') : tMake C (spRowInit C) [] E (tCons t1 (tCons t2 tNil)) σ H Q :=
  h1 H (Ex.refl _) _ fun H1 e1 => h2 H1 e1 _ fun H2 e2 x dx nx nd ne => by
    have e := e1.trans e2
    have up : ∀ {p o}, H p = some o → upd (upd H2 dx (.own x)) x (.ins C dx []) p = some o := fun {p o} hp => by
      have q := e _ _ hp
      rw [upd_ne (ne_of_none q nx), upd_ne (ne_of_none q nd)]
      exact q
    exact ⟨x, dx, g, b, s, rfl, upd_same, up hg, up hb, n1, n2, dj, g1, g2, f1, f2, fun H' keep R => ⟨rfl, k x H' (fun p o hp => keep p o (ne_of_none (e _ _ hp) nx) (up hp)) R⟩⟩
section
variable {P : Program} {w : World} {K : PySem.W.Frag} {mg : Str → Option Value} {base : Heap}
theorem ok_or {C f : Addr} {fd : FuncData} (B : Bi mg) (T : TxtRow K mg C) (G : C8.Mak P w K mg base 4 "Row" C (spRowInit C) []) (F : C8.Fun K "__or__" "Row.__or__" (sRow 10) f fd) : FnOk P w K mg base C8.CX0 6 f fd ["self", "other"] (spOr C) := by
  refine C8.fn0 F scOr (fun vs H Q E h => ?_) (fun cdv A outer s0 H vs Q E hr h => ?_)
  · obtain ⟨r, r2, s, t, rfl, _⟩ := h
    rfl
  obtain ⟨r, r2, s, t, rfl, R, R2, g, g2, k⟩ := h
  obtain ⟨dx, tp, tc, tn, h1, h2, h3, h4⟩ := id R
  obtain ⟨dx', tp', tc', tn', h1', h2', h3', h4'⟩ := id R2
  refine ⟨_, pss_cons (ps_setLc (i := 2) (own := [("name", 6)]) (g := gName 6) (tt := tTest (tOp (rIn K true) (tVar 6) (tFld K (tVar 0) "con"))) (te := tVar 6) rfl scOr.nd rfl rfl (sw_true rfl rfl rfl (by decide +kernel)) (pi_tup (pe_fld (pv 1) rfl))
        (blkOk_by (N := nmOr) (sc := C8.fnScope (sRow 10)) (by decide +kernel)) (fun _ _ _ _ _ => pg_name (i := 6) scOr.nd rfl (Or.inl rfl)) (fun _ _ _ _ _ => pts_one (pt_cmpR op_notIn_seq (pv 6) (pe_fld (pv 0) rfl) (by rfl))) (fun _ _ _ _ _ => pv 6))
    (pss_cons (ps_set (i := 3) scOr.nd rfl (Or.inr rfl) (pe_lst (StX.pa_star (pe_fld (pv 0) rfl) (StX.pa_star (pv 2) pa_nil))))
    (pss_cons (ps_set (i := 4) scOr.nd rfl (Or.inl rfl) (pe_lst (StX.pa_star (pe_fld (pv 0) rfl) (StX.pa_star (pe_fld (pv 1) rfl) pa_nil))))
    (pss_cons (ps_set (i := 5) scOr.nd rfl (Or.inl rfl) (pe_sortTx rfl (by rfl) B.sorted (by rfl) B.set
        (pe_lc (own := [("name", 6)]) (g := gName 6) (tt := tTest (tOp (rIn K true) (tVar 6) (tVar 3))) (te := tVar 6) rfl scOr.nd (pi_list (pv 4)) (blkOk_by (N := nmOr) (sc := C8.fnScope (sRow 10)) (by decide +kernel))
          (fun _ _ _ _ _ => pg_name (i := 6) scOr.nd rfl (Or.inl rfl)) (fun _ _ _ _ _ => pts_one (pt_cmpR op_notIn_seq (pv 6) (pv 3) (by rfl))) (fun _ _ _ _ _ => pv 6))))
    (pss_one (ps_ret (C8.pe_mk G hr (by decide) (by rfl) (pa_cons (pv 5) (pa_cons (pv 3) pa_nil)))))))), ?_⟩
  have a1 := g.f1
  have a2 := g.f2
  have b1 := g2.f1
  have b2 := g2.f2
  -- added
  refine q_asgL (el_compT (a := tc') (emb := V.str) Str.empty (fun x => decide (x ∉ s.2)) V.str (ev_fld (ev_var rfl) h1' T.cl T.nC (rowF_con _ _ _)) (st_of h3') (by omega) (fun _ => rfl)
    (fun z H' hz e => ⟨et_test (ev_nin (ev_var rfl) (ev_fld (ev_var rfl) (e _ _ h1) T.cl T.nC (rowF_con _ _ _)) (.inr (st_of (e _ _ h3)))), fun _ => ev_var rfl⟩)) fun la H1 n1 e1 g1 => ?_
  -- con
  refine q_asgL (xs := (orCon s t).map V.str) (by
    unfold orCon both
    rw [List.map_append]
    exact el_stars (ev_fld (ev_var rfl) (e1 _ _ h1) T.cl T.nC (rowF_con _ _ _)) (.inr (st_of (e1 _ _ h3))) (ev_var rfl) (.inl (sq_of g1)) (by
      rw [List.length_map, List.length_map]
      have := List.length_filter_le (fun x => decide (x ∉ s.2)) t.2
      omega)) fun lc H2 n2 e2 g2' => ?_
  have e12 := e1.trans e2
  -- both
  refine q_asgL (xs := (s.1 ++ t.1).map V.str) (by
    rw [List.map_append]
    exact el_stars (ev_fld (ev_var rfl) (e12 _ _ h1) T.cl T.nP (rowF_pro _ _ _)) (.inr (st_of (e12 _ _ h2))) (ev_fld (ev_var rfl) (e12 _ _ h1') T.cl T.nP (rowF_pro _ _ _)) (.inr (st_of (e12 _ _ h2'))) (by
      rw [List.length_map, List.length_map]
      omega)) fun lb H3 n3 e3 g3 => ?_
  have hlen : (s.1 ++ t.1).length ≤ 16 := by rw [List.length_append]; omega
  have pl := orPro_len s t
  -- pro
  refine q_asgL (el_sortTx (xs := orPro s t) (el_compL (a := lb) (emb := V.str) Str.empty (fun x => decide (x ∉ orCon s t)) V.str (ev_var rfl) (sq_of g3) (by omega) (fun _ => rfl)
    (fun z H' hz e => ⟨et_test (ev_nin (ev_var rfl) (ev_var rfl) (.inl (sq_of (e _ _ (e3 _ _ g2'))))), fun _ => ev_var rfl⟩)) (by omega)) fun lp H4 n4 e4 g4 => ?_
  have wn : (orCon s t).Nodup := nodup_both g.wf.b g2.wf.b
  have al := allTx_len (orPro s t)
  have cl := both_len s.2 t.2
  refine ev_row (s := (srt (allTx (orPro s t)), orCon s t)) (ev_var rfl) (ev_var rfl) g4 (e4 _ _ (e3 _ _ g2')) (srt_nodup.mpr (allTx_nodup _)) wn (fun z hz => ?_) (fun z hz => ?_) (fun z hz => ?_) (by
    show (srt _).length ≤ 20
    rw [srt_length]
    omega) (by show (orCon s t).length ≤ 20; unfold orCon; omega) fun x H' e' R' => k x H' ((e12.trans e3).trans (e4.trans e')) R'
  · have q := mem_allTx.mp (mem_srt.mp hz)
    exact of_decide_eq_true (List.mem_filter.mp q).2
  · have q := mem_allTx.mp (mem_srt.mp hz)
    rcases List.mem_append.mp (List.mem_filter.mp q).1 with h | h
    · exact g.n1 z h
    · exact g2.n1 z h
  · rcases mem_both.mp hz with h | h
    · exact g.n2 z h
    · exact g2.n2 z h
end
end K12

/-! K12D: the class Order. -/
namespace K12
open PySem PySem.Spec PyProof.Rows L2 Evl

/-! ### an order in the heap -/
def ordF (lr ls lt : Addr) : List (Str × V) := putF "reasons" (.ref lt) (putF "spots" (.ref ls) (putF "ranked" (.ref lr) []))
theorem o1 : ¬ (("reasons" : Str) = "spots") := by decide +kernel
theorem o2 : ¬ (("reasons" : Str) = "ranked") := by decide +kernel
theorem o3 : ¬ (("spots" : Str) = "ranked") := by decide +kernel
theorem ordF_ranked (lr ls lt : Addr) : (ordF lr ls lt).lookup ("ranked" : Str) = some (.ref lr) := by
  unfold ordF
  rw [lookup_putF, if_neg (Ne.symm o2), lookup_putF, if_neg (Ne.symm o3), lookup_putF, if_pos rfl]
theorem ordF_spots (lr ls lt : Addr) : (ordF lr ls lt).lookup ("spots" : Str) = some (.ref ls) := by
  unfold ordF
  rw [lookup_putF, if_neg (Ne.symm o1), lookup_putF, if_pos rfl]
theorem ordF_no (lr ls lt : Addr) {m : Str} (h1 : ¬ m = "reasons") (h2 : ¬ m = "spots") (h3 : ¬ m = "ranked") : (ordF lr ls lt).lookup m = none := by
  unfold ordF
  rw [lookup_putF, if_neg h1, lookup_putF, if_neg h2, lookup_putF, if_neg h3]
  rfl
/-- the dict's keys are these texts -/
def Spots (kvs : List (Key × V)) (line : List Str) : Prop := (∀ z : Str, (valV kvs (Sum.inr z : Key)).isSome = decide (z ∈ line)) ∧ kvs.length ≤ line.length
def OrderR (O : Addr) (H : Hp) (x : Addr) (line : List Str) : Prop := ∃ dx lr ls lt kvs, H x = some (.ins O dx (ordF lr ls lt)) ∧ H lr = some (.lst (line.map V.str)) ∧ H ls = some (.dK kvs) ∧ Spots kvs line
theorem OrderR.ex {O : Addr} {H H' : Hp} {x : Addr} {line : List Str} (h : OrderR O H x line) (e : Ex H H') : OrderR O H' x line := by
  obtain ⟨dx, lr, ls, lt, kvs, h1, h2, h3, h4⟩ := h
  exact ⟨dx, lr, ls, lt, kvs, e _ _ h1, e _ _ h2, e _ _ h3, h4⟩
structure TxtOrd (K : PySem.W.Frag) (mg : Str → Option Value) (O : Addr) : Prop where
  cl : Cls K O
  nR : NoAttr K O "ranked"
  nS : NoAttr K O "spots"
  nT : NoAttr K O "reasons"
  mgO : mg "Order" = some (.ref O)
theorem Spots.nil : Spots [] [] := ⟨fun z => rfl, Nat.le_refl _⟩
theorem putK_len1 (kvs : List (Key × V)) (k : Key) (v : V) : (putK kvs k v).length ≤ kvs.length + 1 := by
  unfold putK
  split
  · rw [List.length_map]; exact Nat.le_succ _
  · rw [List.length_append]; exact Nat.le_refl _
theorem Spots.put {kvs : List (Key × V)} {l : List Str} {z : Str} {v : V} (h : Spots kvs l) : Spots (putK kvs (Sum.inr z : Key) v) (l ++ [z]) := by
  refine ⟨fun y => ?_, ?_⟩
  · rw [valV_put]
    by_cases e : (Sum.inr y : Key) = Sum.inr z
    · rw [if_pos e]
      have e2 : y = z := Sum.inr.inj e
      rw [e2]
      simp
    · rw [if_neg e, h.1]
      have e2 : ¬ y = z := fun q => e (congrArg Sum.inr q)
      exact decide_eq_decide.mpr (by rw [List.mem_append, List.mem_singleton]; exact ⟨.inl, fun q => q.resolve_right e2⟩)
  · rw [List.length_append]
    exact Nat.le_trans (putK_len1 _ _ _) (Nat.succ_le_succ h.2)

/-! ### Order.__init__ -/
/-- ahead of the binding of *reasons -/
def spOrd0 (O : Addr) : Sp := fun vs H Q _ => ∃ (x dx p : Addr) (line : List Str), vs = [.ref x, .ref p] ∧ H x = some (.ins O dx []) ∧ H p = some (.tup (line.map V.str)) ∧ GoodNames line ∧ line.Nodup ∧ 1 ≤ line.length ∧ line.length ≤ 7 ∧
  ∀ H', (∀ a o, a ≠ x → H a = some o → H' a = some o) → OrderR O H' x line → Q .non H'
abbrev nmOrd : List Str := ["self", "reasons", "spots", "at", "reason"]
theorem scOrd : FnScope nmOrd ((["self"] : List Str) ++ (["reasons"] : List Str)) (defScope (sOrder 0)) := C8.fnScope_by (sc := defScope (sOrder 0)) (by decide +kernel)
/-- d[k] = v of a dict that stands -/
theorem s_dput {σ : L2.St} {H : Hp} {td ty tv : TE} {D : Ends} {d : Addr} {kvs : List (Key × V)} {z : Str} {v : V} (hv : Ev tv σ H v) (hd : Ev td σ H (.ref d)) (hk : Ev ty σ H (.str z)) (hH : H d = some (.dK kvs)) (few : kvs.length ≤ 1000)
    (k : ∀ H1, Ex H H1 → D.nx σ (upd H1 d (.dK (putK kvs (Sum.inr z : Key) v)))) : sDPut td ty tv D σ H := hv H (Ex.refl _) _ fun H1 e1 => hd H1 e1 _ fun H2 e2 => hk H2 (e1.trans e2) _ fun H3 e3 => by
  have e := (e1.trans e2).trans e3
  exact ⟨d, _, rfl, DPut.k (k := (Sum.inr z : Key)) (e _ _ hH) (small1000 few), k H3 e⟩
theorem ev_din {σ : L2.St} {H : Hp} {ty td : TE} {d : Addr} {kvs : List (Key × V)} {z : Str} (hk : Ev ty σ H (.str z)) (hd : Ev td σ H (.ref d)) (hH : H d = some (.dK kvs)) : Ev (tDIn ty td) σ H (.bl (valV kvs (Sum.inr z : Key)).isSome) := fun H1 e Q q =>
  hk H1 e _ fun H2 e2 => hd H2 (e.trans e2) _ fun H3 e3 => ⟨d, _, rfl, DGet.k (k := (Sum.inr z : Key)) (((e.trans e2).trans e3) _ _ hH), q H3 (e2.trans e3)⟩
theorem ev_dnotin {σ : L2.St} {H : Hp} {ty td : TE} {d : Addr} {kvs : List (Key × V)} {z : Str} (hk : Ev ty σ H (.str z)) (hd : Ev td σ H (.ref d)) (hH : H d = some (.dK kvs)) : Ev (tDNotIn ty td) σ H (.bl (!(valV kvs (Sum.inr z : Key)).isSome)) := fun H1 e Q q =>
  hk H1 e _ fun H2 e2 => hd H2 (e.trans e2) _ fun H3 e3 => ⟨d, _, rfl, DGet.k (k := (Sum.inr z : Key)) (((e.trans e2).trans e3) _ _ hH), q H3 (e2.trans e3)⟩
section
variable {P : Program} {w : World} {K : PySem.W.Frag} {mg : Str → Option Value} {base : Heap}
theorem ok_ordInit {O f : Addr} {fd : FuncData} {t7 : Tok} (B : Bi mg) (m7 : mg "MOST_RANKED" = some (.int 7 t7)) (T : TxtOrd K mg O) (G : C8.Cal P w K mg base 2 "is_name" spName []) (F : Fun K "__init__" "Order.__init__" (sOrder 0) f fd) :
    FnR P w K mg base C8.CX0 3 f (fun vs H Q E => ∃ ws rest, vs = ws ++ rest ∧ ws.length = (["self"] : List Str).length ∧ rest.length ≤ sizeLine ∧ ∀ p, H p = Option.none → spOrd0 O (ws ++ [V.ref p]) (upd H p (.tup rest)) Q E) := by
  obtain ⟨oc, od, kV, doc, pm, an, cdv, ct, osl, rfl, lk, hcd⟩ := F.ex
  refine StX.fn_star (ps := (["self"] : List Str)) (pv := "reasons") (N := nmOrd) lk hcd scOrd StX.cxUp_none (StX.bind_star1 (p1 := "self") (pv := "reasons") (B := fun l => bindArgs _ ⟨l, []⟩) (fun a => rfl) (fun a r rs => rfl)) (fun A outer s H vs Q E hr h => ?_)
  obtain ⟨x, dx, p, line, rfl, hx, hp, gn, nd, f1, f2, k⟩ := h
  have hu := hu_of hr
  refine ⟨_, PSs.nox (pss_cons (ps_if (pt_cmpR op_eq (pe_callB call_len_seq (by rfl) B.len PySem.boot_len (pa_cons (pv 1) pa_nil)) pe_int (nomark _)) pss_never pss_nil)
    (pss_cons (ps_set (i := 2) scOrd.nd rfl (Or.inl rfl) pe_dnewK)
    (pss_cons (ps_for PassesOwn.never rfl (pi_enumT (by rfl) B.enum (pa_cons (pv 1) pa_nil)) (pg_tup rfl (pgs_cons (pg_name (i := 3) scOrd.nd rfl (Or.inl rfl)) (pgs_cons (pg_name (i := 4) scOrd.nd rfl (Or.inl rfl)) pgs_nil)))
      (pss_cons (ps_if (PW.pt (pw_or (pt_not (pt_val (C8.pe_c G hr (by decide) (by rfl) (pa_cons (pv 4) pa_nil)))) (pw_or (pt_cmp (pc_din hu (pv 4) (pv 2))) (pw_or1 (pt_cmpR op_eq (pv 3) (pe_glob (v := .int 7) (by rfl) m7 ⟨_, rfl⟩) (nomark _)))))) pss_never pss_nil)
      (pss_one (ps_dput hu (pv 2) (pv 4) (pv 3) rfl))))
    (pss_cons (ps_fld (pv 0) (pe_callTy call_list_of (by rfl) B.list (by decide +kernel) (pa_cons (pv 1) pa_nil)) rfl)
    (pss_cons (ps_fld (pv 0) (pv 2) rfl)
    (pss_one (ps_fld (pv 0) (pe_callTy call_tuple_of (by rfl) B.tuple (by decide +kernel) (pa_cons (pe_callB cr_sortedS (by rfl) B.sorted (by decide +kernel) (pa_cons (pe_callTy call_list_of (by rfl) B.list (by decide +kernel) (pa_cons (pv 1) pa_nil)) pa_nil)) pa_nil)) rfl))))))), ?_⟩
  refine q_not (et_test (ev_is (ev_op (ev_lenV (ev_var rfl) (.inr (st_of hp))) ev_c (rv_eq rfl)) ?_)) fun H1 e1 => ?_
  · rw [List.length_map]
    exact congrArg V.bl (decide_eq_false fun q => by injection q with q; omega)
  intro d hd
  have e2 : Ex H (upd H1 d (.dK [])) := e1.trans (Ex.new hd)
  have nd0 : H d = none := fresh_back e1 hd
  have len0 : (line.map V.str).length = line.length := List.length_map _
  refine ⟨_, rfl, p, _, rfl, st_of (e2 _ _ hp), for_it (walk_enumT (K := K) (a := p) (xs := line.map V.str)) (fun i σ H' => Ex H H' ∧ (∃ kvs, H' d = some (.dK kvs) ∧ Spots kvs (line.take i)) ∧ ∃ v1 v2, σ = [some (.ref x), some (.ref p), some (.ref d), v1, v2])
    ⟨e2, ⟨[], upd_same, Spots.nil⟩, none, none, rfl⟩ (fun i σ H' _ h => st_of (h.1 _ _ hp)) ?_ ?_⟩
  · rintro i y σ H' H2 hi ⟨e, ⟨kvs, hk, hs⟩, v1, v2, rfl⟩ ⟨T', y1, y2, rfl, hT, rfl, h1, h2⟩
    have hi' : i < line.length := by rw [List.length_map] at hi; exact hi
    obtain rfl : y1 = V.int (i : Int) := (Option.some.inj h1).symm
    have h2 : (line.map V.str)[i]? = some y2 := h2
    rw [List.getElem?_map, List.getElem?_eq_getElem hi'] at h2
    obtain rfl : y2 = V.str line[i] := (Option.some.inj h2).symm
    have eT : Ex H' (upd H' T' (.tup [.int (i : Int), .str line[i]])) := Ex.new hT
    refine ⟨T', _, rfl, st_of upd_same, rfl, _, _, rfl, _, _, rfl, rfl, ?_⟩
    have no : line[i] ∉ line.take i := fun q => by
      obtain ⟨j, hj, ej⟩ := List.getElem_of_mem q
      rw [List.length_take] at hj
      rw [List.getElem_take] at ej
      have := (List.getElem_inj nd).mp ej
      omega
    refine q_not (et_is (et_or (et_notT (et_B (ev_callV (ea_cons (ev_var rfl) ea_nil) fun H3 _ Q' q => ⟨line[i], rfl, gn _ (List.getElem_mem hi'), q⟩))) fun _ => et_or (et_B (ev_din (ev_var rfl) (ev_var rfl) (eT _ _ hk))) fun _ => et_test (ev_op (ev_var rfl) ev_c (rv_eq rfl))) ?_) fun H3 e3 => ?_
    · rw [hs.1, decide_eq_false no]
      show (false || (false || decide (V.int (i : Int) = V.int 7))) = false
      rw [decide_eq_false (fun q => by injection q with q; omega)]
      rfl
    refine s_dput (ev_var rfl) (ev_var rfl) (ev_var rfl) (e3 _ _ (eT _ _ hk)) (by have := hs.2; rw [List.length_take] at this; omega) fun H4 e4 => ?_
    refine ⟨Ex.mut ((e.trans eT).trans (e3.trans e4)) nd0, ⟨_, upd_same, ?_⟩, _, _, rfl⟩
    rw [List.take_succ_eq_append_getElem hi']
    exact hs.put
  · rintro σ H' ⟨e, ⟨kvs, hk, hs⟩, v1, v2, rfl⟩
    rw [len0, List.take_length] at hs
    refine q_fldL (el_listV (ev_var rfl) (.inr (st_of (e _ _ hp)))) (ev_var rfl) (e _ _ hx) T.cl T.nR (by show 0 < 1000; decide) fun lr H2 nlr e2 hlr => ?_
    have x2 := e2 _ _ (e _ _ hx)
    have keep : ∀ {H : Hp} {o' : HO} a o, a ≠ x → H a = some o → upd H x o' a = some o := fun a o na h => by rw [upd_ne na]; exact h
    have lrx : lr ≠ x := ne_of hlr x2 (by intro q; cases q)
    have dnx : d ≠ x := ne_of hk (e _ _ hx) (by intro q; cases q)
    have pnx : p ≠ x := ne_of hp hx (by intro q; cases q)
    refine q_fldV (ev_var rfl) (ev_var rfl) upd_same T.cl T.nS (by show 1 < 1000; decide) fun H3 e3 => ?_
    refine s_fldU (eu_tuple (el_sorted (xs := line) (el_listV (ev_var rfl) (.inr (st_of (keep p _ pnx (e3 _ _ (keep p _ pnx (e2 _ _ (e _ _ hp)))))))) (by omega))) (ev_var rfl) upd_same T.cl T.nT (by show 2 < 1000; decide) fun lt H5 nlt e5 hlt => ?_
    refine k _ (fun a o na h => ?_) ⟨dx, lr, d, lt, kvs, upd_same, ?_, ?_, hs⟩
    · exact keep a o na (e5 _ _ (keep a o na (e3 _ _ (keep a o na (e2 _ _ (e _ _ h))))))
    · exact keep _ _ lrx (e5 _ _ (keep _ _ lrx (e3 _ _ (keep _ _ lrx hlr))))
    · exact keep _ _ dnx (e5 _ _ (keep _ _ dnx (e3 _ _ (keep _ _ dnx (e2 _ _ hk)))))
end
end K12

/-! K12B: Order.decides, Order.bears. -/
namespace K12
open PySem PySem.Spec PyProof.Rows L2 Evl

def deciding (line : List Str) (s : Sides) : Option Str := line.find? fun x => decide (x ∈ s.1 ++ s.2)
def decV : Option Str → V
  | none => .non
  | some z => .str z
def spDecides (O C : Addr) : Sp := fun vs H Q _ => ∃ (o r : Addr) (line : List Str) (s : Sides), vs = [.ref o, .ref r] ∧ OrderR O H o line ∧ RowR C H r s ∧ (∀ x ∈ s.1, x ∈ line) ∧ (∀ x ∈ s.2, x ∈ line) ∧ RV1 (decV (deciding line s)) H Q
def spBears (O C : Addr) : Sp := fun vs H Q _ => ∃ (o r : Addr) (line : List Str) (s : Sides), vs = [.ref o, .ref r] ∧ OrderR O H o line ∧ RowR C H r s ∧ (∀ x ∈ s.1, x ∈ line) ∧ (∀ x ∈ s.2, x ∈ line) ∧ RV1 (.bl (bearsO line s)) H Q
abbrev nmDec : List Str := ["self", "row", "reason"]
theorem scDec : FnScope nmDec ["self", "row"] (C8.fnScope (sOrder 4)) := C8.fnScope_by (by decide +kernel)
theorem scBears : FnScope nmDec ["self", "row"] (C8.fnScope (sOrder 5)) := C8.fnScope_by (by decide +kernel)
theorem find_take {line : List Str} {p : Str → Bool} {i : Nat} (hi : i < line.length) (hn : ∀ x ∈ line.take i, p x = false) (hp : p line[i] = true) : line.find? p = some line[i] := by
  rw [List.find?_eq_some_iff_append]
  refine ⟨hp, line.take i, line.drop (i + 1), ?_, fun x hx => by rw [hn x hx]; rfl⟩
  rw [← List.drop_eq_getElem_cons hi, List.take_append_drop]
section
variable {P : Program} {w : World} {K : PySem.W.Frag} {mg : Str → Option Value} {base : Heap}
theorem ok_decides {O C f : Addr} {fd : FuncData} (T : TxtOrd K mg O) (TR : TxtRow K mg C) (me : Meth K O "decides" f) (F : C8.Fun K "decides" "Order.decides" (sOrder 4) f fd) (b : Binds K fd ["self", "row"] []) : C8.Met P w K mg base 1 O "decides" (spDecides O C) [] := by
  refine C8.met0 T.cl me F b scDec (fun vs H Q E h => ?_) (fun cdv A outer s H vs Q E hr h => ?_)
  · obtain ⟨o, r, line, s, rfl, _⟩ := h
    rfl
  obtain ⟨o, r, line, s, rfl, OR, R, i1, i2, k⟩ := h
  have hu := hu_of hr
  refine ⟨_, pss_cons (ps_for PassesOwn.never rfl (pi_tup (pe_fld (pv 1) rfl)) (pg_name (i := 2) scDec.nd rfl (Or.inl rfl)) (pss_one (ps_if (pt_cmp (pc_dnotin hu (pv 2) (pe_fld (pv 0) rfl))) pss_never pss_nil)))
    (pss_cons (ps_for PassesOwn.never rfl (pi_list (pe_fld (pv 0) rfl)) (pg_name (i := 2) scDec.nd rfl (Or.inl rfl)) (pss_one (ps_if (pt_cmpR op_in_seq (pv 2) (pe_fld (pv 1) rfl) (by rfl)) (pss_one (ps_ret (pv 2))) pss_nil)))
    (pss_one (ps_ret pe_non))), ?_⟩
  obtain ⟨dx, tp, tc, tn, h1, h2, h3, h4⟩ := id R
  obtain ⟨dox, lr, ls, lt, kvs, g1, g2, g3, g4⟩ := id OR
  refine q_forT (ev_fld (ev_var rfl) h1 TR.cl TR.nN (rowF_named _ _ _)) (st_of h4) (fun i σ H' => Ex H H' ∧ ∃ v, σ = [some (.ref o), some (.ref r), v]) (fun H1 e1 => ⟨e1, none, rfl⟩) (fun i σ H' _ h => st_of (h.1 _ _ h4)) ?_ ?_
  · rintro i y σ H' hy ⟨e, v, rfl⟩
    rw [List.getElem?_map] at hy
    obtain ⟨z, hz, rfl⟩ := Option.map_eq_some_iff.mp hy
    have hz' : z ∈ line := (List.mem_append.mp (mem_srt.mp (List.mem_of_getElem? hz))).elim (i1 z) (i2 z)
    exact s_when (et_is (et_test (ev_dnotin (ev_var rfl) (ev_fld (ev_var rfl) (e _ _ g1) T.cl T.nS (ordF_spots _ _ _)) (e _ _ g3))) (by rw [g4.1, decide_eq_true hz'] <;> rfl)) (fun h => by cases h) fun _ H1 e1 => ⟨e.trans e1, _, rfl⟩
  rintro σ H1 ⟨e1, v, rfl⟩
  refine q_forL (ev_fld (ev_var rfl) (e1 _ _ g1) T.cl T.nR (ordF_ranked _ _ _)) (sq_of (e1 _ _ g2)) (fun i σ H' => Ex H H' ∧ (∀ x ∈ line.take i, decide (x ∈ s.1 ++ s.2) = false) ∧ ∃ v, σ = [some (.ref o), some (.ref r), v])
    (fun H2 e2 => ⟨e1.trans e2, (by intro x hx; rw [List.take_zero] at hx; cases hx), v, rfl⟩) (fun i σ H' _ h => sq_of (h.1 _ _ g2)) ?_ ?_
  · rintro i y σ H' hy ⟨e, hn, v, rfl⟩
    rw [List.getElem?_map] at hy
    obtain ⟨z, hz, rfl⟩ := Option.map_eq_some_iff.mp hy
    obtain ⟨hi, ez⟩ := List.getElem?_eq_some_iff.mp hz
    refine s_when (et_is (et_test (ev_in (ev_var rfl) (ev_fld (ev_var rfl) (e _ _ h1) TR.cl TR.nN (rowF_named _ _ _)) (.inr (st_of (e _ _ h4))))) (b := decide (z ∈ s.1 ++ s.2)) (decide_eq_decide.mpr mem_srt)) (fun h H2 e2 => s_ret (ev_var rfl) fun H3 e3 => ?_) fun h H2 e2 => ⟨e.trans e2, fun x hx => ?_, _, rfl⟩
    · have q := k H3 ((e.trans e2).trans e3)
      unfold deciding at q
      rw [find_take hi hn (by rw [ez]; exact h), ez] at q
      exact q
    · rw [List.take_succ_eq_append_getElem hi, List.mem_append, List.mem_singleton] at hx
      rcases hx with hx | hx
      · exact hn x hx
      · rw [hx, ez]; exact h
  · rintro σ H' ⟨e, hn, v, rfl⟩
    rw [List.length_map, List.take_length] at hn
    refine s_ret ev_c fun H2 e2 => ?_
    have q := k H2 (e.trans e2)
    have e0 : deciding line s = none := List.find?_eq_none.mpr fun x hx => by rw [hn x hx]; decide
    rw [e0] at q
    exact q
theorem ok_bears {O C f : Addr} {fd : FuncData} (T : TxtOrd K mg O) (TR : TxtRow K mg C) (G : C8.Met P w K mg base 1 O "decides" (spDecides O C) []) (me : Meth K O "bears" f) (F : C8.Fun K "bears" "Order.bears" (sOrder 5) f fd) (b : Binds K fd ["self", "row"] []) : C8.Met P w K mg base 2 O "bears" (spBears O C) [] := by
  refine C8.met0 T.cl me F b scBears (fun vs H Q E h => ?_) (fun cdv A outer s H vs Q E hr h => ?_)
  · obtain ⟨o, r, line, s, rfl, _⟩ := h
    rfl
  obtain ⟨o, r, line, s, rfl, OR, R, i1, i2, k⟩ := h
  refine ⟨_, pss_cons (ps_set (i := 2) scBears.nd rfl (Or.inl rfl) (C8.pe_mt (pl := _) G hr (by decide) (pv 0) (pa_cons (pv 1) pa_nil)))
    (pss_one (ps_ret (pe_or (pe_cmpR op_isN (pv 2) pe_non (nomark _)) (pe_one (pe_cmpR op_in_seq (pv 2) (pe_fld (pv 1) rfl) (by rfl)))))), ?_⟩
  obtain ⟨dx, tp, tc, tn, h1, h2, h3, h4⟩ := id R
  obtain ⟨dox, lr, ls, lt, kvs, g1, g2, g3, g4⟩ := id OR
  refine q_asg (ev_methV (ev_var rfl) g1 (ordF_no _ _ _ (by decide +kernel) (by decide +kernel) (by decide +kernel)) (ea_cons (ev_var rfl) ea_nil) fun H1 e1 Q' q => ⟨o, r, line, s, rfl, OR.ex e1, R.ex e1, i1, i2, q⟩) fun H1 e1 => ?_
  have same : bearsO line s = (decide (decV (deciding line s) = .non) || (match deciding line s with | none => false | some z => decide (z ∈ s.1))) := by
    unfold bearsO deciding
    cases line.find? fun x => decide (x ∈ s.1 ++ s.2) with
    | none => rfl
    | some z =>
      show decide (z ∈ s.1) = (decide (V.str z = V.non) || decide (z ∈ s.1))
      have e : decide (V.str z = V.non) = false := decide_eq_false (by intro q; cases q)
      rw [e]
      rfl
  rw [same] at k
  refine s_ret (ev_orV (ev_op (ev_var rfl) ev_c (rv_val fun H2 e2 Q' q => ⟨rfl, q⟩)) fun hb => ?_) fun H2 e2 => k H2 (e1.trans e2)
  cases e : deciding line s with
  | none =>
    rw [e] at hb
    exact absurd hb (by decide)
  | some z => exact ev_in (ev_is (ev_var rfl) rfl) (ev_fld (ev_var rfl) (e1 _ _ h1) TR.cl TR.nP (rowF_pro _ _ _)) (.inr (st_of (e1 _ _ h2)))
end
end K12

/-! K12F: the law's small defs: the text of a row, joined sides, a line that bears, the row of sides. -/
namespace K12
open PySem PySem.Spec PyProof.Rows L2 Evl

/-! ### sides in the heap -/
def SideAt (H : Hp) (p : Addr) (s : Sides) : Prop := ∃ g b, H p = some (.tup [.ref g, .ref b]) ∧ H g = some (.lst (s.1.map V.str)) ∧ H b = some (.lst (s.2.map V.str))
theorem SideAt.ex {H H' : Hp} {p : Addr} {s : Sides} (h : SideAt H p s) (e : Ex H H') : SideAt H' p s := by
  obtain ⟨g, b, h1, h2, h3⟩ := h
  exact ⟨g, b, e _ _ h1, e _ _ h2, e _ _ h3⟩
section
variable {K : PySem.W.Frag} {σ : L2.St} {H : Hp} {ta tb te to t2 : TE} {p : Addr} {x y z : Str} {xs ys : List Str}
theorem ev_adds (ha : Ev ta σ H (.str x)) (hb : Ev tb σ H (.str y)) (few : x.length + y.length ≤ 1000) : Ev (tOp (fun x y H Q => ∃ i j, x = .str i ∧ y = .str j ∧ i.length + j.length ≤ sizeLine ∧ Q (.str (i ++ j)) H) ta tb) σ H (.str (x ++ y)) :=
  ev_op ha hb (rv_val fun H2 e2 Q q => ⟨x, y, rfl, rfl, sz_of (by omega), q⟩)
/-- xs.index(x), x in xs -/
theorem ev_idx (ho : Ev to σ H (.ref p)) (ha : Ev ta σ H (.str z)) (hs : SqL K H p (xs.map V.str)) (hz : z ∈ xs) : Ev (tBM K "list" (rIndex K) to (tCons ta tNil)) σ H (.int (xs.idxOf z : Nat)) := fun H1 e Q q =>
  ho H1 e _ fun H2 e2 => ⟨.inl ⟨rfl, _, ex_l (e.trans e2) hs⟩, ha H2 (e.trans e2) _ fun H3 e3 => by
    have hl := List.idxOf_lt_length_of_mem hz
    refine ⟨p, xs.map V.str, .str z, xs.idxOf z, .str z, rfl, rfl, ex_l ((e.trans e2).trans e3) hs, rfl, flat_strs xs, ?_, ?_, fun m z' hm hz' => ?_, q H3 (e2.trans e3)⟩
    · rw [List.getElem?_map, List.getElem?_eq_getElem hl, List.getElem_idxOf hl]
      rfl
    · show (z == z) = true
      exact beq_self_eq_true z
    · rw [List.getElem?_map] at hz'
      obtain ⟨y, hy, rfl⟩ := Option.map_eq_some_iff.mp hz'
      show (y == z) = false
      obtain ⟨hm', ey⟩ := List.getElem?_eq_some_iff.mp hy
      have q := List.not_of_lt_findIdx (p := fun x => x == z) (xs := xs) (i := m) hm
      rw [ey] at q
      exact q⟩
/-- (a new list, a thing) -/
theorem et_pair {zs : List V} {v : V} {Q : VK} (h1 : EvL te σ H zs) (h2 : Ev t2 σ H v) (k : ∀ r l H', Ex H H' → H' r = some (.tup [.ref l, v]) → H' l = some (.lst zs) → Q (.ref r) H') : tTup (tCons te (tCons t2 tNil)) σ H Q :=
  h1 H (Ex.refl _) _ fun l H1 _ e1 g1 => h2 H1 e1 _ fun H2 e2 => ⟨by show 2 ≤ sizeLine; decide, fun r hr => k r l _ ((e1.trans e2).trans (Ex.new hr)) upd_same ((Ex.new hr) _ _ (e2 _ _ g1))⟩
end
theorem tup2 {g b : V} : ([g, b] : List V)[0]? = some g ∧ ([g, b] : List V)[1]? = some b := ⟨rfl, rfl⟩
theorem min_top {line g : List Str} {m : Int} (hm : m ∈ (g.map fun x => ((line.idxOf x : Nat) : Int)) ++ [(line.length : Int)]) (hle : ∀ y ∈ (g.map fun x => ((line.idxOf x : Nat) : Int)) ++ [(line.length : Int)], m ≤ y) : m = (topOf line g : Nat) := by
  have up : (topOf line g : Int) ≤ m := by
    rcases List.mem_append.mp hm with h | h
    · obtain ⟨x, hx, rfl⟩ := List.mem_map.mp h
      have := top_le (line := line) hx
      omega
    · rw [List.mem_singleton.mp h]
      rcases top_is (line := line) g with q | ⟨x, hx, q⟩
      · omega
      · rw [q]
        have := List.idxOf_le_length (a := x) (l := line)
        omega
  have dn : m ≤ (topOf line g : Nat) := by
    rcases top_is (line := line) g with q | ⟨x, hx, q⟩
    · rw [q]
      exact hle _ (List.mem_append_right _ (List.mem_singleton.mpr rfl))
    · rw [q]
      exact hle _ (List.mem_append_left _ (List.mem_map.mpr ⟨x, hx, rfl⟩))
  omega

/-- a row is made of two new lists -/
theorem ev_rowL {C : Addr} {σ : L2.St} {H : Hp} {E : XK} {t1 t2 : TE} {s : Sides} {Q : VK} (h1 : EvL t1 σ H (s.1.map V.str)) (h2 : EvL t2 σ H (s.2.map V.str)) (gd : Good s) (k : ∀ x H', Ex H H' → RowR C H' x (rowOf s) → Q (.ref x) H') : tMake C (spRowInit C) [] E (tCons t1 (tCons t2 tNil)) σ H Q :=
  h1 H (Ex.refl _) _ fun g H1 n1 e1 g1 => h2 H1 e1 _ fun b H2 n2 e2 g2 x dx nx nd ne => by
    have e := e1.trans e2
    have up : ∀ {p o}, H2 p = some o → upd (upd H2 dx (.own x)) x (.ins C dx []) p = some o := fun {p o} hp => by
      rw [upd_ne (ne_of_none hp nx), upd_ne (ne_of_none hp nd)]
      exact hp
    have a1 := gd.f1
    have a2 := gd.f2
    exact ⟨x, dx, g, b, s, rfl, upd_same, up (e2 _ _ g1), up g2, gd.wf.g, gd.wf.b, gd.wf.d, gd.n1, gd.n2, by omega, by omega, fun H' keep R => ⟨rfl, k x H' (fun p o hp => keep p o (ne_of_none (e _ _ hp) nx) (up (e _ _ hp))) R⟩⟩

/-! ### the promises -/
def spRowText : Sp := fun vs H Q _ => ∃ (g b : Addr) (s : Sides), vs = [.ref g, .ref b] ∧ H g = some (.lst (s.1.map V.str)) ∧ H b = some (.lst (s.2.map V.str)) ∧ GoodS s ∧ s.1.length ≤ 8 ∧ s.2.length ≤ 8 ∧ RV1 (.str (textOf s)) H Q
def spJoin : Sp := fun vs H Q _ => ∃ (p q : Addr) (a b : Sides), vs = [.ref p, .ref q] ∧ SideAt H p a ∧ SideAt H q b ∧ a.1.length ≤ 8 ∧ a.2.length ≤ 8 ∧ b.1.length ≤ 8 ∧ b.2.length ≤ 8 ∧ ∀ r H', Ex H H' → SideAt H' r (joinS a b) → Q (.ref r) H'
def spLBears : Sp := fun vs H Q _ => ∃ (l p : Addr) (line : List Str) (s : Sides), vs = [.ref l, .ref p] ∧ H l = some (.lst (line.map V.str)) ∧ SideAt H p s ∧ GoodS s ∧ (∀ x ∈ s.1, x ∈ line) ∧ (∀ x ∈ s.2, x ∈ line) ∧ s.1.length ≤ 8 ∧ s.2.length ≤ 8 ∧ RV1 (.bl (bearsL line s)) H Q
def spRowOf (C : Addr) : Sp := fun vs H Q _ => ∃ (p : Addr) (s : Sides), vs = [.ref p] ∧ SideAt H p s ∧ Good s ∧ ∀ x H', Ex H H' → RowR C H' x (rowOf s) → Q (.ref x) H'
abbrev nmRT : List Str := ["_law_good", "_law_bad", "_law_words", "_law_own"]
theorem scRT : FnScope nmRT ["_law_good", "_law_bad"] (C8.fnScope sRowText) := C8.fnScope_by (by decide +kernel)
abbrev nmJ : List Str := ["_law_one", "_law_two", "_law_bad", "_law_good", "_law_own"]
theorem scJ : FnScope nmJ ["_law_one", "_law_two"] (C8.fnScope sJoin) := C8.fnScope_by (by decide +kernel)
abbrev nmB : List Str := ["_law_line", "_law_sides_here", "_law_top", "_law_own"]
theorem scB : FnScope nmB ["_law_line", "_law_sides_here"] (C8.fnScope sBears) := C8.fnScope_by (by decide +kernel)
theorem scRO : FnScope ["_law_sides_here"] ["_law_sides_here"] (C8.fnScope sRowOf) := C8.fnScope_by (by decide +kernel)
section
variable {P : Program} {w : World} {K : PySem.W.Frag} {mg : Str → Option Value} {base : Heap}
theorem ok_rowText {f : Addr} {fd : FuncData} (B : Bi mg) (D : C8.Def K mg "_law_row_text" sRowText f fd) (b : Binds K fd ["_law_good", "_law_bad"] []) : C8.Cal P w K mg base 1 "_law_row_text" spRowText [] := by
  refine C8.cal0 D b .nil scRT (fun vs H Q E h => ?_) (fun cdv A outer s H vs Q E hr h => ?_)
  · obtain ⟨g, b, s, rfl, _⟩ := h
    rfl
  obtain ⟨g, b, s, rfl, h1, h2, gs, f1, f2, k⟩ := h
  refine ⟨_, pss_cons (ps_setLc (i := 2) (own := [("_law_own", 3)]) (g := gName 3) (tt := tYes) (te := tIf (tTest (tOp (rIn K false) (tVar 3) (tVar 0))) (tOp (fun x y H Q => ∃ i j, x = .str i ∧ y = .str j ∧ i.length + j.length ≤ sizeLine ∧ Q (.str (i ++ j)) H) (tVar 3) (tC (.str "+"))) (tOp (fun x y H Q => ∃ i j, x = .str i ∧ y = .str j ∧ i.length + j.length ≤ sizeLine ∧ Q (.str (i ++ j)) H) (tVar 3) (tC (.str "-")))) rfl scRT.nd rfl rfl (sw_true rfl rfl rfl (by decide +kernel))
        (pi_list (pe_callB cr_sortedS (by rfl) B.sorted (by decide +kernel) (pa_cons (pe_op op_cat (pe_callTy call_list_of (by rfl) B.list (by decide +kernel) (pa_cons (pv 0) pa_nil)) (pe_callTy call_list_of (by rfl) B.list (by decide +kernel) (pa_cons (pv 1) pa_nil))) pa_nil)))
        (blkOk_by (N := nmRT) (sc := C8.fnScope sRowText) (by decide +kernel)) (fun _ _ _ _ _ => pg_name (i := 3) scRT.nd rfl (Or.inl rfl)) (fun _ _ _ _ _ => pts_nil)
        (fun _ _ _ _ _ => pe_ifExp (pt_cmpR op_in_seq (pv 3) (pv 0) (by rfl)) (pe_op op_add_str (pv 3) pe_str) (pe_op op_add_str (pv 3) pe_str)))
    (pss_one (ps_ret (pe_ifExp (pt_cmpR (op_neD hr.units) (pv 2) (pe_lst pa_nil) (nomark _)) (pe_join pe_str (pv 2)) pe_str))), ?_⟩
  have few := srt_length (s.1 ++ s.2)
  rw [List.length_append] at few
  have gw : ∀ z ∈ srt (s.1 ++ s.2), GoodName z := gs.srt
  refine q_asgL (xs := ((srt (s.1 ++ s.2)).map (wordOf s)).map V.str) (filt_map (K := K) (xs := srt (s.1 ++ s.2)) (g := fun z => V.str (wordOf s z)) (by rw [List.map_map]; rfl)
    (el_compN (emb := V.str) Str.empty (fun _ => true) (fun z => V.str (wordOf s z)) (el_sorted (xs := s.1 ++ s.2) (by
        rw [List.map_append]
        exact el_cat (el_listV (ev_var rfl) (.inl (sq_of h1))) (el_listV (ev_var rfl) (.inl (sq_of h2))) (by rw [List.length_map, List.length_map]; omega)) (by rw [List.length_append]; omega)) (by omega) (fun _ => rfl)
      (fun z H' hz e => ⟨et_yes, fun _ => ?_⟩))) fun l H1 nl e1 hl => ?_
  · have few1 := (gw z hz).hi
    refine ev_if (et_test (ev_in (ev_var rfl) (ev_var rfl) (.inl (sq_of (e _ _ h1))))) (fun h => ev_is (ev_adds (x := z) (y := "+") (ev_var rfl) ev_c ?_) ?_) (fun h => ev_is (ev_adds (x := z) (y := "-") (ev_var rfl) ev_c ?_) ?_)
    · have : (Str.length "+") = 1 := by decide +kernel
      omega
    · unfold wordOf signOf
      rw [if_pos (of_decide_eq_true h)]
    · have : (Str.length "-") = 1 := by decide +kernel
      omega
    · unfold wordOf signOf
      rw [if_neg (of_decide_eq_false h)]
  · have okw : ∀ x ∈ (srt (s.1 ++ s.2)).map (wordOf s), PyData.strOk x = true := fun x hx => by
      obtain ⟨z, hz, rfl⟩ := List.mem_map.mp hx
      have q := strOk_name (gw z hz)
      unfold PyData.strOk at q ⊢
      unfold wordOf signOf
      have ea : ∀ (a b : Str), (a ++ b).cps = a.cps ++ b.cps := fun a b => rfl
      rw [ea, Array.all_append, q]
      by_cases c : z ∈ s.1
      · rw [if_pos c]; decide +kernel
      · rw [if_neg c]; decide +kernel
    refine s_ret (ev_is (v := V.str (if decide ((srt (s.1 ++ s.2)).map (wordOf s) = []) then "even" else Txt.join " " ((srt (s.1 ++ s.2)).map (wordOf s)))) (ev_if (et_test (ev_neL0 (ev_var rfl) (sq_of hl) okw)) (fun h => ev_is (ev_joinV (K := K) (ys := (srt (s.1 ++ s.2)).map (wordOf s)) ev_c (ev_var rfl) (sq_of hl) ?_) ?_) fun h => ev_is ev_c ?_) ?_) fun H2 e2 => k H2 (e1.trans e2)
    · rw [List.map_map, List.length_map]
      have q := sum_le (l := srt (s.1 ++ s.2)) (f := fun z => (wordOf s z).length) (k := 7) fun z hz => word_len (gw z hz)
      show (List.map (fun z => (wordOf s z).length) (srt (s.1 ++ s.2))).sum + _ ≤ _
      have l1 : (Str.ofString " ").length = 1 := by decide +kernel
      rw [l1]
      omega
    · rw [Bool.not_eq_true'] at h
      rw [h]
      rfl
    · rw [Bool.not_eq_false'] at h
      rw [h]
      rfl
    · unfold textOf
      by_cases c : srt (s.1 ++ s.2) = []
      · rw [c]
        rfl
      · have c2 : ¬ (srt (s.1 ++ s.2)).map (wordOf s) = [] := fun q => c (List.map_eq_nil_iff.mp q)
        rw [if_neg c, decide_eq_false c2]
        rfl
theorem ok_join {f : Addr} {fd : FuncData} (B : Bi mg) (D : C8.Def K mg "_law_join" sJoin f fd) (b : Binds K fd ["_law_one", "_law_two"] []) : C8.Cal P w K mg base 1 "_law_join" spJoin [] := by
  refine C8.cal0 D b .nil scJ (fun vs H Q E h => ?_) (fun cdv A outer s0 H vs Q E hr h => ?_)
  · obtain ⟨p, q, s, t, rfl, _⟩ := h
    rfl
  obtain ⟨p, q, s, t, rfl, ⟨g, b, h0, h1, h2⟩, ⟨g', b', h0', h1', h2'⟩, f1, f2, f3, f4, k⟩ := h
  refine ⟨_, pss_cons (ps_set (i := 2) scJ.nd rfl (Or.inr rfl) (pe_callB cr_sortedS (by rfl) B.sorted (by decide +kernel) (pa_cons (pe_op op_cat
        (pe_callTy call_list_of (by rfl) B.list (by decide +kernel) (pa_cons (pe_ix ix_tup (pv 0) pe_int (fun _ _ => rfl)) pa_nil))
        (pe_lc (own := [("_law_own", 4)]) (g := gName 4) (tt := tTest (tOp (rIn K true) (tVar 4) (tOp (rIxT K) (tVar 0) (tC (.int 1))))) (te := tVar 4) rfl scJ.nd (pi_list (pe_ix ix_tup (pv 1) pe_int (fun _ _ => rfl))) (blkOk_by (N := nmJ) (sc := C8.fnScope sJoin) (by decide +kernel))
          (fun _ _ _ _ _ => pg_name (i := 4) scJ.nd rfl (Or.inl rfl)) (fun _ _ _ _ _ => pts_one (pt_cmpR op_notIn_seq (pv 4) (pe_ix ix_tup (pv 0) pe_int (fun _ _ => rfl)) (by rfl))) (fun _ _ _ _ _ => pv 4))) pa_nil)))
    (pss_cons (ps_set (i := 3) scJ.nd rfl (Or.inl rfl) (pe_op op_cat
        (pe_callTy call_list_of (by rfl) B.list (by decide +kernel) (pa_cons (pe_ix ix_tup (pv 0) pe_int (fun _ _ => rfl)) pa_nil))
        (pe_lc (own := [("_law_own", 4)]) (g := gName 4) (tt := tTest (tOp (rIn K true) (tVar 4) (tOp (rIxT K) (tVar 0) (tC (.int 0))))) (te := tVar 4) rfl scJ.nd (pi_list (pe_ix ix_tup (pv 1) pe_int (fun _ _ => rfl))) (blkOk_by (N := nmJ) (sc := C8.fnScope sJoin) (by decide +kernel))
          (fun _ _ _ _ _ => pg_name (i := 4) scJ.nd rfl (Or.inl rfl)) (fun _ _ _ _ _ => pts_one (pt_cmpR op_notIn_seq (pv 4) (pe_ix ix_tup (pv 0) pe_int (fun _ _ => rfl)) (by rfl))) (fun _ _ _ _ _ => pv 4))))
    (pss_one (ps_ret (pe_tup (pa_cons (pe_callB cr_sortedS (by rfl) B.sorted (by decide +kernel) (pa_cons
        (pe_lc (own := [("_law_own", 4)]) (g := gName 4) (tt := tTest (tOp (rIn K true) (tVar 4) (tVar 2))) (te := tVar 4) rfl scJ.nd (pi_list (pv 3)) (blkOk_by (N := nmJ) (sc := C8.fnScope sJoin) (by decide +kernel))
          (fun _ _ _ _ _ => pg_name (i := 4) scJ.nd rfl (Or.inl rfl)) (fun _ _ _ _ _ => pts_one (pt_cmpR op_notIn_seq (pv 4) (pv 2) (by rfl))) (fun _ _ _ _ _ => pv 4)) pa_nil)) (pa_cons (pv 2) pa_nil)))))), ?_⟩
  have lb := both_len s.2 t.2
  have lg := both_len s.1 t.1
  -- bad
  refine q_asgL (el_sorted (xs := both s.2 t.2) (by
    unfold both
    rw [List.map_append]
    exact el_cat (el_listV (ev_ixT (i := 1) (ev_var rfl) ev_c (st_of h0) rfl) (.inl (sq_of h2)))
      (el_compL (a := b') (emb := V.str) Str.empty (fun x => decide (x ∉ s.2)) V.str (ev_ixT (i := 1) (ev_var rfl) ev_c (st_of h0') rfl) (sq_of h2') (by omega) (fun _ => rfl)
        (fun z H' hz e => ⟨et_test (ev_nin (ev_var rfl) (ev_ixT (i := 1) (ev_var rfl) ev_c (st_of (e _ _ h0)) rfl) (.inl (sq_of (e _ _ h2)))), fun _ => ev_var rfl⟩)) (by
      have := List.length_filter_le (fun x => decide (x ∉ s.2)) t.2
      rw [List.length_map, List.length_map]; omega)) (by omega)) fun lbad H1 n1 e1 g1 => ?_
  -- good
  refine q_asgL (xs := (both s.1 t.1).map V.str) (by
    unfold both
    rw [List.map_append]
    exact el_cat (el_listV (ev_ixT (i := 0) (ev_var rfl) ev_c (st_of (e1 _ _ h0)) rfl) (.inl (sq_of (e1 _ _ h1))))
      (el_compL (a := g') (emb := V.str) Str.empty (fun x => decide (x ∉ s.1)) V.str (ev_ixT (i := 0) (ev_var rfl) ev_c (st_of (e1 _ _ h0')) rfl) (sq_of (e1 _ _ h1')) (by omega) (fun _ => rfl)
        (fun z H' hz e => ⟨et_test (ev_nin (ev_var rfl) (ev_ixT (i := 0) (ev_var rfl) ev_c (st_of (e _ _ (e1 _ _ h0))) rfl) (.inl (sq_of (e _ _ (e1 _ _ h1))))), fun _ => ev_var rfl⟩)) (by
      have := List.length_filter_le (fun x => decide (x ∉ s.1)) t.1
      rw [List.length_map, List.length_map]; omega)) fun lgood H2 n2 e2 g2 => ?_
  refine et_pair (el_sorted (xs := (both s.1 t.1).filter fun x => decide (x ∉ srt (both s.2 t.2))) (el_compL (a := lgood) (emb := V.str) Str.empty (fun x => decide (x ∉ srt (both s.2 t.2))) V.str (ev_var rfl) (sq_of g2) (by omega) (fun _ => rfl)
      (fun z H' hz e => ⟨et_test (ev_nin (ev_var rfl) (ev_var rfl) (.inl (sq_of (e _ _ (e2 _ _ g1))))), fun _ => ev_var rfl⟩)) (by
        have := List.length_filter_le (fun x => decide (x ∉ srt (both s.2 t.2))) (both s.1 t.1)
        omega)) (ev_var rfl) fun r l H3 e3 hr hl => k r H3 ((e1.trans e2).trans e3) ⟨l, lbad, hr, hl, e3 _ _ (e2 _ _ g1)⟩
theorem ok_lbears {f : Addr} {fd : FuncData} (B : Bi mg) (D : C8.Def K mg "_law_bears" sBears f fd) (b : Binds K fd ["_law_line", "_law_sides_here"] []) : C8.Cal P w K mg base 1 "_law_bears" spLBears [] := by
  refine C8.cal0 D b .nil scB (fun vs H Q E h => ?_) (fun cdv A outer s0 H vs Q E hr h => ?_)
  · obtain ⟨l, p, line, s, rfl, _⟩ := h
    rfl
  obtain ⟨l, p, line, s, rfl, hl, ⟨g, b, h0, h1, h2⟩, gs, i1, i2, f1, f2, k⟩ := h
  refine ⟨_, pss_cons (ps_set (i := 2) scB.nd rfl (Or.inr rfl) (pe_callB (cr_min rfl) (by rfl) B.min (by decide +kernel) (pa_cons (pe_op op_cat
        (pe_lc (own := [("_law_own", 3)]) (g := gName 3) (tt := tYes) (te := tBM K "list" (rIndex K) (tVar 0) (tCons (tVar 3) tNil)) rfl scB.nd (pi_list (pe_ix ix_tup (pv 1) pe_int (fun _ _ => rfl))) (blkOk_by (N := nmB) (sc := C8.fnScope sBears) (by decide +kernel))
          (fun _ _ _ _ _ => pg_name (i := 3) scB.nd rfl (Or.inl rfl)) (fun _ _ _ _ _ => pts_nil) (fun _ _ _ _ _ => pe_bm PySem.F.plainAttrs_list PySem.F.slot_list_index PySem.F.type_list_index mt_index (pv 0) (pa_cons (pv 3) pa_nil)))
        (pe_lst (pa_cons (pe_callB call_len_seq (by rfl) B.len PySem.boot_len (pa_cons (pv 0) pa_nil)) pa_nil))) pa_nil)))
    (pss_one (ps_ret (pe_cmpR (op_eqD hr.units)
        (pe_lc (own := [("_law_own", 3)]) (g := gName 3) (tt := tTest (tOp (rI0 fun i j => .bl (decide (i < j))) (tBM K "list" (rIndex K) (tVar 0) (tCons (tVar 3) tNil)) (tVar 2))) (te := tVar 3) rfl scB.nd (pi_list (pe_ix ix_tup (pv 1) pe_int (fun _ _ => rfl))) (blkOk_by (N := nmB) (sc := C8.fnScope sBears) (by decide +kernel))
          (fun _ _ _ _ _ => pg_name (i := 3) scB.nd rfl (Or.inl rfl)) (fun _ _ _ _ _ => pts_one (pt_cmpR op_lt (pe_bm PySem.F.plainAttrs_list PySem.F.slot_list_index PySem.F.type_list_index mt_index (pv 0) (pa_cons (pv 3) pa_nil)) (pv 2) (nomark _))) (fun _ _ _ _ _ => pv 3))
        (pe_lst pa_nil) (nomark _)))), ?_⟩
  refine q_asg (v := .int (topOf line s.1 : Nat)) (fun H1 e Q q => ?_) fun H1 e1 => ?_
  · refine (el_cat (zs := (s.1.map fun x => ((line.idxOf x : Nat) : Int)).map V.int) (ws := [(line.length : Int)].map V.int)
      (filt_map (K := K) (xs := s.1) (g := fun x => V.int (line.idxOf x : Nat)) (by rw [List.map_map]; rfl)
        (el_compL (a := g) (emb := V.str) Str.empty (fun _ => true) (fun x => V.int (line.idxOf x : Nat)) (ev_ixT (i := 0) (ev_var rfl) ev_c (st_of (e _ _ h0)) rfl) (sq_of (e _ _ h1)) (by omega) (fun _ => rfl)
          (fun z H' hz e2 => ⟨et_yes, fun _ => ev_idx (ev_var rfl) (ev_var rfl) (sq_of (e2 _ _ (e _ _ hl))) (i1 z hz)⟩)))
      (el_lst (ea_cons (ev_is (ev_lenV (ev_var rfl) (.inl (sq_of (e _ _ hl)))) (by rw [List.length_map])) ea_nil) (by show 1 ≤ 100000; decide)) (by
        rw [List.length_map, List.length_map]
        show s.1.length + 1 ≤ 100000
        omega)) H1 (Ex.refl _) _ fun r H2 nr e2 hr => ?_
    refine ⟨r, (s.1.map fun x => ((line.idxOf x : Nat) : Int)) ++ [(line.length : Int)], rfl, sq_of (by rw [List.map_append]; exact hr), by rw [List.length_append]; exact Nat.succ_pos _, fun m hm hle => ?_⟩
    rw [min_top hm hle]
    exact q H2 e2
  refine s_ret (ev_is (ev_eqN0 (xs := s.2.filter fun x => decide (line.idxOf x < topOf line s.1)) (el_compL (a := b) (emb := V.str) Str.empty (fun x => decide (line.idxOf x < topOf line s.1)) V.str (ev_ixT (i := 1) (ev_var rfl) ev_c (st_of (e1 _ _ h0)) rfl) (sq_of (e1 _ _ h2)) (by omega) (fun _ => rfl)
      (fun z H' hz e => ⟨et_is (et_test (ev_op (ev_idx (ev_var rfl) (ev_var rfl) (sq_of (e _ _ (e1 _ _ hl))) (i2 z hz)) (ev_var rfl) rv_I0)) (decide_eq_decide.mpr (by omega)), fun _ => ev_var rfl⟩)) (fun x hx => strOk_name (gs.2 x (List.mem_filter.mp hx).1))) ?_) fun H2 e2 => k H2 (e1.trans e2)
  unfold bearsL
  exact congrArg V.bl (by rw [Bool.eq_iff_iff, decide_eq_true_eq, beq_iff_eq])
theorem ok_rowOf {C f : Addr} {fd : FuncData} (B : Bi mg) (G : C8.Mak P w K mg base 4 "Row" C (spRowInit C) []) (D : C8.Def K mg "_law_row_of" sRowOf f fd) (b : Binds K fd ["_law_sides_here"] []) : C8.Cal P w K mg base 6 "_law_row_of" (spRowOf C) [] := by
  refine C8.cal0 D b .nil scRO (fun vs H Q E h => ?_) (fun cdv A outer s0 H vs Q E hr h => ?_)
  · obtain ⟨p, s, rfl, _⟩ := h
    rfl
  obtain ⟨p, s, rfl, ⟨g, b, h0, h1, h2⟩, gd, k⟩ := h
  refine ⟨_, pss_one (ps_ret (C8.pe_mk G hr (by decide) (by rfl) (pa_cons (pe_callTy call_list_of (by rfl) B.list (by decide +kernel) (pa_cons (pe_ix ix_tup (pv 0) pe_int (fun _ _ => rfl)) pa_nil)) (pa_cons (pe_callTy call_list_of (by rfl) B.list (by decide +kernel) (pa_cons (pe_ix ix_tup (pv 0) pe_int (fun _ _ => rfl)) pa_nil)) pa_nil)))), ?_⟩
  exact ev_rowL (el_listV (ev_ixT (i := 0) (ev_var rfl) ev_c (st_of h0) rfl) (.inl (sq_of h1))) (el_listV (ev_ixT (i := 1) (ev_var rfl) ev_c (st_of h0) rfl) (.inl (sq_of h2))) gd k
end
end K12

/-! K12G: _law_same of twins: equal data of equal kinds. -/
namespace K12
open PySem PySem.Spec PyProof.Rows L2 Evl

/-- equal texts or truth values, lists or tuples of twins; below this depth -/
def Tw (H : Hp) : Nat → V → V → Prop
  | 0, _, _ => False
  | n + 1, x, y => (∃ z : Str, x = .str z ∧ y = .str z) ∨ (∃ b : Bool, x = .bl b ∧ y = .bl b) ∨
    ∃ p q xs ys, x = .ref p ∧ y = .ref q ∧ ((H p = some (.lst xs) ∧ H q = some (.lst ys)) ∨ (H p = some (.tup xs) ∧ H q = some (.tup ys))) ∧ xs.length = ys.length ∧ xs.length ≤ 1000 ∧ ∀ (i : Nat) (a b : V), xs[i]? = some a → ys[i]? = some b → Tw H n a b
theorem Tw.ex {H H' : Hp} (e : Ex H H') : ∀ {n : Nat} {x y : V}, Tw H n x y → Tw H' n x y
  | 0, _, _, h => h
  | n + 1, x, y, h => by
    rcases h with h | h | ⟨p, q, xs, ys, h1, h2, h3, h4, h5, h6⟩
    · exact .inl h
    · exact .inr (.inl h)
    · exact .inr (.inr ⟨p, q, xs, ys, h1, h2, h3.imp (fun z => ⟨e _ _ z.1, e _ _ z.2⟩) (fun z => ⟨e _ _ z.1, e _ _ z.2⟩), h4, h5, fun i a b ha hb => Tw.ex e (h6 i a b ha hb)⟩)
abbrev TyS (K : PySem.W.Frag) (H : Hp) (T : String) (x : V) : Prop := ∀ H', Ex H H' → TyX K H' x (.type T)
section
variable {K : PySem.W.Frag} {σ : L2.St} {H : Hp} {te : TE} {x : V} {T c : String} {b : Bool}
theorem ev_isi (h : Ev te σ H x) (ty : TyS K H T x) (e : kitB T c = some b) : Ev (tCB (rIsi K) (tCons te (tCons (tC (.ty c)) tNil))) σ H (.bl b) := fun H1 e1 Q q =>
  h H1 e1 _ fun H2 e2 => ⟨x, .ty c, _, _, b, rfl, .ty c, ty H2 (e1.trans e2), kit_ty e, q H2 e2⟩
theorem ev_isiT (h : Ev te σ H x) (ty : TyS K H T x) (e : PySem.W.kitAny K (.type T) [.type "list", .type "tuple"] = some b) : Ev (tCB (rIsiT K) (tCons te (tCons (tTup (tCons (tC (.ty "list")) (tCons (tC (.ty "tuple")) tNil))) tNil))) σ H (.bl b) := fun H1 e1 Q q =>
  h H1 e1 _ fun H2 e2 => ⟨by show 2 ≤ sizeLine; decide, fun A hA => ⟨x, A, _, _, _, b, rfl, upd_same, .cons (.ty "list") (.cons (.ty "tuple") .nil), ty _ ((e1.trans e2).trans (Ex.new hA)), e, q _ (e2.trans (Ex.new hA))⟩⟩
theorem et_isN (h : Ev te σ H x) (hn : x ≠ .non) : EvT (tTest (tOp (fun x y H Q => y = .non ∧ Q (.bl (decide (x = .non))) H) te (tC .non))) σ H false :=
  et_test (ev_is (ev_op h ev_c (rv_val fun H1 e Q q => ⟨rfl, q⟩)) (by rw [decide_eq_false hn]))
theorem ev_neB {ta tb : TE} {a : Bool} (h1 : Ev ta σ H (.bl a)) (h2 : Ev tb σ H (.bl a)) : Ev (tOp rNe ta tb) σ H (.bl false) := ev_is (ev_op h1 h2 (rv_ne (by cases a <;> rfl))) (by rw [decide_eq_true rfl]; rfl)
theorem kit_any {l t : Bool} (h1 : kitB T "list" = some l) (h2 : kitB T "tuple" = some t) : PySem.W.kitAny K (.type T) [.type "list", .type "tuple"] = some (l || t) :=
  kitAny_cons (kit_ty h1) (fun hl => by rw [hl]; exact kitAny_cons (kit_ty h2) (fun ht => by rw [ht]; exact kitAny_nil) fun ht => by rw [ht] <;> rfl) fun hl => by rw [hl] <;> rfl
theorem walk_zipT {a b : Addr} {xs ys : List V} {n : Nat} (hn : n = min xs.length ys.length) : Walk (RZ.ItzT K a b) n (fun H => SqT K H a xs ∧ SqT K H b ys) (YPair (fun i => xs[i]?) (fun i => ys[i]?)) := by
  subst hn
  refine ⟨fun i _ hi q => ?_, fun _ q => ⟨xs, ys, q.1, q.2, by omega⟩, fun i H v H' _ q y => ?_⟩
  · have h1 : i < xs.length := by omega
    have h2 : i < ys.length := by omega
    exact ⟨xs, ys, xs[i], ys[i], q.1, q.2, by simp [h1], by simp [h2]⟩
  · obtain ⟨T, x, z, h1, h2, h3, h4, h5⟩ := y
    exact ⟨T, x, z, h1, h2, h3, h4 xs q.1, h5 ys q.2⟩
/-- [e for x, y in pairs], each e true -/
theorem lcPair {J : It} {n m : Nat} {G : Hp → Prop} {xs ys : List V} {vs : List Nat} {j1 j2 : Nat} {H1 : Hp} {D : Addr} {Qd : Hp → Prop} (w : Walk J n G (YPair (fun i => xs[i]?) (fun i => ys[i]?))) (hm : 2 = m) (hn : n ≤ 40000) (hD : H1 D = none) (hG : ∀ H, Ex H1 H → G H)
    (hw : ∀ x y, wipe (((wipe σ vs).set j1 (some x)).set j2 (some y)) vs = wipe σ vs) (hs : ∀ (i : Nat) (x y : V) (H' : Hp), xs[i]? = some x → ys[i]? = some y → Ex H1 H' → Ev te (((wipe σ vs).set j1 (some x)).set j2 (some y)) H' (.bl true))
    (hd : ∀ H', Ex H1 H' → H' D = some (.lst ((List.replicate n true).map V.bl)) → Qd H') :
    ∃ W : Nat → Nat → Hp → Prop, (∃ m, W 0 m (upd H1 D (.lst []))) ∧ ∀ i k H, W i k H →
      (J.stop i H ∧ Qd H) ∨ (J.go i H ∧ ∃ Nx : Hp → Prop, (∀ H', Nx H' → ∃ m', m' < k ∧ W (i + 1) m' H') ∧ ∀ x H', J.yld i H x H' → gTup K m (gCons (gName j1) (gCons (gName j2) gNil)) x (wipe σ vs) H' fun σ2 H2 => wipe σ2 vs = wipe σ vs ∧ tYes σ2 H2 fun b H3 =>
        if b = true then te σ2 H3 fun y H4 => ∃ acc, H4 D = some (.lst acc) ∧ acc.length < sizeLine ∧ Nx (upd H4 D (.lst (acc ++ [y]))) else Nx H3) := by
  refine lc_it w (fun i H => i ≤ n ∧ Ex H1 H ∧ H D = some (.lst ((List.replicate i true).map V.bl))) ⟨Nat.zero_le _, Ex.new hD, upd_same⟩ (fun i H _ h => hG H h.2.1) ?_ fun H h => hd H h.2.1 h.2.2
  rintro i v H H' hi ⟨_, e, hL⟩ ⟨A, x, y, rfl, hA, rfl, hx, hy⟩
  have eA : Ex H (upd H A (.tup [x, y])) := Ex.new hA
  refine ⟨A, _, rfl, st_of upd_same, hm, x, _, rfl, y, _, rfl, rfl, hw x y, ?_⟩
  refine et_yes _ (Ex.refl _) _ fun H3 e3 => iteT ?_
  refine hs i x y _ hx hy (e.trans eA) H3 e3 _ fun H4 e4 => ?_
  have e4 := e3.trans e4
  refine ⟨_, e4 _ _ (eA _ _ hL), by rw [List.length_map, List.length_replicate]; exact sz_lt (by omega), hi, Ex.mut ((e.trans eA).trans e4) hD, ?_⟩
  rw [upd_same, List.replicate_succ', List.map_append]
  rfl
/-- all([e for x, y in zip(a, b)]), each e true -/
theorem ev_allZip {ta tb : TE} {vs : List Nat} {j1 j2 : Nat} {p q : Addr} {xs ys : List V} (h1 : Ev ta σ H (.ref p)) (h2 : Ev tb σ H (.ref q)) (hpq : (H p = some (.lst xs) ∧ H q = some (.lst ys)) ∨ (H p = some (.tup xs) ∧ H q = some (.tup ys))) (hl : xs.length = ys.length) (few : xs.length ≤ 1000)
    (hw : ∀ x y, wipe (((wipe σ vs).set j1 (some x)).set j2 (some y)) vs = wipe σ vs) (hs : ∀ (i : Nat) (x y : V) (H' : Hp), xs[i]? = some x → ys[i]? = some y → Ex H H' → Ev te (((wipe σ vs).set j1 (some x)).set j2 (some y)) H' (.bl true)) :
    Ev (tCB (rAll K) (tCons (tLc (RZ.iZipA K (tCons ta (tCons tb tNil))) (gTup K 2 (gCons (gName j1) (gCons (gName j2) gNil))) tYes te vs) tNil)) σ H (.bl true) := fun H1 e Q k =>
  h1 H1 e _ fun H2 e2 => h2 H2 (e.trans e2) _ fun H3 e3 => by
    have e03 := (e.trans e2).trans e3
    have last : ∀ D H', Ex H3 H' → H' D = some (.lst ((List.replicate xs.length true).map V.bl)) → ∃ (p : Addr) (bs : List Bool), [V.ref D] = [.ref p] ∧ SqL K H' p (bs.map V.bl) ∧ Q (.bl (bs.all id)) H' := fun D H' e4 hL => ⟨D, List.replicate xs.length true, rfl, sq_of hL, by
      have e5 : (List.replicate xs.length true).all id = true := by simp
      rw [e5]
      exact k H' ((e2.trans e3).trans e4)⟩
    refine ⟨p, q, xs, ys, rfl, ?_⟩
    rcases hpq with ⟨a1, a2⟩ | ⟨a1, a2⟩
    · exact .inl ⟨sq_of (e03 _ _ a1), sq_of (e03 _ _ a2), fun D hD => lcPair (walk_zip (by omega)) rfl (by omega) hD (fun H' e4 => ⟨sq_of (e4 _ _ (e03 _ _ a1)), sq_of (e4 _ _ (e03 _ _ a2))⟩) hw (fun i x y H' hx hy e4 => hs i x y H' hx hy (e03.trans e4)) (last D)⟩
    · exact .inr ⟨st_of (e03 _ _ a1), st_of (e03 _ _ a2), fun D hD => lcPair (walk_zipT (by omega)) rfl (by omega) hD (fun H' e4 => ⟨st_of (e4 _ _ (e03 _ _ a1)), st_of (e4 _ _ (e03 _ _ a2))⟩) hw (fun i x y H' hx hy e4 => hs i x y H' hx hy (e03.trans e4)) (last D)⟩
end
def spSame (n : Nat) : Sp := fun vs H Q _ => ∃ x y, vs = [x, y] ∧ Tw H n x y ∧ RV1 (.bl true) H Q
abbrev nmS : List Str := ["_law_found", "_law_due", "_law_x", "_law_y"]
theorem scS : FnScope nmS ["_law_found", "_law_due"] (C8.fnScope sSame) := C8.fnScope_by (by decide +kernel)
section
variable {P : Program} {w : World} {K : PySem.W.Frag} {mg : Str → Option Value} {base : Heap}
theorem ok_same {f : Addr} {fd : FuncData} (B : Bi mg) (D : C8.Def K mg "_law_same" sSame f fd) (b : Binds K fd ["_law_found", "_law_due"] []) : ∀ n : Nat, C8.Cal P w K mg base (n + 1) "_law_same" (spSame n) []
  | 0 => by
    refine C8.cal0 D b .nil scS (fun vs H Q E h => ?_) (fun cdv A outer s0 H vs Q E hr h => ?_)
    · obtain ⟨x, y, rfl, _⟩ := h
      rfl
    · obtain ⟨x, y, rfl, h, _⟩ := h
      exact h.elim
  | n + 1 => by
    have G := ok_same B D b n
    refine C8.cal0 D b .nil scS (fun vs H Q E h => ?_) (fun cdv A outer s0 H vs Q E hr h => ?_)
    · obtain ⟨x, y, rfl, _⟩ := h
      rfl
    obtain ⟨x, y, rfl, tw, k⟩ := h
    refine ⟨_, pss_cons (ps_if (PW.pt (pw_or (pt_cmpR op_isN (pv 1) pe_non (nomark _)) (pw_or1 (pt_cmpR op_isN (pv 0) pe_non (nomark _))))) pss_never pss_nil)
      (pss_cons (ps_if (pt_val (pe_callB call_isiT (by rfl) B.isi (by decide +kernel) (pa_cons (pv 1) (pa_cons (pe_tup (pa_cons (pe_bltn (v := .ty "list") (by rfl) B.list (by decide +kernel) rfl) (pa_cons (pe_bltn (v := .ty "tuple") (by rfl) B.tuple (by decide +kernel) rfl) pa_nil))) pa_nil))))
        (pss_cons (ps_if (pt_cmpR op_ne (pe_callB call_isi (by rfl) B.isi (by decide +kernel) (pa_cons (pv 0) (pa_cons (pe_bltn (v := .ty "list") (by rfl) B.list (by decide +kernel) rfl) pa_nil))) (pe_callB call_isi (by rfl) B.isi (by decide +kernel) (pa_cons (pv 1) (pa_cons (pe_bltn (v := .ty "list") (by rfl) B.list (by decide +kernel) rfl) pa_nil))) (nomark _)) pss_never pss_nil)
        (pss_cons (ps_if (PW.pt (pw_or (pt_cmpR op_ne (pe_callB call_isi (by rfl) B.isi (by decide +kernel) (pa_cons (pv 0) (pa_cons (pe_bltn (v := .ty "tuple") (by rfl) B.tuple (by decide +kernel) rfl) pa_nil))) (pe_callB call_isi (by rfl) B.isi (by decide +kernel) (pa_cons (pv 1) (pa_cons (pe_bltn (v := .ty "tuple") (by rfl) B.tuple (by decide +kernel) rfl) pa_nil))) (nomark _))
            (pw_or1 (pt_cmpR op_ne (pe_callB call_len_seq (by rfl) B.len PySem.boot_len (pa_cons (pv 0) pa_nil)) (pe_callB call_len_seq (by rfl) B.len PySem.boot_len (pa_cons (pv 1) pa_nil)) (nomark _))))) pss_never pss_nil)
        (pss_one (ps_ret (pe_callB (cr_all rfl) (by rfl) B.all (by decide +kernel) (pa_cons
          (pe_lc (own := [("_law_x", 2), ("_law_y", 3)]) (g := gTup K 2 (gCons (gName 2) (gCons (gName 3) gNil))) (tt := tYes) (te := tCall (spSame n) [] C8.E0 (tCons (tVar 2) (tCons (tVar 3) tNil))) rfl scS.nd (RZ.pi_zipA (by rfl) B.zip (pa_cons (pv 0) (pa_cons (pv 1) pa_nil))) (blkOk_by (N := nmS) (sc := C8.fnScope sSame) (by decide +kernel))
            (fun _ _ _ _ _ => pg_tup (n := 2) rfl (pgs_cons (pg_name (i := 2) scS.nd rfl (Or.inl rfl) (Or.inr rfl)) (pgs_cons (pg_name (i := 3) scS.nd rfl (Or.inl rfl) (Or.inr rfl)) pgs_nil))) (fun _ _ _ _ _ => pts_nil)
            (fun _ _ _ _ _ => C8.pe_c G hr (Nat.le_refl _) (by rfl) (pa_cons (pv 2) (pa_cons (pv 3) pa_nil)))) pa_nil)))))) pss_nil)
      (pss_cons (ps_if (pt_cmpR op_ne (pe_callB call_isi (by rfl) B.isi (by decide +kernel) (pa_cons (pv 1) (pa_cons (pe_bltn (v := .ty "bool") (by rfl) B.bool (by decide +kernel) rfl) pa_nil))) (pe_callB call_isi (by rfl) B.isi (by decide +kernel) (pa_cons (pv 0) (pa_cons (pe_bltn (v := .ty "bool") (by rfl) B.bool (by decide +kernel) rfl) pa_nil))) (nomark _)) pss_never pss_nil)
      (pss_cons (ps_if (pt_cmpR op_ne (pe_callB call_isi (by rfl) B.isi (by decide +kernel) (pa_cons (pv 1) (pa_cons (pe_bltn (v := .ty "int") (by rfl) B.int (by decide +kernel) rfl) pa_nil))) (pe_callB call_isi (by rfl) B.isi (by decide +kernel) (pa_cons (pv 0) (pa_cons (pe_bltn (v := .ty "int") (by rfl) B.int (by decide +kernel) rfl) pa_nil))) (nomark _)) pss_never pss_nil)
      (pss_one (ps_ret (pe_and (pe_cmpR op_eq (pe_callB call_isi (by rfl) B.isi (by decide +kernel) (pa_cons (pv 1) (pa_cons (pe_bltn (v := .ty "str") (by rfl) B.str (by decide +kernel) rfl) pa_nil))) (pe_callB call_isi (by rfl) B.isi (by decide +kernel) (pa_cons (pv 0) (pa_cons (pe_bltn (v := .ty "str") (by rfl) B.str (by decide +kernel) rfl) pa_nil))) (nomark _))
        (pe_one (pe_cmpR op_eq (pv 0) (pv 1) (nomark _))))))))), ?_⟩
    have kinds : (∃ (T : String) (bi bs bb : Bool), x = y ∧ scal x y = true ∧ x ≠ .non ∧ TyS K H T x ∧ kitB T "list" = some false ∧ kitB T "tuple" = some false ∧ kitB T "bool" = some bb ∧ kitB T "int" = some bi ∧ kitB T "str" = some bs) ∨
        ∃ (T : String) (l t : Bool) (p q : Addr) (xs ys : List V), x = .ref p ∧ y = .ref q ∧ (l || t) = true ∧ TyS K H T (.ref p) ∧ TyS K H T (.ref q) ∧ kitB T "list" = some l ∧ kitB T "tuple" = some t ∧ ((H p = some (.lst xs) ∧ H q = some (.lst ys)) ∨ (H p = some (.tup xs) ∧ H q = some (.tup ys))) ∧
          xs.length = ys.length ∧ xs.length ≤ 1000 ∧ ∀ (i : Nat) (a b : V), xs[i]? = some a → ys[i]? = some b → Tw H n a b := by
      rcases tw with ⟨z, rfl, rfl⟩ | ⟨c, rfl, rfl⟩ | ⟨p, q, xs, ys, rfl, rfl, hpq, hl, few, hall⟩
      · exact .inl ⟨"str", false, true, false, rfl, rfl, (by intro q; cases q), (fun _ _ => .base (.str _)), by decide +kernel, by decide +kernel, by decide +kernel, by decide +kernel, by decide +kernel⟩
      · exact .inl ⟨"bool", true, false, true, rfl, (by cases c <;> rfl), (by intro q; cases q), (fun _ _ => .base (.bl _)), by decide +kernel, by decide +kernel, by decide +kernel, by decide +kernel, by decide +kernel⟩
      · rcases id hpq with ⟨h1, h2⟩ | ⟨h1, h2⟩
        · exact .inr ⟨"list", true, false, p, q, xs, ys, rfl, rfl, rfl, (fun H' e => .base (.lst (e _ _ h1))), (fun H' e => .base (.lst (e _ _ h2))), by decide +kernel, by decide +kernel, hpq, hl, few, hall⟩
        · exact .inr ⟨"tuple", false, true, p, q, xs, ys, rfl, rfl, rfl, (fun H' e => .base (.tup (e _ _ h1))), (fun H' e => .base (.tup (e _ _ h2))), by decide +kernel, by decide +kernel, hpq, hl, few, hall⟩
    rcases kinds with ⟨T, bi, bs, bb, exy, sc, nn, ty, kl, kt, kb, ki, ks⟩ | ⟨T, l, t, p, q, xs, ys, rfl, rfl, hlt, ty1, ty2, kl, kt, hpq, hl, few, hall⟩
    · subst exy
      have tyM : ∀ {H' : Hp}, Ex H H' → TyS K H' T x := fun e H'' e' => ty H'' (e.trans e')
      refine q_not (et_or (et_isN (ev_var rfl) nn) fun _ => et_isN (ev_var rfl) nn) fun H1 e1 => ?_
      refine q_not (et_B (ev_isiT (ev_var rfl) (tyM e1) (kit_any kl kt))) fun H2 e2 => ?_
      have e12 := e1.trans e2
      refine q_not (et_test (ev_neB (ev_isi (ev_var rfl) (tyM e12) kb) (ev_isi (ev_var rfl) (tyM e12) kb))) fun H3 e3 => ?_
      have e13 := e12.trans e3
      refine q_not (et_test (ev_neB (ev_isi (ev_var rfl) (tyM e13) ki) (ev_isi (ev_var rfl) (tyM e13) ki))) fun H4 e4 => ?_
      have e14 := e13.trans e4
      exact s_ret (ev_is (ev_andV (ev_op (ev_isi (ev_var rfl) (tyM e14) ks) (ev_isi (ev_var rfl) (tyM e14) ks) (rv_eq (by cases bs <;> rfl))) fun _ => ev_op (ev_var rfl) (ev_var rfl) (rv_eq sc)) (by rw [decide_eq_true rfl, decide_eq_true rfl]; rfl)) fun H5 e5 => k H5 (e14.trans e5)
    · refine q_not (et_or (et_isN (ev_var rfl) (by intro z; cases z)) fun _ => et_isN (ev_var rfl) (by intro z; cases z)) fun H1 e1 => ?_
      have tyM : ∀ {a : Addr} {H' : Hp}, TyS K H T (.ref a) → Ex H H' → TyS K H' T (.ref a) := fun h e H'' e' => h H'' (e.trans e')
      refine q_when (et_B (ev_isiT (ev_var rfl) (tyM ty2 e1) (kit_any kl kt))) (fun _ H2 e2 => ?_) fun hb => absurd (hb.symm.trans hlt) (by decide)
      have e12 := e1.trans e2
      refine q_not (et_test (ev_neB (ev_isi (ev_var rfl) (tyM ty1 e12) kl) (ev_isi (ev_var rfl) (tyM ty2 e12) kl))) fun H3 e3 => ?_
      have e13 := e12.trans e3
      have s1 : ∀ H', Ex H H' → SqV K H' p xs := fun H' e => hpq.elim (fun z => .inl (sq_of (e _ _ z.1))) fun z => .inr (st_of (e _ _ z.1))
      have s2 : ∀ H', Ex H H' → SqV K H' q ys := fun H' e => hpq.elim (fun z => .inl (sq_of (e _ _ z.2))) fun z => .inr (st_of (e _ _ z.2))
      refine q_not (et_or (et_test (ev_neB (ev_isi (ev_var rfl) (tyM ty1 e13) kt) (ev_isi (ev_var rfl) (tyM ty2 e13) kt))) fun _ => et_test (ev_is (ev_op (ev_lenV (ev_var rfl) (s1 _ e13)) (ev_lenV (ev_var rfl) (s2 _ e13)) (rv_ne rfl)) (by rw [hl, decide_eq_true rfl]; rfl))) fun H4 e4 => ?_
      have e14 := e13.trans e4
      exact s_ret (ev_allZip (ev_var rfl) (ev_var rfl) (hpq.imp (fun z => ⟨e14 _ _ z.1, e14 _ _ z.2⟩) (fun z => ⟨e14 _ _ z.1, e14 _ _ z.2⟩)) hl few (fun _ _ => rfl)
        (fun i a b H' ha hb e => ev_callV (ea_cons (ev_var rfl) (ea_cons (ev_var rfl) ea_nil)) fun H6 e6 Q2 q2 => ⟨a, b, rfl, (hall i a b ha hb).ex ((e14.trans e).trans e6), q2⟩)) fun H5 e5 => k H5 (e14.trans e5)
end
end K12

/-! K12H: _law_right, _law_joined_so. -/
namespace K12
open PySem PySem.Spec PyProof.Rows L2 Evl

/-! ### sides over some names -/
theorem len_sub : ∀ {l m : List Str}, l.Nodup → (∀ x ∈ l, x ∈ m) → l.length ≤ m.length
  | [], _, _, _ => Nat.zero_le _
  | x :: r, m, nd, h => by
    have nd' := List.nodup_cons.mp nd
    have hx := h x List.mem_cons_self
    have q := len_sub (m := m.erase x) nd'.2 fun y hy => (List.mem_erase_of_ne (fun e => nd'.1 (by rw [← e]; exact hy))).mpr (h y (List.mem_cons_of_mem _ hy))
    have q2 := List.length_erase_of_mem hx
    have q3 : 0 < m.length := List.length_pos_of_mem hx
    rw [List.length_cons]
    omega
structure Names (ns : List Str) : Prop where
  gn : GoodNames ns
  nd : ns.Nodup
  lo : 1 ≤ ns.length
  hi : ns.length ≤ 4
structure In (ns : List Str) (s : Sides) : Prop where
  wf : Wf s
  g : ∀ x ∈ s.1, x ∈ ns
  b : ∀ x ∈ s.2, x ∈ ns
theorem In.row {ns : List Str} {s : Sides} (h : In ns s) : In ns (rowOf s) := ⟨h.wf.row, fun x hx => h.g x (mem_srt.mp hx), fun x hx => h.b x (mem_srt.mp hx)⟩
theorem In.join {ns : List Str} {a b : Sides} (h : In ns a) (h2 : In ns b) : In ns (joinS a b) := ⟨wf_join h.wf h2.wf, fun x hx => (mem_join1.mp hx).1.elim (h.g x) (h2.g x), fun x hx => (mem_join2.mp hx).elim (h.b x) (h2.b x)⟩
theorem In.len {ns : List Str} {s : Sides} (h : In ns s) (n : Names ns) : s.1.length ≤ 4 ∧ s.2.length ≤ 4 := ⟨Nat.le_trans (len_sub h.wf.g h.g) n.hi, Nat.le_trans (len_sub h.wf.b h.b) n.hi⟩
theorem In.good {ns : List Str} {s : Sides} (h : In ns s) (n : Names ns) : Good s := ⟨h.wf, fun x hx => n.gn x (h.g x hx), fun x hx => n.gn x (h.b x hx), by have := (h.len n).1; omega, by have := (h.len n).2; omega⟩
theorem In.goodS {ns : List Str} {s : Sides} (h : In ns s) (n : Names ns) : GoodS s := ⟨fun x hx => n.gn x (h.g x hx), fun x hx => n.gn x (h.b x hx)⟩
/-! ### what gives a row, what gives sides -/
def EvRow (C : Addr) (te : TE) (σ : L2.St) (H : Hp) (t : Sides) : Prop := ∀ H1, Ex H H1 → ∀ Q : VK, (∀ r H2, Ex H1 H2 → RowR C H2 r t → Q (.ref r) H2) → te σ H1 Q
def EvSide (te : TE) (σ : L2.St) (H : Hp) (t : Sides) : Prop := ∀ H1, Ex H H1 → ∀ Q : VK, (∀ p H2, Ex H1 H2 → SideAt H2 p t → Q (.ref p) H2) → te σ H1 Q
section
variable {K : PySem.W.Frag} {σ : L2.St} {H : Hp} {ta tb te : TE} {C p l : Addr} {a b s t : Sides} {E : XK} {ss : List Sides} {i : Nat}
theorem er_of (h : Ev te σ H (.ref p)) (R : RowR C H p t) : EvRow C te σ H t := fun H1 e Q q => h H1 e _ fun H2 e2 => q p H2 e2 (R.ex (e.trans e2))
theorem es_of (h : Ev te σ H (.ref p)) (R : SideAt H p t) : EvSide te σ H t := fun H1 e Q q => h H1 e _ fun H2 e2 => q p H2 e2 (R.ex (e.trans e2))
theorem er_is (h : EvRow C te σ H s) (e : s = t) : EvRow C te σ H t := e ▸ h
theorem er_or (h1 : EvRow C ta σ H s) (h2 : EvRow C tb σ H t) (g1 : Good s) (g2 : Good t) : EvRow C (tOp (rBin C (spOr C) E) ta tb) σ H (orRow s t) := fun H1 e Q q =>
  h1 H1 e _ fun r1 H2 e2 R1 => h2 H2 (e.trans e2) _ fun r2 H3 e3 R2 => by
    have R1' := R1.ex e3
    obtain ⟨dx, tp, tc, tn, x1, _⟩ := id R1'
    obtain ⟨dx', tp', tc', tn', x2, _⟩ := id R2
    exact ⟨r1, dx, _, r2, dx', _, rfl, rfl, x1, x2, r1, r2, s, t, rfl, R1', R2, g1, g2, fun x H' e4 R => q x H' ((e2.trans e3).trans e4) R⟩
theorem es_join (h1 : EvSide ta σ H a) (h2 : EvSide tb σ H b) (f1 : a.1.length ≤ 8) (f2 : a.2.length ≤ 8) (f3 : b.1.length ≤ 8) (f4 : b.2.length ≤ 8) : EvSide (tCall spJoin [] E (tCons ta (tCons tb tNil))) σ H (joinS a b) := fun H1 e Q q =>
  h1 H1 e _ fun p1 H2 e2 S1 => h2 H2 (e.trans e2) _ fun p2 H3 e3 S2 => ⟨p1, p2, a, b, rfl, S1.ex e3, S2, f1, f2, f3, f4, fun r H' e4 S => q r H' ((e2.trans e3).trans e4) S⟩
def RowsAt (H : Hp) (l : Addr) (ss : List Sides) : Prop := ∃ ps : List Addr, H l = some (.lst (ps.map V.ref)) ∧ ps.length = ss.length ∧ ∀ (i : Nat) (p : Addr) (s : Sides), ps[i]? = some p → ss[i]? = some s → SideAt H p s
def MadeAt (C : Addr) (H : Hp) (l : Addr) (ss : List Sides) : Prop := ∃ ps : List Addr, H l = some (.lst (ps.map V.ref)) ∧ ps.length = ss.length ∧ ∀ (i : Nat) (p : Addr) (s : Sides), ps[i]? = some p → ss[i]? = some s → RowR C H p (rowOf s)
theorem RowsAt.ex {H H' : Hp} (h : RowsAt H l ss) (e : Ex H H') : RowsAt H' l ss := by
  obtain ⟨ps, h1, h2, h3⟩ := h
  exact ⟨ps, e _ _ h1, h2, fun i p s a b => (h3 i p s a b).ex e⟩
theorem MadeAt.ex {H H' : Hp} (h : MadeAt C H l ss) (e : Ex H H') : MadeAt C H' l ss := by
  obtain ⟨ps, h1, h2, h3⟩ := h
  exact ⟨ps, e _ _ h1, h2, fun i p s a b => (h3 i p s a b).ex e⟩
theorem get_len {α β : Type} {xs : List α} {ys : List β} (h : xs.length = ys.length) {i : Nat} {y : β} (hy : ys[i]? = some y) : ∃ x, xs[i]? = some x := by
  obtain ⟨hi, _⟩ := List.getElem?_eq_some_iff.mp hy
  exact ⟨xs[i], List.getElem?_eq_getElem (by omega)⟩
theorem es_ix (h1 : Ev ta σ H (.ref l)) (h2 : Ev tb σ H (.int i)) (R : RowsAt H l ss) (hs : ss[i]? = some s) : EvSide (tOp (rIxL K) ta tb) σ H s := by
  obtain ⟨ps, g1, g2, g3⟩ := R
  obtain ⟨p, hp⟩ := get_len g2 hs
  exact es_of (ev_ixL h1 h2 (sq_of g1) (by rw [List.getElem?_map, hp] <;> rfl)) (g3 i p s hp hs)
theorem er_ix (h1 : Ev ta σ H (.ref l)) (h2 : Ev tb σ H (.int i)) (R : MadeAt C H l ss) (hs : ss[i]? = some s) : EvRow C (tOp (rIxL K) ta tb) σ H (rowOf s) := by
  obtain ⟨ps, g1, g2, g3⟩ := R
  obtain ⟨p, hp⟩ := get_len g2 hs
  exact er_of (ev_ixL h1 h2 (sq_of g1) (by rw [List.getElem?_map, hp] <;> rfl)) (g3 i p s hp hs)
end

/-! ### _law_right -/
def spRight (C : Addr) : Sp := fun vs H Q _ => ∃ (r p : Addr) (t : Sides), vs = [.ref r, .ref p] ∧ RowR C H r t ∧ SideAt H p t ∧ GoodS t ∧ t.1.length ≤ 8 ∧ t.2.length ≤ 8 ∧ RV1 (.bl true) H Q
theorem ev_right {σ : L2.St} {H : Hp} {ta tb : TE} {C : Addr} {t : Sides} {E : XK} (h1 : EvRow C ta σ H t) (h2 : EvSide tb σ H t) (g : GoodS t) (f1 : t.1.length ≤ 8) (f2 : t.2.length ≤ 8) : Ev (tCall (spRight C) [] E (tCons ta (tCons tb tNil))) σ H (.bl true) := fun H1 e Q q =>
  h1 H1 e _ fun r H2 e2 R => h2 H2 (e.trans e2) _ fun p H3 e3 S => ⟨r, p, t, rfl, R.ex e3, S, g, f1, f2, fun H4 e4 => q H4 ((e2.trans e3).trans e4)⟩
theorem s_call2 {σ : L2.St} {H : Hp} {ta tb : TE} {sp : Sp} {E : XK} {D : Ends} (h : ta σ H fun x H1 => tb σ H1 fun y H2 => sp [x, y] H2 D.rt E) : tRet (tCall sp [] E (tCons ta (tCons tb tNil))) D σ H := h
theorem s_lst3 {σ : L2.St} {H : Hp} {t1 t2 t3 : TE} {Q : VK} (h : t1 σ H fun x H1 => t2 σ H1 fun y H2 => t3 σ H2 fun z H3 => ∀ p, H3 p = none → Q (.ref p) (upd H3 p (.lst [x, y, z]))) : tLst (tCons t1 (tCons t2 (tCons t3 tNil))) σ H Q := by
  have e : 3 ≤ sizeLine := by decide
  have q : (t1 σ H fun x H1 => t2 σ H1 fun y H2 => t3 σ H2 fun z H3 => 3 ≤ sizeLine ∧ ∀ p, H3 p = none → Q (.ref p) (upd H3 p (.lst [x, y, z]))) := by
    simp only [e, true_and]
    exact h
  exact q
theorem scRg : FnScope ["_law_own", "_law_sides_here"] ["_law_own", "_law_sides_here"] (C8.fnScope sRight) := C8.fnScope_by (by decide +kernel)
section
variable {P : Program} {w : World} {K : PySem.W.Frag} {mg : Str → Option Value} {base : Heap}
theorem ok_right {C f : Addr} {fd : FuncData} (B : Bi mg) (T : TxtRow K mg C) (Gs : C8.Cal P w K mg base 4 "_law_same" (spSame 3) []) (Gt : C8.Met P w K mg base 5 C "text" (spText C) []) (Gr : C8.Cal P w K mg base 1 "_law_row_text" spRowText [])
    (D : C8.Def K mg "_law_right" sRight f fd) (b : Binds K fd ["_law_own", "_law_sides_here"] []) : C8.Cal P w K mg base 6 "_law_right" (spRight C) [] := by
  refine C8.cal0 D b .nil scRg (fun vs H Q E h => ?_) (fun cdv A outer s0 H vs Q E hr h => ?_)
  · obtain ⟨r, p, t, rfl, _⟩ := h
    rfl
  obtain ⟨r, p, t, rfl, R, ⟨g, b, h0, h1, h2⟩, gs, f1, f2, k⟩ := h
  refine ⟨_, pss_one (ps_ret (C8.pe_c Gs hr (by decide) (by rfl) (pa_cons (pe_lst (pa_cons (pe_fld (pv 0) rfl) (pa_cons (pe_fld (pv 0) rfl) (pa_cons (C8.pe_mt0 (pl := _) Gt hr (by decide) (pv 0)) pa_nil)))) (pa_cons
      (pe_lst (pa_cons (pe_callTy call_tuple_of (by rfl) B.tuple (by decide +kernel) (pa_cons (pe_ix ix_tup (pv 1) pe_int (fun _ _ => rfl)) pa_nil)) (pa_cons (pe_callTy call_tuple_of (by rfl) B.tuple (by decide +kernel) (pa_cons (pe_ix ix_tup (pv 1) pe_int (fun _ _ => rfl)) pa_nil)) (pa_cons
        (C8.pe_c Gr hr (by decide) (by rfl) (pa_cons (pe_ix ix_tup (pv 1) pe_int (fun _ _ => rfl)) (pa_cons (pe_ix ix_tup (pv 1) pe_int (fun _ _ => rfl)) pa_nil))) pa_nil)))) pa_nil)))), ?_⟩
  obtain ⟨dx, tp, tc, tn, r1, r2, r3, r4⟩ := id R
  refine s_call2 ?_
  refine el_lst (vs := [.ref tp, .ref tc, .str (textOf t)]) (ea_cons (ev_fld (ev_var rfl) r1 T.cl T.nP (rowF_pro _ _ _)) (ea_cons (ev_fld (ev_var rfl) r1 T.cl T.nC (rowF_con _ _ _)) (ea_cons (ev_methV (ev_var rfl) r1 (rowF_no _ _ _ (by decide +kernel) (by decide +kernel) (by decide +kernel)) ea_nil
    fun H1 e1 Q' q => ⟨r, t, rfl, R.ex e1, gs, f1, f2, q⟩) ea_nil))) (by show 3 ≤ 100000; decide) H (Ex.refl _) _ fun la H1 na e1 ha => ?_
  refine s_lst3 ?_
  refine eu_tupleV (ev_ixT (i := 0) (ev_var rfl) ev_c (st_of (e1 _ _ h0)) rfl) (sq_of (e1 _ _ h1)) H1 (Ex.refl _) _ fun u1 H2 n2 e2 hu1 => ?_
  have e12 := e1.trans e2
  refine eu_tupleV (ev_ixT (i := 1) (ev_var rfl) ev_c (st_of (e12 _ _ h0)) rfl) (sq_of (e12 _ _ h2)) H2 (Ex.refl _) _ fun u2 H3 n3 e3 hu2 => ?_
  have e13 := e12.trans e3
  refine ev_callV (v := .str (textOf t)) (ea_cons (ev_ixT (i := 0) (ev_var rfl) ev_c (st_of (e13 _ _ h0)) rfl) (ea_cons (ev_ixT (i := 1) (ev_var rfl) ev_c (st_of (e13 _ _ h0)) rfl) ea_nil))
    (fun H4 e4 Q' q => ⟨g, b, t, rfl, e4 _ _ (e13 _ _ h1), e4 _ _ (e13 _ _ h2), gs, f1, f2, q⟩) H3 (Ex.refl _) _ fun H4 e4 lb hlb => ?_
  have e14 := e13.trans e4
  have eN : Ex H4 (upd H4 lb (.lst [.ref u1, .ref u2, .str (textOf t)])) := Ex.new hlb
  have ea := ((e2.trans e3).trans e4).trans eN
  have twn : ∀ (H' : Hp) (zs : List Str) (x y : Addr), zs.length ≤ 8 → H' x = some (.tup (zs.map V.str)) → H' y = some (.tup (zs.map V.str)) → Tw H' 2 (.ref x) (.ref y) := fun H' zs x y few hx hy =>
    .inr (.inr ⟨x, y, _, _, rfl, rfl, .inr ⟨hx, hy⟩, rfl, by rw [List.length_map]; omega, fun i a b h1 h2 => by
      rw [h1] at h2
      obtain rfl := Option.some.inj h2
      rw [List.getElem?_map] at h1
      obtain ⟨z, _, rfl⟩ := Option.map_eq_some_iff.mp h1
      exact .inl ⟨z, rfl, rfl⟩⟩)
  refine ⟨.ref la, .ref lb, rfl, .inr (.inr ⟨la, lb, _, _, rfl, rfl, .inl ⟨ea _ _ ha, upd_same⟩, rfl, by show 3 ≤ 1000; decide, fun i x y hx hy => ?_⟩), fun H5 e5 => k H5 ((e14.trans eN).trans e5)⟩
  match i, hx, hy with
  | 0, hx, hy =>
    obtain rfl := Option.some.inj hx
    obtain rfl := Option.some.inj hy
    exact twn _ t.1 _ _ f1 (eN _ _ (e14 _ _ r2)) (eN _ _ (e4 _ _ (e3 _ _ hu1)))
  | 1, hx, hy =>
    obtain rfl := Option.some.inj hx
    obtain rfl := Option.some.inj hy
    exact twn _ t.2 _ _ f2 (eN _ _ (e14 _ _ r3)) (eN _ _ (e4 _ _ hu2))
  | 2, hx, hy =>
    obtain rfl := Option.some.inj hx
    obtain rfl := Option.some.inj hy
    exact .inl ⟨_, rfl, rfl⟩
  | i + 3, hx, hy => exact absurd hx (by intro q; cases q)
end
end K12

/-! K12I: _law_joined_so. -/
namespace K12
open PySem PySem.Spec PyProof.Rows L2 Evl

theorem or_again {a b : Sides} (ha : Wf a) (hb : Wf b) : orRow (joinS a b) (rowOf a) = joinS a b := by
  have q := orRow_join (wf_join ha hb) ha
  rw [row_join, join_again ha hb] at q
  exact q
theorem or_join2 {a b c : Sides} (ha : Wf a) (hb : Wf b) (hc : Wf c) : orRow (rowOf a) (joinS b c) = joinS a (joinS b c) := by
  have q := orRow_join ha (wf_join hb hc)
  rw [row_join] at q
  exact q
section
variable {K : PySem.W.Frag} {σ : L2.St} {H : Hp} {ta tb te : TE} {C p l : Addr} {a b s t : Sides} {E : XK} {ss : List Sides} {i : Nat}
theorem es_tup (h1 : EvL ta σ H (s.1.map V.str)) (h2 : EvL tb σ H (s.2.map V.str)) : EvSide (tTup (tCons ta (tCons tb tNil))) σ H s := fun H1 e Q q =>
  h1 H1 e _ fun l1 H2 n1 e2 g1 => h2 H2 (e.trans e2) _ fun l2 H3 n2 e3 g2 => ⟨by show 2 ≤ sizeLine; decide, fun r hr => q r _ ((e2.trans e3).trans (Ex.new hr)) ⟨l1, l2, upd_same, (Ex.new hr) _ _ (e3 _ _ g1), (Ex.new hr) _ _ g2⟩⟩
theorem el_sort0 (h1 : Ev ta σ H (.ref l)) (h2 : Ev tb σ H (.int i)) (R : RowsAt H l ss) (hs : ss[i]? = some s) (few : s.1.length < 64) : EvL (tCB (rSortedS K) (tCons (tOp (rIxT K) (tOp (rIxL K) ta tb) (tC (.int 0))) tNil)) σ H ((srt s.1).map V.str) := by
  obtain ⟨ps, g1, g2, g3⟩ := R
  obtain ⟨p, hp⟩ := get_len g2 hs
  obtain ⟨g, b, x0, x1, x2⟩ := g3 i p s hp hs
  exact el_sortedV (ev_ixT (i := 0) (ev_ixL h1 h2 (sq_of g1) (by rw [List.getElem?_map, hp] <;> rfl)) ev_c (st_of x0) rfl) (sq_of x1) few
theorem el_sort1 (h1 : Ev ta σ H (.ref l)) (h2 : Ev tb σ H (.int i)) (R : RowsAt H l ss) (hs : ss[i]? = some s) (few : s.2.length < 64) : EvL (tCB (rSortedS K) (tCons (tOp (rIxT K) (tOp (rIxL K) ta tb) (tC (.int 1))) tNil)) σ H ((srt s.2).map V.str) := by
  obtain ⟨ps, g1, g2, g3⟩ := R
  obtain ⟨p, hp⟩ := get_len g2 hs
  obtain ⟨g, b, x0, x1, x2⟩ := g3 i p s hp hs
  exact el_sortedV (ev_ixT (i := 1) (ev_ixL h1 h2 (sq_of g1) (by rw [List.getElem?_map, hp] <;> rfl)) ev_c (st_of x0) rfl) (sq_of x2) few
end
def spJoined (C : Addr) : Sp := fun vs H Q _ => ∃ (lr lm : Addr) (ns : List Str) (ss : List Sides), vs = [.ref lr, .ref lm] ∧ Names ns ∧ ss.length = 3 ∧ (∀ s ∈ ss, In ns s) ∧ RowsAt H lr ss ∧ MadeAt C H lm ss ∧ RV1 (.bl true) H Q
abbrev nmJS : List Str := ["_law_rows", "_law_made", "_law_x", "_law_y", "_law_two", "_law_z", "_law_k"]
theorem scJS : FnScope nmJS ["_law_rows", "_law_made"] (C8.fnScope sJoinedSo) := C8.fnScope_by (by decide +kernel)
section
variable {P : Program} {w : World} {K : PySem.W.Frag} {mg : Str → Option Value} {base : Heap}
/-- what the law's texts need of the class's own | -/
structure OrAt (P : Program) (w : World) (K : PySem.W.Frag) (mg : Str → Option Value) (base : Heap) (C : Addr) : Prop where
  ex : ∃ (f : Addr) (fd : FuncData), FnOk P w K mg base C8.CX0 6 f fd ["self", "other"] (spOr C) ∧ Binds K fd ["self", "other"] [] ∧ PySem.W.selfFirst K C = true ∧ PySem.W.findIn K (.ref C) "__or__" = some (some (.ref f)) ∧ PySem.W.isFn K (.ref f) = true
theorem ok_joined {C f : Addr} {fd : FuncData} (B : Bi mg) (O : OrAt P w K mg base C) (Gj : C8.Cal P w K mg base 1 "_law_join" spJoin []) (Gr : C8.Cal P w K mg base 6 "_law_right" (spRight C) []) (D : C8.Def K mg "_law_joined_so" sJoinedSo f fd) (b : Binds K fd ["_law_rows", "_law_made"] []) :
    C8.Cal P w K mg base 7 "_law_joined_so" (spJoined C) [] := by
  obtain ⟨fo, fdo, Go, bo, sf, hs, hf⟩ := O.ex
  refine C8.cal0 D b .nil scJS (fun vs H Q E h => ?_) (fun cdv A outer s0 H vs Q E hr h => ?_)
  · obtain ⟨lr, lm, ns, ss, rfl, _⟩ := h
    rfl
  obtain ⟨lr, lm, ns, ss, rfl, N, l3, hin, RA, MA, k⟩ := h
  refine ⟨_, pss_cons (ps_for PassesOwn.never rfl (pi_range1 (by rfl) B.range (pa_cons pe_int pa_nil)) (pg_name (i := 2) scJS.nd rfl (Or.inl rfl))
      (pss_one (ps_for PassesOwn.never rfl (pi_range1 (by rfl) B.range (pa_cons pe_int pa_nil)) (pg_name (i := 3) scJS.nd rfl (Or.inl rfl))
        (pss_cons (ps_set (i := 4) scJS.nd rfl (Or.inl rfl) (C8.pe_c Gj hr (by decide) (by rfl) (pa_cons (pe_ix ix_list (pv 0) (pv 2) (fun _ _ => rfl)) (pa_cons (pe_ix ix_list (pv 0) (pv 3) (fun _ _ => rfl)) pa_nil))))
        (pss_cons (ps_if (PW.pt (pw_or (pt_not (pt_val (C8.pe_c Gr hr (by decide) (by rfl) (pa_cons (pe_op (op_bin (E := C8.E0) Go hr bo C8.pass0 sf hs hf) (pe_ix ix_list (pv 1) (pv 2) (fun _ _ => rfl)) (pe_ix ix_list (pv 1) (pv 3) (fun _ _ => rfl))) (pa_cons (pv 4) pa_nil)))))
            (pw_or1 (pt_not (pt_val (C8.pe_c Gr hr (by decide) (by rfl) (pa_cons (pe_op (op_bin (E := C8.E0) Go hr bo C8.pass0 sf hs hf) (pe_op (op_bin (E := C8.E0) Go hr bo C8.pass0 sf hs hf) (pe_ix ix_list (pv 1) (pv 2) (fun _ _ => rfl)) (pe_ix ix_list (pv 1) (pv 3) (fun _ _ => rfl))) (pe_ix ix_list (pv 1) (pv 2) (fun _ _ => rfl))) (pa_cons (pv 4) pa_nil)))))))) pss_never pss_nil)
        (pss_one (ps_for PassesOwn.never rfl (pi_range1 (by rfl) B.range (pa_cons pe_int pa_nil)) (pg_name (i := 5) scJS.nd rfl (Or.inl rfl))
          (pss_one (ps_if (pt_not (pt_val (C8.pe_c Gr hr (by decide) (by rfl) (pa_cons (pe_op (op_bin (E := C8.E0) Go hr bo C8.pass0 sf hs hf) (pe_ix ix_list (pv 1) (pv 2) (fun _ _ => rfl)) (pe_op (op_bin (E := C8.E0) Go hr bo C8.pass0 sf hs hf) (pe_ix ix_list (pv 1) (pv 3) (fun _ _ => rfl)) (pe_ix ix_list (pv 1) (pv 5) (fun _ _ => rfl))))
              (pa_cons (C8.pe_c Gj hr (by decide) (by rfl) (pa_cons (pe_ix ix_list (pv 0) (pv 2) (fun _ _ => rfl)) (pa_cons (C8.pe_c Gj hr (by decide) (by rfl) (pa_cons (pe_ix ix_list (pv 0) (pv 3) (fun _ _ => rfl)) (pa_cons (pe_ix ix_list (pv 0) (pv 5) (fun _ _ => rfl)) pa_nil))) pa_nil))) pa_nil))))) pss_never pss_nil)))))))))
    (pss_one (ps_ret (pe_cmpR (op_eqD hr.units)
      (pe_lc (own := [("_law_k", 6)]) (g := gName 6) (tt := tNot (tB (tCall (spRight C) [] C8.E0 (tCons (tOp (rIxL K) (tVar 1) (tVar 6)) (tCons (tTup (tCons (tCB (rSortedS K) (tCons (tOp (rIxT K) (tOp (rIxL K) (tVar 0) (tVar 6)) (tC (.int 0))) tNil)) (tCons (tCB (rSortedS K) (tCons (tOp (rIxT K) (tOp (rIxL K) (tVar 0) (tVar 6)) (tC (.int 1))) tNil)) tNil))) tNil))))) (te := tVar 6) rfl scJS.nd
        (pi_range1 (by rfl) B.range (pa_cons pe_int pa_nil)) (blkOk_by (N := nmJS) (sc := C8.fnScope sJoinedSo) (by decide +kernel))
        (fun _ _ _ _ _ => pg_name (i := 6) scJS.nd rfl (Or.inl rfl)) (fun _ _ _ _ _ => pts_one (pt_not (pt_val (C8.pe_c Gr hr (by decide) (by rfl) (pa_cons (pe_ix ix_list (pv 1) (pv 6) (fun _ _ => rfl)) (pa_cons
          (pe_tup (pa_cons (pe_callB cr_sortedS (by rfl) B.sorted (by decide +kernel) (pa_cons (pe_ix ix_tup (pe_ix ix_list (pv 0) (pv 6) (fun _ _ => rfl)) pe_int (fun _ _ => rfl)) pa_nil)) (pa_cons (pe_callB cr_sortedS (by rfl) B.sorted (by decide +kernel) (pa_cons (pe_ix ix_tup (pe_ix ix_list (pv 0) (pv 6) (fun _ _ => rfl)) pe_int (fun _ _ => rfl)) pa_nil)) pa_nil))) pa_nil)))))) (fun _ _ _ _ _ => pv 6))
      (pe_lst pa_nil) (nomark _)))), ?_⟩
  have at3 : ∀ i : Nat, (i : Int) < 3 → ∃ s, ss[i]? = some s ∧ In ns s := fun i hi => by
    have hi' : i < ss.length := by omega
    exact ⟨ss[i], List.getElem?_eq_getElem hi', hin _ (List.getElem_mem hi')⟩
  refine q_forR1 (ea_cons ev_c ea_nil) ⟨by decide, by decide⟩ (fun i σ H' => Ex H H' ∧ ∃ v2 v3 v4 v5, σ = [some (.ref lr), some (.ref lm), v2, v3, v4, v5, none]) (fun H1 e1 => ⟨e1, none, none, none, none, rfl⟩) ?_ ?_
  · rintro x σ H1 hx ⟨e1, v2, v3, v4, v5, rfl⟩
    obtain ⟨a, ha, ia⟩ := at3 x hx
    have la := ia.len N
    refine s_forR1 (ea_cons ev_c ea_nil) ⟨by decide, by decide⟩ (fun i σ H' => Ex H H' ∧ ∃ v3 v4 v5, σ = [some (.ref lr), some (.ref lm), some (.int (x : Nat)), v3, v4, v5, none]) (fun H2 e2 => ⟨e1.trans e2, v3, v4, v5, rfl⟩) ?_ (fun σ H' h => ?_)
    · rintro y σ H2 hy ⟨e2, v3, v4, v5, rfl⟩
      obtain ⟨b, hb, ib⟩ := at3 y hy
      have lb := ib.len N
      have ij := ia.join ib
      have lj := ij.len N
      have RA2 := RA.ex e2
      refine es_join (es_ix (ev_var rfl) (ev_var rfl) RA2 ha) (es_ix (ev_var rfl) (ev_var rfl) RA2 hb) (by omega) (by omega) (by omega) (by omega) H2 (Ex.refl _) _ fun two H3 e3 S2 => ?_
      have e03 := e2.trans e3
      have MA3 := MA.ex e03
      refine q_not (et_or (et_notT (et_B (ev_right (er_is (er_or (er_ix (ev_var rfl) (ev_var rfl) MA3 ha) (er_ix (ev_var rfl) (ev_var rfl) MA3 hb) (ia.row.good N) (ib.row.good N)) (orRow_join ia.wf ib.wf)) (es_of (ev_var rfl) S2) (ij.goodS N) (by omega) (by omega)))) fun _ =>
        et_notT (et_B (ev_right (er_is (er_or (er_is (er_or (er_ix (ev_var rfl) (ev_var rfl) MA3 ha) (er_ix (ev_var rfl) (ev_var rfl) MA3 hb) (ia.row.good N) (ib.row.good N)) (orRow_join ia.wf ib.wf)) (er_ix (ev_var rfl) (ev_var rfl) MA3 ha) (ij.good N) (ia.row.good N)) (or_again ia.wf ib.wf)) (es_of (ev_var rfl) S2) (ij.goodS N) (by omega) (by omega)))) fun H4 e4 => ?_
      have e04 := e03.trans e4
      refine s_forR1 (ea_cons ev_c ea_nil) ⟨by decide, by decide⟩ (fun i σ H' => Ex H H' ∧ ∃ v5, σ = [some (.ref lr), some (.ref lm), some (.int (x : Nat)), some (.int (y : Nat)), some (.ref two), v5, none]) (fun H5 e5 => ⟨e04.trans e5, v5, rfl⟩) ?_ (fun σ H' h => ?_)
      · rintro z σ H5 hz ⟨e5, v5, rfl⟩
        obtain ⟨c, hc, ic⟩ := at3 z hz
        have lc := ic.len N
        have ibc := ib.join ic
        have lbc := ibc.len N
        have iabc := ia.join ibc
        have labc := iabc.len N
        have MA5 := MA.ex e5
        have RA5 := RA.ex e5
        exact s_when (et_notT (et_B (ev_right (er_is (er_or (er_ix (ev_var rfl) (ev_var rfl) MA5 ha) (er_is (er_or (er_ix (ev_var rfl) (ev_var rfl) MA5 hb) (er_ix (ev_var rfl) (ev_var rfl) MA5 hc) (ib.row.good N) (ic.row.good N)) (orRow_join ib.wf ic.wf)) (ia.row.good N) (ibc.good N)) (or_join2 ia.wf ib.wf ic.wf))
          (es_join (es_ix (ev_var rfl) (ev_var rfl) RA5 ha) (es_join (es_ix (ev_var rfl) (ev_var rfl) RA5 hb) (es_ix (ev_var rfl) (ev_var rfl) RA5 hc) (by omega) (by omega) (by omega) (by omega)) (by omega) (by omega) (by omega) (by omega)) (iabc.goodS N) (by omega) (by omega)))) (fun h => by cases h) fun _ H6 e6 => ⟨e5.trans e6, _, rfl⟩
      · obtain ⟨e, v5, rfl⟩ := h
        exact ⟨e, _, _, _, rfl⟩
    · obtain ⟨e, v3, v4, v5, rfl⟩ := h
      exact ⟨e, _, _, _, _, rfl⟩
  · rintro σ H1 ⟨e1, v2, v3, v4, v5, rfl⟩
    refine s_ret (ev_is (ev_eqN0 (xs := []) (el_lcR1 (fun _ => false) (fun _ => .non) (ea_cons ev_c ea_nil) ⟨by decide, by decide⟩ (fun _ => rfl) (fun i H2 e2 hi => ?_) (fun i H2 e2 hi h => by cases h)) (fun x hx => by cases hx)) rfl) fun H2 e2 => k H2 (e1.trans e2)
    obtain ⟨a, ha, ia⟩ := at3 i hi
    have la := ia.len N
    have lr' := ia.row.len N
    have e := e1.trans e2
    exact et_notT (et_B (ev_right (er_ix (ev_var rfl) (ev_var rfl) (MA.ex e) ha) (es_tup (s := rowOf a) (el_sort0 (ev_var rfl) (ev_var rfl) (RA.ex e) ha (by omega)) (el_sort1 (ev_var rfl) (ev_var rfl) (RA.ex e) ha (by omega))) (ia.row.goodS N) (by omega) (by omega)))
end
end K12

/-! K12J: _law_order, _law_lines. -/
namespace K12
open PySem PySem.Spec PyProof.Rows L2 Evl

/-! ### _law_order -/
def spLOrder (O : Addr) : Sp := fun vs H Q _ => ∃ (p : Addr) (line : List Str), vs = [.ref p] ∧ H p = some (.lst (line.map V.str)) ∧ Names line ∧ ∀ x H', Ex H H' → OrderR O H' x line → Q (.ref x) H'
abbrev spOrdR (O : Addr) : Sp := fun vs H Q E => ∃ ws rest, vs = ws ++ rest ∧ ws.length = (["self"] : List Str).length ∧ rest.length ≤ sizeLine ∧ ∀ p, H p = Option.none → spOrd0 O (ws ++ [V.ref p]) (upd H p (.tup rest)) Q E
theorem ord_make {O : Addr} {σ : L2.St} {H : Hp} {E : XK} {tA : TA} {line : List Str} {D : Ends} (h : EvA tA σ H (line.map V.str)) (N : Names line) (k : ∀ x H', Ex H H' → OrderR O H' x line → D.rt (.ref x) H') : tRet (StX.tMakeR O (spOrdR O) E tA) D σ H :=
  h H (Ex.refl _) _ fun H1 e1 x dx nx nd ne => by
    have few := N.hi
    have few1 := N.lo
    refine ⟨[.ref x], line.map V.str, rfl, rfl, by rw [List.length_map]; exact sz_of (by omega), fun p hp => ?_⟩
    have hxp : x ≠ p := fun e => by
      rw [← e, upd_same] at hp
      cases hp
    have hdp : dx ≠ p := fun e => by
      rw [← e, upd_ne ne, upd_same] at hp
      cases hp
    have up : ∀ {a o}, H1 a = some o → upd (upd (upd H1 dx (.own x)) x (.ins O dx [])) p (.tup (line.map V.str)) a = some o := fun {a o} ha => by
      have hap : a ≠ p := fun e => by
        rw [← e] at hp
        rw [upd_ne (ne_of_none ha nx), upd_ne (ne_of_none ha nd), ha] at hp
        cases hp
      rw [upd_ne hap, upd_ne (ne_of_none ha nx), upd_ne (ne_of_none ha nd)]
      exact ha
    refine ⟨x, dx, p, line, rfl, ?_, upd_same, N.gn, N.nd, N.lo, by omega, fun H' keep R => ⟨rfl, k x H' (fun a o ha => keep a o (ne_of_none (e1 _ _ ha) nx) (up (e1 _ _ ha))) R⟩⟩
    rw [upd_ne hxp, upd_same]
theorem et_len {K : PySem.W.Frag} {σ : L2.St} {H : Hp} {te : TE} {p : Addr} {n : Int} {line : List Str} {b : Bool} (h : Ev te σ H (.ref p)) (hp : H p = some (.lst (line.map V.str))) (hb : decide ((line.length : Int) = n) = b) :
    EvT (tTest (tOp rEq (tCB (fun xs H Q => ∃ p ys, xs = [.ref p] ∧ (SqL K H p ys ∨ SqT K H p ys) ∧ Q (.int ys.length) H) (tCons te tNil)) (tC (.int n)))) σ H b :=
  et_test (ev_is (ev_op (ev_lenV h (.inl (sq_of hp))) ev_c (rv_eq rfl)) (by
    rw [List.length_map]
    exact congrArg V.bl ((decide_eq_decide.mpr ⟨fun q => by injection q, fun q => by rw [q]⟩).trans hb)))
theorem ev_at {K : PySem.W.Frag} {σ : L2.St} {H : Hp} {te : TE} {p : Addr} {line : List Str} {i : Nat} {z : Str} (h : Ev te σ H (.ref p)) (hp : H p = some (.lst (line.map V.str))) (hz : line[i]? = some z) : Ev (tOp (rIxL K) te (tC (.int i))) σ H (.str z) :=
  ev_ixL (i := i) h ev_c (sq_of hp) (by rw [List.getElem?_map, hz] <;> rfl)
theorem scLO : FnScope ["_law_x"] ["_law_x"] (C8.fnScope sLOrder) := C8.fnScope_by (by decide +kernel)
section
variable {P : Program} {w : World} {K : PySem.W.Frag} {mg : Str → Option Value} {base : Heap}
theorem ok_lorder {O fi f : Addr} {fd : FuncData} (B : Bi mg) (hO : mg "Order" = some (.ref O)) (M : Mk K O fi) (F : FnR P w K mg base C8.CX0 3 fi (spOrdR O)) (D : C8.Def K mg "_law_order" sLOrder f fd) (b : Binds K fd ["_law_x"] []) : C8.Cal P w K mg base 5 "_law_order" (spLOrder O) [] := by
  refine C8.cal0 D b .nil scLO (fun vs H Q E h => ?_) (fun cdv A outer s0 H vs Q E hr h => ?_)
  · obtain ⟨p, line, rfl, _⟩ := h
    rfl
  obtain ⟨p, line, rfl, hp, N, k⟩ := h
  refine ⟨_, pss_cons (ps_if (pt_cmpR op_eq (pe_callB call_len_seq (by rfl) B.len PySem.boot_len (pa_cons (pv 0) pa_nil)) pe_int (nomark _)) pss_never pss_nil)
    (pss_cons (ps_if (pt_cmpR op_eq (pe_callB call_len_seq (by rfl) B.len PySem.boot_len (pa_cons (pv 0) pa_nil)) pe_int (nomark _)) (pss_one (ps_ret (StX.pe_makeR (E := C8.E0) M F hr (by rfl) hO C8.pass0 (pa_cons (pe_ix ix_list (pv 0) pe_int (fun _ _ => rfl)) pa_nil)))) pss_nil)
    (pss_cons (ps_if (pt_cmpR op_eq (pe_callB call_len_seq (by rfl) B.len PySem.boot_len (pa_cons (pv 0) pa_nil)) pe_int (nomark _)) (pss_one (ps_ret (StX.pe_makeR (E := C8.E0) M F hr (by rfl) hO C8.pass0 (pa_cons (pe_ix ix_list (pv 0) pe_int (fun _ _ => rfl)) (pa_cons (pe_ix ix_list (pv 0) pe_int (fun _ _ => rfl)) pa_nil))))) pss_nil)
    (pss_cons (ps_if (pt_cmpR op_eq (pe_callB call_len_seq (by rfl) B.len PySem.boot_len (pa_cons (pv 0) pa_nil)) pe_int (nomark _)) (pss_one (ps_ret (StX.pe_makeR (E := C8.E0) M F hr (by rfl) hO C8.pass0 (pa_cons (pe_ix ix_list (pv 0) pe_int (fun _ _ => rfl)) (pa_cons (pe_ix ix_list (pv 0) pe_int (fun _ _ => rfl)) (pa_cons (pe_ix ix_list (pv 0) pe_int (fun _ _ => rfl)) pa_nil)))))) pss_nil)
    (pss_cons (ps_if (pt_cmpR op_eq (pe_callB call_len_seq (by rfl) B.len PySem.boot_len (pa_cons (pv 0) pa_nil)) pe_int (nomark _)) (pss_one (ps_ret (StX.pe_makeR (E := C8.E0) M F hr (by rfl) hO C8.pass0 (pa_cons (pe_ix ix_list (pv 0) pe_int (fun _ _ => rfl)) (pa_cons (pe_ix ix_list (pv 0) pe_int (fun _ _ => rfl)) (pa_cons (pe_ix ix_list (pv 0) pe_int (fun _ _ => rfl)) (pa_cons (pe_ix ix_list (pv 0) pe_int (fun _ _ => rfl)) pa_nil))))))) pss_nil)
    pss_never)))), ?_⟩
  have hi := N.hi
  have lo := N.lo
  rcases line with _ | ⟨z1, _ | ⟨z2, _ | ⟨z3, _ | ⟨z4, _ | ⟨z5, r⟩⟩⟩⟩⟩
  · exact absurd lo (by decide)
  · refine q_not (et_len (ev_var rfl) hp rfl) fun H1 e1 => ?_
    refine q_when (et_len (ev_var rfl) (e1 _ _ hp) rfl) (fun _ H2 e2 => ?_) (fun h => by cases h)
    have e := e1.trans e2
    exact ord_make (line := [z1]) (ea_cons (ev_at (i := 0) (ev_var rfl) (e _ _ hp) rfl) ea_nil) N fun x H' e' R => k x H' (e.trans e') R
  · refine q_not (et_len (ev_var rfl) hp rfl) fun H1 e1 => ?_
    refine q_not (et_len (ev_var rfl) (e1 _ _ hp) rfl) fun H2 e2 => ?_
    have e := e1.trans e2
    refine q_when (et_len (ev_var rfl) (e _ _ hp) rfl) (fun _ H3 e3 => ?_) (fun h => by cases h)
    have e := e.trans e3
    exact ord_make (line := [z1, z2]) (ea_cons (ev_at (i := 0) (ev_var rfl) (e _ _ hp) rfl) (ea_cons (ev_at (i := 1) (ev_var rfl) (e _ _ hp) rfl) ea_nil)) N fun x H' e' R => k x H' (e.trans e') R
  · refine q_not (et_len (ev_var rfl) hp rfl) fun H1 e1 => ?_
    refine q_not (et_len (ev_var rfl) (e1 _ _ hp) rfl) fun H2 e2 => ?_
    have e := e1.trans e2
    refine q_not (et_len (ev_var rfl) (e _ _ hp) rfl) fun H3 e3 => ?_
    have e := e.trans e3
    refine q_when (et_len (ev_var rfl) (e _ _ hp) rfl) (fun _ H4 e4 => ?_) (fun h => by cases h)
    have e := e.trans e4
    exact ord_make (line := [z1, z2, z3]) (ea_cons (ev_at (i := 0) (ev_var rfl) (e _ _ hp) rfl) (ea_cons (ev_at (i := 1) (ev_var rfl) (e _ _ hp) rfl) (ea_cons (ev_at (i := 2) (ev_var rfl) (e _ _ hp) rfl) ea_nil))) N fun x H' e' R => k x H' (e.trans e') R
  · refine q_not (et_len (ev_var rfl) hp rfl) fun H1 e1 => ?_
    refine q_not (et_len (ev_var rfl) (e1 _ _ hp) rfl) fun H2 e2 => ?_
    have e := e1.trans e2
    refine q_not (et_len (ev_var rfl) (e _ _ hp) rfl) fun H3 e3 => ?_
    have e := e.trans e3
    refine q_not (et_len (ev_var rfl) (e _ _ hp) rfl) fun H4 e4 => ?_
    have e := e.trans e4
    refine q_when (et_len (ev_var rfl) (e _ _ hp) rfl) (fun _ H5 e5 => ?_) (fun h => by cases h)
    have e := e.trans e5
    exact ord_make (line := [z1, z2, z3, z4]) (ea_cons (ev_at (i := 0) (ev_var rfl) (e _ _ hp) rfl) (ea_cons (ev_at (i := 1) (ev_var rfl) (e _ _ hp) rfl) (ea_cons (ev_at (i := 2) (ev_var rfl) (e _ _ hp) rfl) (ea_cons (ev_at (i := 3) (ev_var rfl) (e _ _ hp) rfl) ea_nil)))) N fun x H' e' R => k x H' (e.trans e') R
  · exact absurd hi (by rw [List.length_cons, List.length_cons, List.length_cons, List.length_cons, List.length_cons]; omega)
end

/-! ### lists of lines in the heap -/
abbrev Qs := List (Addr × List Str)
def LinesAt (H : Hp) (p : Addr) (qs : Qs) : Prop := H p = some (.lst (qs.map fun q => V.ref q.1)) ∧ ∀ q ∈ qs, H q.1 = some (.lst (q.2.map V.str))
theorem LinesAt.ex {H H' : Hp} {p : Addr} {qs : Qs} (h : LinesAt H p qs) (e : Ex H H') : LinesAt H' p qs := ⟨e _ _ h.1, fun q hq => e _ _ (h.2 q hq)⟩
theorem cut_take {l : List Str} {k : Nat} : cutV (l.map V.str) none (some (k : Int)) = (l.take k).map V.str := by
  unfold cutV
  rw [HT.sIx_none, HT.sIx_nat, List.drop_zero, Nat.sub_zero, List.map_take]
  rcases Nat.le_total k (l.map V.str).length with h | h
  · rw [Nat.min_eq_left h]
  · rw [Nat.min_eq_right h, List.take_of_length_le (Nat.le_refl _), List.take_of_length_le h]
theorem cut_drop {l : List Str} {k : Nat} : cutV (l.map V.str) (some (k : Int)) none = (l.drop k).map V.str := by
  unfold cutV
  rw [HT.sIx_none, HT.sIx_nat, List.map_drop]
  rcases Nat.le_total k (l.map V.str).length with h | h
  · rw [Nat.min_eq_left h]
    exact List.take_of_length_le (by rw [List.length_drop]; exact Nat.le_refl _)
  · rw [Nat.min_eq_right h, Nat.sub_self, List.take_zero, List.drop_eq_nil_of_le h]
theorem more_app (t : Str) (a b : List (List Str)) : moreL t (a ++ b) = moreL t a ++ moreL t b := by
  unfold moreL
  rw [List.map_append, List.flatten_append]
theorem more_one (t l) : moreL t [l] = putIn t l := by
  unfold moreL
  show putIn t l ++ [] = _
  rw [List.append_nil]
theorem lines_snoc (ns : List Str) (t : Str) : linesOf (ns ++ [t]) = moreL t (linesOf ns) := by
  unfold linesOf
  rw [List.foldl_append]
  rfl
theorem put_len (t : Str) (l : List Str) : (putIn t l).length = l.length + 1 := by
  unfold putIn
  rw [List.length_map, List.length_range]
theorem put_at {t : Str} {l : List Str} {k : Nat} (h : k < (putIn t l).length) : (putIn t l)[k] = l.take k ++ [t] ++ l.drop k := by
  simp [putIn]
theorem more_len {t : Str} {ls : List (List Str)} {n : Nat} (h : ∀ l ∈ ls, l.length ≤ n) : (moreL t ls).length ≤ ls.length * (n + 1) := by
  unfold moreL
  rw [List.length_flatten, List.map_map]
  exact sum_le (f := fun l => (putIn t l).length) fun l hl => by rw [put_len]; exact Nat.succ_le_succ (h l hl)
theorem line_len {ns l : List Str} (h : l ∈ linesOf ns) : l.length = ns.length := ((all_lines ns).perm l h).length_eq
theorem lines_len {ns : List Str} (h : ns.length ≤ 4) : ∀ i, (linesOf (ns.take i)).length ≤ 5 ^ (min i ns.length)
  | 0 => by rw [List.take_zero, Nat.zero_min]; decide
  | i + 1 => by
    have ih := lines_len h i
    rcases Nat.lt_or_ge i ns.length with hi | hi
    · rw [List.take_succ_eq_append_getElem hi, lines_snoc]
      have q := more_len (t := ns[i]) (ls := linesOf (ns.take i)) (n := 4) fun l hl => by
        rw [line_len hl, List.length_take]
        omega
      have e1 : min i ns.length = i := by omega
      have e2 : min (i + 1) ns.length = i + 1 := by omega
      rw [e1] at ih
      rw [e2, Nat.pow_succ]
      exact Nat.le_trans q (Nat.mul_le_mul_right 5 ih)
    · rw [List.take_of_length_le (by omega)]
      rw [List.take_of_length_le hi] at ih
      have e1 : min i ns.length = ns.length := by omega
      have e2 : min (i + 1) ns.length = ns.length := by omega
      rw [e1] at ih
      rw [e2]
      exact ih
theorem lines_few {ns : List Str} (h : ns.length ≤ 4) (i : Nat) : (linesOf (ns.take i)).length ≤ 625 := by
  refine Nat.le_trans (lines_len h i) ?_
  have e : (625 : Nat) = 5 ^ 4 := rfl
  rw [e]
  exact Nat.pow_le_pow_right (by decide) (by omega)
def spLines : Sp := fun vs H Q _ => ∃ (p : Addr) (ns : List Str), vs = [.ref p] ∧ H p = some (.lst (ns.map V.str)) ∧ ns.length ≤ 4 ∧ ∀ r H' qs, Ex H H' → LinesAt H' r qs → qs.map (·.2) = linesOf ns → Q (.ref r) H'
abbrev nmLi : List Str := ["_law_names_here", "_law_found", "_law_title", "_law_more", "_law_line", "_law_k"]
theorem scLi : FnScope nmLi ["_law_names_here"] (C8.fnScope sLines) := C8.fnScope_by (by decide +kernel)
/-- the list at m is being filled -/
def MoreAt (H : Hp) (m : Addr) (ms : Qs) : Prop := H m = some (.lst (ms.map fun q => V.ref q.1)) ∧ ∀ q ∈ ms, q.1 ≠ m ∧ H q.1 = some (.lst (q.2.map V.str))
theorem MoreAt.ex {H H' : Hp} {p : Addr} {qs : Qs} (h : MoreAt H p qs) (e : Ex H H') : MoreAt H' p qs := ⟨e _ _ h.1, fun q hq => ⟨(h.2 q hq).1, e _ _ (h.2 q hq).2⟩⟩
theorem q_asg1 {σ : L2.St} {H : Hp} {te : TE} {tz : TS} {D : Ends} {i : Nat} {zs : List V} (h : EvL te σ H zs) (k : ∀ r l H', Ex H H' → H' r = some (.lst [.ref l]) → H' l = some (.lst zs) → tz D (σ.set i (some (.ref r))) H') : tSeq (tAsg (tLst (tCons te tNil)) (gName i)) tz D σ H :=
  h H (Ex.refl _) _ fun l H1 n1 e1 g1 => ⟨by show 1 ≤ sizeLine; decide, fun r hr => k r l _ (e1.trans (Ex.new hr)) upd_same ((Ex.new hr) _ _ g1)⟩
section
variable {P : Program} {w : World} {K : PySem.W.Frag} {mg : Str → Option Value} {base : Heap}
theorem ok_lines {f : Addr} {fd : FuncData} (B : Bi mg) (D : C8.Def K mg "_law_lines" sLines f fd) (b : Binds K fd ["_law_names_here"] []) : C8.Cal P w K mg base 1 "_law_lines" spLines [] := by
  refine C8.cal0 D b .nil scLi (fun vs H Q E h => ?_) (fun cdv A outer s0 H vs Q E hr h => ?_)
  · obtain ⟨p, ns, rfl, _⟩ := h
    rfl
  obtain ⟨p, ns, rfl, hp, few, k⟩ := h
  refine ⟨_, pss_cons (ps_set (i := 1) scLi.nd rfl (Or.inl rfl) (pe_lst (pa_cons (pe_lst pa_nil) pa_nil)))
    (pss_cons (ps_for PassesOwn.never rfl (pi_list (pv 0)) (pg_name (i := 2) scLi.nd rfl (Or.inl rfl))
      (pss_cons (ps_set (i := 3) scLi.nd rfl (Or.inl rfl) (pe_lst pa_nil))
      (pss_cons (ps_for PassesOwn.never rfl (pi_list (pv 1)) (pg_name (i := 4) scLi.nd rfl (Or.inl rfl))
        (pss_one (ps_for PassesOwn.never rfl (pi_range1 (by rfl) B.range (pa_cons (pe_op op_add (pe_callB call_len_seq (by rfl) B.len PySem.boot_len (pa_cons (pv 4) pa_nil)) pe_int) pa_nil)) (pg_name (i := 5) scLi.nd rfl (Or.inl rfl))
          (pss_one (ps_expr (pe_bm PySem.F.plainAttrs_list PySem.F.slot_list_append PySem.F.type_list_append mt_append (pv 3) (pa_cons (pe_op op_cat (pe_op op_cat (pe_slice sl_list (pv 4) po_none (po_some (pv 5))) (pe_lst (pa_cons (pv 2) pa_nil))) (pe_slice sl_list (pv 4) (po_some (pv 5)) po_none)) pa_nil)))))))
      (pss_one (ps_set (i := 1) scLi.nd rfl (Or.inl rfl) (pe_callTy call_list_of (by rfl) B.list (by decide +kernel) (pa_cons (pv 3) pa_nil)))))))
    (pss_one (ps_ret (pv 1)))), ?_⟩
  refine q_asg1 (el_lst ea_nil (Nat.zero_le _)) fun r0 l0 H0 e0 hr0 hl0 => ?_
  refine q_forL (ev_var rfl) (sq_of (e0 _ _ hp)) (fun i σ H' => Ex H H' ∧ ∃ fp qs v2 v3 v4 v5, σ = [some (.ref p), some (.ref fp), v2, v3, v4, v5] ∧ LinesAt H' fp qs ∧ qs.map (·.2) = linesOf (ns.take i))
    (fun H1 e1 => ⟨e0.trans e1, r0, [(l0, [])], none, none, none, none, rfl, ⟨e1 _ _ hr0, fun q hq => by rw [List.mem_singleton.mp hq]; exact e1 _ _ hl0⟩, rfl⟩) (fun i σ H' _ h => sq_of (h.1 _ _ hp)) ?_ ?_
  · rintro i x σ H1 hx ⟨e1, fp, qs, v2, v3, v4, v5, rfl, LA, hq⟩
    rw [List.getElem?_map] at hx
    obtain ⟨t, ht, rfl⟩ := Option.map_eq_some_iff.mp hx
    obtain ⟨hi, et⟩ := List.getElem?_eq_some_iff.mp ht
    have hlen : ∀ q ∈ qs, q.2.length ≤ 4 := fun q hq' => by
      have : q.2 ∈ linesOf (ns.take i) := by rw [← hq]; exact List.mem_map_of_mem hq'
      rw [line_len this, List.length_take]
      omega
    have hfew : qs.length ≤ 625 := by
      have := lines_few few i
      rw [← hq, List.length_map] at this
      exact this
    refine q_asgL (el_lst ea_nil (Nat.zero_le _)) fun m H2 nm e2 hm => ?_
    -- the lines so far
    refine q_forL (xs := qs.map fun q => V.ref q.1) (ev_var rfl) (sq_of (e2 _ _ LA.1)) (fun j σ H' => Ex H1 H' ∧ ∃ ms v4 v5, σ = [some (.ref p), some (.ref fp), some (.str t), some (.ref m), v4, v5] ∧ MoreAt H' m ms ∧ ms.map (·.2) = moreL t ((qs.take j).map (·.2)))
      (fun H3 e3 => ⟨e2.trans e3, [], v4, v5, rfl, ⟨e3 _ _ hm, fun q hq => by cases hq⟩, rfl⟩) (fun j σ H' _ h => sq_of (h.1 _ _ LA.1)) ?_ ?_
    · rintro j x σ H3 hx ⟨e3, ms, v4, v5, rfl, MA, hms⟩
      rw [List.getElem?_map] at hx
      obtain ⟨q, hqj, rfl⟩ := Option.map_eq_some_iff.mp hx
      obtain ⟨hj, eq⟩ := List.getElem?_eq_some_iff.mp hqj
      have hqm : q ∈ qs := List.mem_of_getElem? hqj
      have hql := LA.2 q hqm
      have l4 := hlen q hqm
      have msl : ms.length ≤ j * 5 := by
        have := more_len (t := t) (ls := (qs.take j).map (·.2)) (n := 4) fun l hl => by
          obtain ⟨q', hq', rfl⟩ := List.mem_map.mp hl
          exact hlen q' (List.mem_of_mem_take hq')
        rw [← hms, List.length_map, List.length_map, List.length_take] at this
        omega
      refine s_forR1 (ea_cons (ev_op (ev_is (ev_lenV (ev_var rfl) (.inl (sq_of (e3 _ _ hql)))) (by rw [List.length_map])) ev_c rv_I0) ea_nil) ⟨by omega, by omega⟩
        (fun k σ H' => Ex H1 H' ∧ ∃ ms v5, σ = [some (.ref p), some (.ref fp), some (.str t), some (.ref m), some (.ref q.1), v5] ∧ MoreAt H' m ms ∧ ms.map (·.2) = moreL t ((qs.take j).map (·.2)) ++ (putIn t q.2).take k)
        (fun H4 e4 => ⟨e3.trans e4, ms, v5, rfl, MA.ex e4, by rw [List.take_zero, List.append_nil]; exact hms⟩) ?_ (fun σ H' h => ?_)
      · rintro kk σ H4 hkk ⟨e4, ms', v5, rfl, MA4, hms4⟩
        have hk' : kk < (putIn t q.2).length := by rw [put_len]; omega
        have ml4 : ms'.length ≤ j * 5 + 5 := by
          have q1 := congrArg List.length hms4
          rw [List.length_map, List.length_append, List.length_take, put_len, ← hms, List.length_map] at q1
          omega
        have q4 := e4 _ _ hql
        refine s_appL (ys := (q.2.take kk ++ [t] ++ q.2.drop kk).map V.str) MA4.1 (ev_var rfl) (by
          rw [List.map_append, List.map_append]
          exact el_cat (el_cat (by rw [← cut_take]; exact el_sl (ev_var rfl) eo_none (eo_some (ev_var rfl)) (sq_of q4)) (el_lst (ea_cons (ev_var rfl) ea_nil) (by show 1 ≤ 100000; decide)) (by rw [List.length_map, List.length_take]; show _ + 1 ≤ _; omega))
            (by rw [← cut_drop]; exact el_sl (ev_var rfl) (eo_some (ev_var rfl)) eo_none (sq_of q4)) (by rw [List.length_append, List.length_map, List.length_map, List.length_map, List.length_take, List.length_drop]; show _ + 1 + _ ≤ _; omega)) (by rw [List.length_map]; omega) fun np H5 nnp e5 hnp => ?_
        have hnm : np ≠ m := fun e => by
          rw [e, MA4.1] at nnp
          cases nnp
        have hm1 : H1 m = none := nm
        refine ⟨Ex.mut (e4.trans e5) hm1, ms' ++ [(np, q.2.take kk ++ [t] ++ q.2.drop kk)], _, rfl, ⟨?_, fun q' hq' => ?_⟩, ?_⟩
        · rw [upd_same, List.map_append]
          rfl
        · rcases List.mem_append.mp hq' with h | h
          · obtain ⟨a1, a2⟩ := MA4.2 q' h
            exact ⟨a1, by rw [upd_ne a1]; exact e5 _ _ a2⟩
          · rw [List.mem_singleton.mp h]
            exact ⟨hnm, by rw [upd_ne hnm]; exact hnp⟩
        · rw [List.map_append, hms4, List.append_assoc, List.take_succ_eq_append_getElem hk']
          congr 2
          exact congrArg (fun x => [x]) (put_at hk').symm
      · obtain ⟨e4, ms', v5, rfl, MA4, hms4⟩ := h
        refine ⟨e4, ms', _, _, rfl, MA4, ?_⟩
        have full : (putIn t q.2).take ((q.2.length : Int) + 1).toNat = putIn t q.2 := List.take_of_length_le (by rw [put_len]; omega)
        rw [hms4, full, List.take_succ_eq_append_getElem hj, List.map_append, more_app, eq]
        show _ = _ ++ moreL t [q.2]
        rw [more_one]
    · rintro σ H3 ⟨e3, ms, v4, v5, rfl, MA, hms⟩
      rw [List.length_map, List.take_length] at hms
      refine s_asgL (el_listV (ev_var rfl) (.inl (sq_of MA.1))) fun fp2 H4 n4 e4 h4 => ?_
      refine ⟨e1.trans (e3.trans e4), fp2, ms, _, _, _, _, rfl, ⟨h4, fun q hq' => e4 _ _ (MA.2 q hq').2⟩, ?_⟩
      rw [hms, hq, List.take_succ_eq_append_getElem hi, lines_snoc, et]
  · rintro σ H1 ⟨e1, fp, qs, v2, v3, v4, v5, rfl, LA, hq⟩
    rw [List.length_map, List.take_length] at hq
    exact s_ret (ev_var rfl) fun H2 e2 => k fp H2 qs (e1.trans e2) (LA.ex e2) hq
end
end K12

/-! K12L: _law_implied. -/
namespace K12
open PySem PySem.Spec PyProof.Rows L2 Evl

theorem bears_row {ns line : List Str} {a : Sides} (ia : In ns a) (p : line.Perm ns) : bearsL line (rowOf a) = bearsL line a :=
  (bears_congr (fun x hx => p.mem_iff.mpr (ia.b x hx)) (fun x => mem_srt.symm) (fun x => mem_srt.symm)).symm
theorem due_eq {ns : List Str} {a b : Sides} (ia : In ns a) (ib : In ns b) {qs : Qs} (hq : qs.map (·.2) = linesOf ns) : decide (qs.filter (fun q => bearsL q.2 a && !bearsL q.2 b) = []) = impl (rowOf a) (rowOf b) := by
  have L := all_lines ns
  rw [impl_due L ia.wf.row ib.wf.row ia.row.g ia.row.b ib.row.g ib.row.b, Bool.eq_iff_iff, decide_eq_true_eq, beq_iff_eq, List.filter_eq_nil_iff, List.filter_eq_nil_iff, ← hq]
  have same : ∀ q ∈ qs, (bearsL q.2 (rowOf a) && !bearsL q.2 (rowOf b)) = (bearsL q.2 a && !bearsL q.2 b) := fun q hq' => by
    have p := L.perm q.2 (by rw [← hq]; exact List.mem_map_of_mem hq')
    rw [bears_row ia p, bears_row ib p]
  constructor
  · intro h l hl
    obtain ⟨q, hq', rfl⟩ := List.mem_map.mp hl
    rw [same q hq']
    exact h q hq'
  · intro h q hq'
    rw [← same q hq']
    exact h q.2 (List.mem_map_of_mem hq')
theorem dp_lines {K : PySem.W.Frag} {H : Hp} : ∀ {qs : Qs}, (∀ q ∈ qs, H q.1 = some (.lst (q.2.map V.str))) → DpAll K H (qs.map fun q => V.ref q.1) (qs.map fun q => PyData.list (q.2.map PyData.str))
  | [], _ => .nil
  | q :: r, h => .cons (.lst (sq_of (h q List.mem_cons_self)) (dp_strs q.2)) (dp_lines fun q' hq' => h q' (List.mem_cons_of_mem _ hq'))
theorem shaped_lines {qs : Qs} (h : ∀ q ∈ qs, ∀ x ∈ q.2, PyData.strOk x = true) : SeqAt.shaped (.list (qs.map fun q => PyData.list (q.2.map PyData.str))) = true := by
  have lay : ∀ {qs : Qs}, (∀ q ∈ qs, ∀ x ∈ q.2, PyData.strOk x = true) → PyData.canLayAll0 (qs.map fun q => PyData.list (q.2.map PyData.str)) = true := by
    intro qs
    induction qs with
    | nil => intro _; rfl
    | cons q r ih =>
      intro h
      show (PyData.canLayAll0 (q.2.map PyData.str) && PyData.canLayAll0 (r.map fun q => PyData.list (q.2.map PyData.str))) = true
      rw [lay_strs (h q List.mem_cons_self), ih fun q' hq' => h q' (List.mem_cons_of_mem _ hq')]
      rfl
  have dep : ∀ qs : Qs, PyData.depthAll (qs.map fun q => PyData.list (q.2.map PyData.str)) ≤ 1 := by
    intro qs
    induction qs with
    | nil => exact Nat.zero_le _
    | cons q r ih =>
      show max (PyData.depthAll (q.2.map PyData.str) + 1) (PyData.depthAll (r.map fun q => PyData.list (q.2.map PyData.str))) ≤ 1
      rw [depth_strs]
      exact Nat.max_le.mpr ⟨Nat.le_refl _, ih⟩
  show (PyData.canLayAll0 (qs.map fun q => PyData.list (q.2.map PyData.str)) && decide (PyData.depthAll (qs.map fun q => PyData.list (q.2.map PyData.str)) + 1 ≤ 64)) = true
  rw [lay h, decide_eq_true (by have := dep qs; omega)]
  rfl
section
variable {K : PySem.W.Frag} {σ : L2.St} {H : Hp} {ta tb te to : TE} {C l : Addr} {s t : Sides} {E : XK} {line : List Str}
/-- [..] == [] of a new list of lines -/
theorem ev_eqLL0 {qs : Qs} (h : EvL te σ H (qs.map fun q => V.ref q.1)) (hl : ∀ q ∈ qs, H q.1 = some (.lst (q.2.map V.str))) (ok : ∀ q ∈ qs, ∀ x ∈ q.2, PyData.strOk x = true) : Ev (tOp (rEqD K) te (tLst tNil)) σ H (.bl (decide (qs = []))) :=
  ev_opLL (ys := []) h (el_lst ea_nil (Nat.zero_le _)) fun q q2 H1 hq hq2 e => rv_val fun H2 e2 Q k => ⟨.list (qs.map fun q => PyData.list (q.2.map PyData.str)), .list [], .lst (sq_of (e2 _ _ hq)) (dp_lines fun q' hq' => e2 _ _ (e _ _ (hl q' hq'))), .lst (sq_of (e2 _ _ hq2)) .nil, shaped_lines ok, rfl, by
    rw [eqv_nilL, map_nil_iff]
    exact k⟩
theorem ev_lbears (h1 : Ev ta σ H (.ref l)) (hl : H l = some (.lst (line.map V.str))) (h2 : EvSide tb σ H s) (gs : GoodS s) (i1 : ∀ x ∈ s.1, x ∈ line) (i2 : ∀ x ∈ s.2, x ∈ line) (f1 : s.1.length ≤ 8) (f2 : s.2.length ≤ 8) :
    Ev (tCall spLBears [] E (tCons ta (tCons tb tNil))) σ H (.bl (bearsL line s)) := fun H1 e Q q =>
  h1 H1 e _ fun H2 e2 => h2 H2 (e.trans e2) _ fun p H3 e3 S => ⟨l, p, line, s, rfl, e3 _ _ (e2 _ _ (e _ _ hl)), S, gs, i1, i2, f1, f2, fun H4 e4 => q H4 ((e2.trans e3).trans e4)⟩
theorem ev_implies (h1 : EvRow C to σ H s) (h2 : EvRow C ta σ H t) (g1 : GoodS s) (g2 : GoodS t) (f1 : s.1.length ≤ 8) (f2 : t.2.length ≤ 8) : Ev (tMeth C "implies" (spImplies C) [] E to (tCons ta tNil)) σ H (.bl (impl s t)) := fun H1 e Q q =>
  h1 H1 e _ fun r H2 e2 R => by
    obtain ⟨dx, tp, tc, tn, x1, _⟩ := id R
    exact ⟨r, dx, _, rfl, x1, rowF_no _ _ _ (by decide +kernel) (by decide +kernel) (by decide +kernel), h2 H2 (e.trans e2) _ fun r2 H3 e3 R2 => ⟨r, r2, s, t, rfl, R.ex e3, R2, g1, g2, f1, f2, fun H4 e4 => q H4 ((e2.trans e3).trans e4)⟩⟩
theorem et_same {n : Nat} {x y : V} (h1 : Ev ta σ H x) (h2 : Ev tb σ H y) (tw : Tw H n x y) : EvT (tB (tCall (spSame n) [] E (tCons ta (tCons tb tNil)))) σ H true :=
  et_B (ev_callV (ea_cons h1 (ea_cons h2 ea_nil)) fun H1 e1 Q' q => ⟨x, y, rfl, tw.ex e1, q⟩)
end
def spImplied (C : Addr) : Sp := fun vs H Q _ => ∃ (ln lr lm : Addr) (ns : List Str) (ss : List Sides), vs = [.ref ln, .ref lr, .ref lm] ∧ H ln = some (.lst (ns.map V.str)) ∧ Names ns ∧ ss.length = 3 ∧ (∀ s ∈ ss, In ns s) ∧ RowsAt H lr ss ∧ MadeAt C H lm ss ∧ RV1 (.bl true) H Q
abbrev nmIm : List Str := ["_law_names_here", "_law_rows", "_law_made", "_law_lines_here", "_law_x", "_law_y", "_law_due", "_law_both", "_law_line"]
theorem scIm : FnScope nmIm ["_law_names_here", "_law_rows", "_law_made"] (C8.fnScope sImplied) := C8.fnScope_by (by decide +kernel)
section
variable {P : Program} {w : World} {K : PySem.W.Frag} {mg : Str → Option Value} {base : Heap}
theorem ok_implied {C f : Addr} {fd : FuncData} (B : Bi mg) (O : OrAt P w K mg base C) (Gl : C8.Cal P w K mg base 1 "_law_lines" spLines []) (Gj : C8.Cal P w K mg base 1 "_law_join" spJoin []) (Gb : C8.Cal P w K mg base 1 "_law_bears" spLBears []) (Gs : C8.Cal P w K mg base 2 "_law_same" (spSame 1) [])
    (Gi : C8.Met P w K mg base 3 C "implies" (spImplies C) []) (D : C8.Def K mg "_law_implied" sImplied f fd) (b : Binds K fd ["_law_names_here", "_law_rows", "_law_made"] []) : C8.Cal P w K mg base 7 "_law_implied" (spImplied C) [] := by
  obtain ⟨fo, fdo, Go, bo, sf, hs, hf⟩ := O.ex
  refine C8.cal0 D b .nil scIm (fun vs H Q E h => ?_) (fun cdv A outer s0 H vs Q E hr h => ?_)
  · obtain ⟨ln, lr, lm, ns, ss, rfl, _⟩ := h
    rfl
  obtain ⟨ln, lr, lm, ns, ss, rfl, hn, N, l3, hin, RA, MA, k⟩ := h
  refine ⟨_, pss_cons (ps_set (i := 3) scIm.nd rfl (Or.inl rfl) (C8.pe_c Gl hr (by decide) (by rfl) (pa_cons (pv 0) pa_nil)))
    (pss_cons (ps_for PassesOwn.never rfl (pi_range1 (by rfl) B.range (pa_cons pe_int pa_nil)) (pg_name (i := 4) scIm.nd rfl (Or.inr rfl))
      (pss_one (ps_for PassesOwn.never rfl (pi_range1 (by rfl) B.range (pa_cons pe_int pa_nil)) (pg_name (i := 5) scIm.nd rfl (Or.inr rfl))
        (pss_cons (ps_set (i := 6) scIm.nd rfl (Or.inl rfl) (pe_cmpR (op_eqD hr.units)
          (pe_lc (own := [("_law_line", 8)]) (g := gName 8) (tt := tAnd (tB (tCall spLBears [] C8.E0 (tCons (tVar 8) (tCons (tOp (rIxL K) (tVar 1) (tVar 4)) tNil)))) (tNot (tB (tCall spLBears [] C8.E0 (tCons (tVar 8) (tCons (tOp (rIxL K) (tVar 1) (tVar 5)) tNil)))))) (te := tVar 8) rfl scIm.nd (pi_list (pv 3)) (blkOk_by (N := nmIm) (sc := C8.fnScope sImplied) (by decide +kernel))
            (fun _ _ _ _ _ => pg_name (i := 8) scIm.nd rfl (Or.inl rfl)) (fun _ _ _ _ _ => pts_one (PW.pt (pw_and (pt_val (C8.pe_c Gb hr (by decide) (by rfl) (pa_cons (pv 8) (pa_cons (pe_ix ix_list (pv 1) (pv 4) (fun _ _ => rfl)) pa_nil)))) (pw_and1 (pt_not (pt_val (C8.pe_c Gb hr (by decide) (by rfl) (pa_cons (pv 8) (pa_cons (pe_ix ix_list (pv 1) (pv 5) (fun _ _ => rfl)) pa_nil))))))))) (fun _ _ _ _ _ => pv 8))
          (pe_lst pa_nil) (nomark _)))
        (pss_cons (ps_if (pt_not (pt_val (C8.pe_c Gs hr (by decide) (by rfl) (pa_cons (C8.pe_mt (pl := _) Gi hr (by decide) (pe_ix ix_list (pv 2) (pv 4) (fun _ _ => rfl)) (pa_cons (pe_ix ix_list (pv 2) (pv 5) (fun _ _ => rfl)) pa_nil)) (pa_cons (pv 6) pa_nil))))) pss_never pss_nil)
        (pss_cons (ps_set (i := 7) scIm.nd rfl (Or.inr rfl) (C8.pe_c Gj hr (by decide) (by rfl) (pa_cons (pe_ix ix_list (pv 1) (pv 4) (fun _ _ => rfl)) (pa_cons (pe_ix ix_list (pv 1) (pv 5) (fun _ _ => rfl)) pa_nil))))
        (pss_cons (ps_set (i := 6) scIm.nd rfl (Or.inl rfl) (pe_cmpR (op_eqD hr.units)
          (pe_lc (own := [("_law_line", 8)]) (g := gName 8) (tt := tAnd (tB (tCall spLBears [] C8.E0 (tCons (tVar 8) (tCons (tVar 7) tNil)))) (tNot (tB (tCall spLBears [] C8.E0 (tCons (tVar 8) (tCons (tOp (rIxL K) (tVar 1) (tVar 5)) tNil)))))) (te := tVar 8) rfl scIm.nd (pi_list (pv 3)) (blkOk_by (N := nmIm) (sc := C8.fnScope sImplied) (by decide +kernel))
            (fun _ _ _ _ _ => pg_name (i := 8) scIm.nd rfl (Or.inl rfl)) (fun _ _ _ _ _ => pts_one (PW.pt (pw_and (pt_val (C8.pe_c Gb hr (by decide) (by rfl) (pa_cons (pv 8) (pa_cons (pv 7) pa_nil)))) (pw_and1 (pt_not (pt_val (C8.pe_c Gb hr (by decide) (by rfl) (pa_cons (pv 8) (pa_cons (pe_ix ix_list (pv 1) (pv 5) (fun _ _ => rfl)) pa_nil))))))))) (fun _ _ _ _ _ => pv 8))
          (pe_lst pa_nil) (nomark _)))
        (pss_one (ps_if (pt_not (pt_val (C8.pe_c Gs hr (by decide) (by rfl) (pa_cons (C8.pe_mt (pl := _) Gi hr (by decide) (pe_op (op_bin (E := C8.E0) Go hr bo C8.pass0 sf hs hf) (pe_ix ix_list (pv 2) (pv 4) (fun _ _ => rfl)) (pe_ix ix_list (pv 2) (pv 5) (fun _ _ => rfl))) (pa_cons (pe_ix ix_list (pv 2) (pv 5) (fun _ _ => rfl)) pa_nil)) (pa_cons (pv 6) pa_nil))))) pss_never pss_nil)))))))))
    (pss_one (ps_ret pe_bl))), ?_⟩
  have at3 : ∀ i : Nat, (i : Int) < 3 → ∃ s, ss[i]? = some s ∧ In ns s := fun i hi => by
    have hi' : i < ss.length := by omega
    exact ⟨ss[i], List.getElem?_eq_getElem hi', hin _ (List.getElem_mem hi')⟩
  refine ⟨_, rfl, ln, ns, rfl, hn, N.hi, fun lp H0 qs e0 LA hq => ?_⟩
  have perm : ∀ q ∈ qs, q.2.Perm ns := fun q hq' => (all_lines ns).perm q.2 (by rw [← hq]; exact List.mem_map_of_mem hq')
  have ql : qs.length ≤ 625 := by
    have h := lines_few N.hi ns.length
    rw [List.take_length, ← hq, List.length_map] at h
    exact h
  have okq : ∀ (p : Addr × List Str → Bool), ∀ q ∈ qs.filter p, ∀ x ∈ q.2, PyData.strOk x = true := fun p q hq' x hx => strOk_name (N.gn x ((perm q (List.mem_filter.mp hq').1).mem_iff.mp hx))
  refine q_forR1 (ea_cons ev_c ea_nil) ⟨by decide, by decide⟩ (fun i σ H' => Ex H0 H' ∧ ∃ v4 v5 v6 v7, σ = [some (.ref ln), some (.ref lr), some (.ref lm), some (.ref lp), v4, v5, v6, v7, none]) (fun H1 e1 => ⟨e1, none, none, none, none, rfl⟩) ?_ ?_
  · rintro x σ H1 hx ⟨e1, v4, v5, v6, v7, rfl⟩
    obtain ⟨a, ha, ia⟩ := at3 x hx
    have la := ia.len N
    refine s_forR1 (ea_cons ev_c ea_nil) ⟨by decide, by decide⟩ (fun i σ H' => Ex H0 H' ∧ ∃ v5 v6 v7, σ = [some (.ref ln), some (.ref lr), some (.ref lm), some (.ref lp), some (.int (x : Nat)), v5, v6, v7, none]) (fun H2 e2 => ⟨e1.trans e2, v5, v6, v7, rfl⟩) ?_ (fun σ H' h => ?_)
    · rintro y σ H2 hy ⟨e2, v5, v6, v7, rfl⟩
      obtain ⟨b, hb, ib⟩ := at3 y hy
      have lb := ib.len N
      have ij := ia.join ib
      have lj := ij.len N
      have lar := ia.row.len N
      have lbr := ib.row.len N
      -- the first due
      refine q_asg (v := .bl (impl (rowOf a) (rowOf b))) (ev_is (ev_eqLL0 (qs := qs.filter fun q => bearsL q.2 a && !bearsL q.2 b) (el_compL (a := lp) (emb := fun q : Addr × List Str => V.ref q.1) (0, []) (fun q => bearsL q.2 a && !bearsL q.2 b) (fun q => V.ref q.1) (ev_var rfl) (sq_of (e2 _ _ LA.1)) (by omega) (fun _ => rfl)
        (fun q H' hq' e => ?_)) (fun q hq' => e2 _ _ (LA.2 q (List.mem_filter.mp hq').1)) (okq _)) (congrArg V.bl (due_eq ia ib hq))) fun H3 e3 => ?_
      · have RA' := RA.ex ((e0.trans e2).trans e)
        have pq := perm q hq'
        have hq1 := (e2.trans e) _ _ (LA.2 q hq')
        exact ⟨et_and (et_B (ev_lbears (ev_var rfl) hq1 (es_ix (ev_var rfl) (ev_var rfl) RA' ha) (ia.goodS N) (fun x hx => pq.mem_iff.mpr (ia.g x hx)) (fun x hx => pq.mem_iff.mpr (ia.b x hx)) (by omega) (by omega)))
          fun _ => et_not (et_B (ev_lbears (ev_var rfl) hq1 (es_ix (ev_var rfl) (ev_var rfl) RA' hb) (ib.goodS N) (fun x hx => pq.mem_iff.mpr (ib.g x hx)) (fun x hx => pq.mem_iff.mpr (ib.b x hx)) (by omega) (by omega))), fun _ => ev_var rfl⟩
      have e03 := (e0.trans e2).trans e3
      have MA3 := MA.ex e03
      refine q_not (et_notT (et_same (n := 1) (ev_implies (er_ix (ev_var rfl) (ev_var rfl) MA3 ha) (er_ix (ev_var rfl) (ev_var rfl) MA3 hb) (ia.row.goodS N) (ib.row.goodS N) (by omega) (by omega)) (ev_var rfl) (.inr (.inl ⟨_, rfl, rfl⟩)))) fun H4 e4 => ?_
      have e04 := e03.trans e4
      have RA4 := RA.ex e04
      refine es_join (es_ix (ev_var rfl) (ev_var rfl) RA4 ha) (es_ix (ev_var rfl) (ev_var rfl) RA4 hb) (by omega) (by omega) (by omega) (by omega) H4 (Ex.refl _) _ fun two H5 e5 S5 => ?_
      have e25 := (e2.trans (e3.trans e4)).trans e5
      have same : impl (rowOf (joinS a b)) (rowOf b) = impl (joinS a b) (rowOf b) := by rw [row_join]
      refine q_asg (v := .bl (impl (joinS a b) (rowOf b))) (ev_is (ev_eqLL0 (qs := qs.filter fun q => bearsL q.2 (joinS a b) && !bearsL q.2 b) (el_compL (a := lp) (emb := fun q : Addr × List Str => V.ref q.1) (0, []) (fun q => bearsL q.2 (joinS a b) && !bearsL q.2 b) (fun q => V.ref q.1) (ev_var rfl) (sq_of (e25 _ _ LA.1)) (by omega) (fun _ => rfl)
        (fun q H' hq' e => ?_)) (fun q hq' => e25 _ _ (LA.2 q (List.mem_filter.mp hq').1)) (okq _)) (congrArg V.bl ((due_eq ij ib hq).trans same))) fun H6 e6 => ?_
      · have RA' := RA.ex ((e0.trans e25).trans e)
        have pq := perm q hq'
        have hq1 := (e25.trans e) _ _ (LA.2 q hq')
        exact ⟨et_and (et_B (ev_lbears (ev_var rfl) hq1 (es_of (ev_var rfl) (S5.ex e)) (ij.goodS N) (fun x hx => pq.mem_iff.mpr (ij.g x hx)) (fun x hx => pq.mem_iff.mpr (ij.b x hx)) (by omega) (by omega)))
          fun _ => et_not (et_B (ev_lbears (ev_var rfl) hq1 (es_ix (ev_var rfl) (ev_var rfl) RA' hb) (ib.goodS N) (fun x hx => pq.mem_iff.mpr (ib.g x hx)) (fun x hx => pq.mem_iff.mpr (ib.b x hx)) (by omega) (by omega))), fun _ => ev_var rfl⟩
      have e06 := (e0.trans e25).trans e6
      have MA6 := MA.ex e06
      refine s_when (et_notT (et_same (n := 1) (ev_implies (er_is (er_or (er_ix (ev_var rfl) (ev_var rfl) MA6 ha) (er_ix (ev_var rfl) (ev_var rfl) MA6 hb) (ia.row.good N) (ib.row.good N)) (orRow_join ia.wf ib.wf)) (er_ix (ev_var rfl) (ev_var rfl) MA6 hb) (ij.goodS N) (ib.row.goodS N) (by omega) (by omega)) (ev_var rfl) (.inr (.inl ⟨_, rfl, rfl⟩)))) (fun h => by cases h) fun _ H7 e7 => ⟨(e25.trans e6).trans e7, _, _, _, rfl⟩
    · obtain ⟨e, v5, v6, v7, rfl⟩ := h
      exact ⟨e, _, _, _, _, rfl⟩
  · rintro σ H1 ⟨e1, v4, v5, v6, v7, rfl⟩
    exact s_ret ev_c fun H2 e2 => k H2 ((e0.trans e1).trans e2)
end
end K12

/-! K12N: the bag: _law_bag, _law_draw. -/
namespace K12
open PySem PySem.Spec PyProof.Rows L2 Evl

/-! ### the bag in the heap; what stands while it turns -/
def bagO (l : Addr) (i g m d : Int) : HO := .lst [.ref l, .int i, .int g, .int m, .int d]
def NB (o : HO) : Prop := ∀ l i g m d, o ≠ bagO l i g m d
def Stay (H H' : Hp) : Prop := ∀ a o, H a = some o → NB o → H' a = some o
theorem Stay.of {H H' : Hp} (e : Ex H H') : Stay H H' := fun a o h _ => e a o h
theorem Stay.trans {H H1 H2 : Hp} (a : Stay H H1) (b : Stay H1 H2) : Stay H H2 := fun x o h n => b x o (a x o h n) n
theorem Stay.ex {H H1 H2 : Hp} (a : Stay H H1) (b : Ex H1 H2) : Stay H H2 := a.trans (.of b)
theorem lst_inj {xs ys : List V} (h : HO.lst xs = HO.lst ys) : xs = ys := by injection h
theorem nb_tup (xs : List V) : NB (.tup xs) := fun l i g m d h => by cases h
theorem nb_ins (C dx : Addr) (fs : List (Str × V)) : NB (.ins C dx fs) := fun l i g m d h => by cases h
theorem nb_strs (xs : List Str) : NB (.lst (xs.map V.str)) := fun l i g m d h => by
  have q := lst_inj h
  cases xs with
  | nil => cases q
  | cons x r => injection q with q1 q2; cases q1
theorem nb_ints (xs : List Int) : NB (.lst (xs.map V.int)) := fun l i g m d h => by
  have q := lst_inj h
  cases xs with
  | nil => cases q
  | cons x r => injection q with q1 q2; cases q1
theorem nb_refs (xs : List Addr) : NB (.lst (xs.map V.ref)) := fun l i g m d h => by
  have q := lst_inj h
  cases xs with
  | nil => cases q
  | cons x r =>
    cases r with
    | nil => injection q with q1 q2; cases q2
    | cons y r => injection q with q1 q2; injection q2 with q3 q4; cases q3
def BagH (H : Hp) (b l : Addr) (i g m d : Int) (cs : List Int) : Prop := H b = some (bagO l i g m d) ∧ H l = some (.lst (cs.map V.int))
theorem BagH.ex {H H' : Hp} {b l : Addr} {i g m d : Int} {cs : List Int} (h : BagH H b l i g m d cs) (e : Ex H H') : BagH H' b l i g m d cs := ⟨e _ _ h.1, e _ _ h.2⟩
theorem BagH.put {H H1 : Hp} {b l : Addr} {i g m d i' g' m' d' : Int} {cs : List Int} (h : BagH H b l i g m d cs) (e : Ex H H1) : BagH (upd H1 b (bagO l i' g' m' d')) b l i' g' m' d' cs ∧ Stay H (upd H1 b (bagO l i' g' m' d')) := by
  have q := h.ex e
  refine ⟨⟨upd_same, ?_⟩, fun a o ha hn => ?_⟩
  · have ne : l ≠ b := ne_of q.2 q.1 (fun z => nb_ints cs _ _ _ _ _ z)
    rw [upd_ne ne]
    exact q.2
  · have ne : a ≠ b := ne_of (e _ _ ha) q.1 (hn _ _ _ _ _)
    rw [upd_ne ne]
    exact e _ _ ha
def BagAt (H : Hp) (b l : Addr) : Prop := ∃ g m d cs, ∃ n : Nat, BagH H b l (n : Int) g m d cs ∧ 0 ≤ m ∧ m < 4294967296
theorem BagAt.ex {H H' : Hp} {b l : Addr} (h : BagAt H b l) (e : Ex H H') : BagAt H' b l := by
  obtain ⟨g, m, d, cs, n, h1, h2, h3⟩ := h
  exact ⟨g, m, d, cs, n, h1.ex e, h2, h3⟩
/-- what is written elsewhere leaves the bag -/
theorem BagAt.upd {H : Hp} {b l p : Addr} {o : HO} (h : BagAt H b l) (n1 : p ≠ b) (n2 : p ≠ l) : BagAt (upd H p o) b l := by
  obtain ⟨g, m, d, cs, n, h1, h2, h3⟩ := h
  exact ⟨g, m, d, cs, n, ⟨by rw [upd_ne (Ne.symm n1)]; exact h1.1, by rw [upd_ne (Ne.symm n2)]; exact h1.2⟩, h2, h3⟩
theorem BagAt.old {H : Hp} {b l p : Addr} (h : BagAt H b l) (hp : H p = none) : p ≠ b ∧ p ≠ l := by
  obtain ⟨g, m, d, cs, n, h1, h2, h3⟩ := h
  exact ⟨fun e => (by rw [e, h1.1] at hp; cases hp), fun e => (by rw [e, h1.2] at hp; cases hp)⟩

section
variable {K : PySem.W.Frag} {σ : L2.St} {H : Hp} {te ta tb : TE}
theorem ev_int {i : Int} (h : Ev te σ H (.int i)) : Ev (tCB (fun xs H Q => (∃ i, xs = [.int i] ∧ Q (.int i) H) ∨ ∃ k, xs = [.bl k] ∧ Q (.int (if k then 1 else 0)) H) (tCons te tNil)) σ H (.int i) := fun H1 e Q q =>
  h H1 e _ fun H2 e2 => .inl ⟨i, rfl, q H2 e2⟩
theorem ev_abs {i : Int} (h : Ev te σ H (.int i)) : Ev (tCB (fun xs H Q => ∃ i, xs = [.int i] ∧ Q (.int (if i < 0 then -i else i)) H) (tCons te tNil)) σ H (.int (if i < 0 then -i else i)) := fun H1 e Q q =>
  h H1 e _ fun H2 e2 => ⟨i, rfl, q H2 e2⟩
theorem ev_add {i j : Int} (h1 : Ev ta σ H (.int i)) (h2 : Ev tb σ H (.int j)) : Ev (tOp (rI0 fun i j => .int (i + j)) ta tb) σ H (.int (i + j)) := ev_op h1 h2 rv_I0
theorem ev_mul {i j : Int} (h1 : Ev ta σ H (.int i)) (h2 : Ev tb σ H (.int j)) (c : CMul i j) : Ev (tOp (rI CMul fun i j => .int (i * j)) ta tb) σ H (.int (i * j)) := ev_op h1 h2 (rv_I c)
theorem ev_mod {i j : Int} (h1 : Ev ta σ H (.int i)) (h2 : Ev tb σ H (.int j)) (c : 0 < j) : Ev (tOp (rI (fun _ j => 0 < j) fun i j => .int (i % j)) ta tb) σ H (.int (i % j)) := ev_op h1 h2 (rv_I (C := fun _ j => 0 < j) c)
theorem ev_div {i j : Int} (h1 : Ev ta σ H (.int i)) (h2 : Ev tb σ H (.int j)) (c : CDiv i j) : Ev (tOp (rI CDiv fun i j => .int (i / j)) ta tb) σ H (.int (i / j)) := ev_op h1 h2 (rv_I c)
end
theorem cm {i j : Int} (h1 : -(2 ^ 64) < j) (h2 : j < 2 ^ 64) : CMul i j := .inr ⟨h1, h2⟩
theorem bag_at {H : Hp} {b l : Addr} {i g m d : Int} {cs : List Int} (h : BagH H b l i g m d cs) : H b = some (.lst [.ref l, .int i, .int g, .int m, .int d]) := h.1

/-! ### _law_draw -/
def spDraw : Sp := fun vs H Q _ => ∃ (b l : Addr) (k : Int), vs = [.ref b, .int k] ∧ BagAt H b l ∧ 0 < k ∧ k < 1073741824 ∧ ∀ (d : Nat) H', Stay H H' → BagAt H' b l → (d : Int) < k → Q (.int d) H'
abbrev nmDr : List Str := ["_law_bag_here", "_law_sides_here", "_law_piled", "_law_digit", "_law_seed"]
theorem scDr : FnScope nmDr ["_law_bag_here", "_law_sides_here"] (C8.fnScope sDraw) := C8.fnScope_by (by decide +kernel)
abbrev nmBg : List Str := ["_law_script", "_law_mixed_here", "_law_piled"]
theorem scBg : FnScope nmBg ["_law_script"] (C8.fnScope sBag) := C8.fnScope_by (by decide +kernel)
theorem cut_takeG {α : Type} {f : α → V} {l : List α} {k : Nat} : cutV (l.map f) none (some (k : Int)) = (l.take k).map f := by
  unfold cutV
  rw [HT.sIx_none, HT.sIx_nat, List.drop_zero, Nat.sub_zero, List.map_take]
  rcases Nat.le_total k (l.map f).length with h | h
  · rw [Nat.min_eq_left h]
  · rw [Nat.min_eq_right h, List.take_of_length_le (Nat.le_refl _), List.take_of_length_le h]
def spBag (K : PySem.W.Frag) : Sp := fun vs H Q _ => ∃ (p : Addr) (cs : List Int), vs = [.ref p] ∧ SqL K H p (cs.map V.int) ∧ ∀ b l H', Ex H H' → BagAt H' b l → Q (.ref b) H'
section
variable {P : Program} {w : World} {K : PySem.W.Frag} {mg : Str → Option Value} {base : Heap}
theorem ok_draw {f : Addr} {fd : FuncData} (B : Bi mg) (D : C8.Def K mg "_law_draw" sDraw f fd) (b : Binds K fd ["_law_bag_here", "_law_sides_here"] []) : C8.Cal P w K mg base 1 "_law_draw" spDraw [] := by
  refine C8.cal0 D b .nil scDr (fun vs H Q E h => ?_) (fun cdv A outer s0 H vs Q E hr h => ?_)
  · obtain ⟨b, l, k, rfl, _⟩ := h
    rfl
  obtain ⟨b, l, k, rfl, ⟨g, m, d, cs, n, bh, m1, m2⟩, k1, k2, kk⟩ := h
  refine ⟨_, pss_cons (ps_asg (pe_op op_add (pe_ix ix_list (pv 0) pe_int (fun _ _ => rfl)) pe_int) (pg_sub (pv 0) pe_int set_list))
    (pss_cut (ps_if (PW.pt (pw_and (pt_cmpR op_eq (pe_ix ix_list (pv 0) pe_int (fun _ _ => rfl)) pe_int (nomark _)) (pw_and1 (pt_cmpR op_lt (pe_ix ix_list (pv 0) pe_int (fun _ _ => rfl)) (pe_callB call_len_seq (by rfl) B.len PySem.boot_len (pa_cons (pe_ix ix_list (pv 0) pe_int (fun _ _ => rfl)) pa_nil)) (nomark _)))))
        (pss_cons (ps_set (i := 2) scDr.nd rfl (Or.inl rfl) (pe_callTy call_int1 (by rfl) B.int (by decide +kernel) (pa_cons (pe_ix ix_list (pe_ix ix_list (pv 0) pe_int (fun _ _ => rfl)) (pe_ix ix_list (pv 0) pe_int (fun _ _ => rfl)) (fun _ _ => rfl)) pa_nil)))
        (pss_cons (ps_asg (pe_op op_add (pe_ix ix_list (pv 0) pe_int (fun _ _ => rfl)) pe_int) (pg_sub (pv 0) pe_int set_list))
        (pss_one (ps_if (pt_cmpR op_ge (pe_callB call_abs (by rfl) B.abs (by decide +kernel) (pa_cons (pv 2) pa_nil)) (pe_op op_pow pe_int pe_int) (nomark _))
          (pss_one (ps_asg (pe_callB call_abs (by rfl) B.abs (by decide +kernel) (pa_cons (pv 2) pa_nil)) (pg_sub (pv 0) pe_int set_list)))
          (pss_one (ps_asg (pe_op op_mod (pe_callTy call_int1 (by rfl) B.int (by decide +kernel) (pa_cons (pe_op op_add (pe_op op_add (pe_op op_mul (pe_ix ix_list (pv 0) pe_int (fun _ _ => rfl)) pe_int) (pe_op op_mul (pe_op op_mod (pe_callTy call_int1 (by rfl) B.int (by decide +kernel) (pa_cons (pv 2) pa_nil)) pe_int) pe_int)) pe_int) pa_nil)) pe_int) (pg_sub (pv 0) pe_int set_list))))))) pss_nil)
    (pss_cons (ps_if (pt_cmpR op_gt (pe_ix ix_list (pv 0) pe_int (fun _ _ => rfl)) pe_int (nomark _))
        (pss_cons (ps_set (i := 3) scDr.nd rfl (Or.inl rfl) (pe_op op_mod (pe_callTy call_int1 (by rfl) B.int (by decide +kernel) (pa_cons (pe_ix ix_list (pv 0) pe_int (fun _ _ => rfl)) pa_nil)) (pv 1)))
        (pss_cons (ps_asg (pe_op op_fdiv (pe_ix ix_list (pv 0) pe_int (fun _ _ => rfl)) (pv 1)) (pg_sub (pv 0) pe_int set_list))
        (pss_one (ps_ret (pv 3))))) pss_nil)
    (pss_cons (ps_set (i := 4) scDr.nd rfl (Or.inl rfl) (pe_callTy call_int1 (by rfl) B.int (by decide +kernel) (pa_cons (pe_ix ix_list (pv 0) pe_int (fun _ _ => rfl)) pa_nil)))
    (pss_cons (ps_asg (pe_op op_mod (pe_callTy call_int1 (by rfl) B.int (by decide +kernel) (pa_cons (pe_op op_add (pe_op op_add (pe_op op_add (pe_op op_mul (pe_op op_mul (pv 4) (pv 4)) pe_int) (pe_op op_mul (pv 4) pe_int)) (pe_op op_mul (pe_ix ix_list (pv 0) pe_int (fun _ _ => rfl)) pe_int)) pe_int) pa_nil)) pe_int) (pg_sub (pv 0) pe_int set_list))
    (pss_one (ps_ret (pe_op op_mod (pe_callTy call_int1 (by rfl) B.int (by decide +kernel) (pa_cons (pe_op op_add (pe_op op_fdiv (pe_ix ix_list (pv 0) pe_int (fun _ _ => rfl)) pe_int) (pe_op op_mul (pe_op op_mod (pe_callTy call_int1 (by rfl) B.int (by decide +kernel) (pa_cons (pe_ix ix_list (pv 0) pe_int (fun _ _ => rfl)) pa_nil)) pe_int) pe_int)) pa_nil)) (pv 1)))))))), ?_⟩
  have a0 := bag_at bh
  refine q_setL a0 (ev_add (ev_ixL (i := 4) (ev_var rfl) ev_c (sq_of a0) rfl) ev_c) (ev_var rfl) (ev_c (v := .int ((4 : Nat) : Int))) (by show 4 < 5; decide) fun H1 e1 => ?_
  obtain ⟨bh1, st1⟩ := bh.put (i' := (n : Int)) (g' := g) (m' := m) (d' := d + 1) e1
  refine q_cut (M := fun σ H' => Stay H H' ∧ ∃ v2, σ = [some (.ref b), some (.int k), v2, none, none] ∧ ∃ g m, ∃ n : Nat, BagH H' b l (n : Int) g m (d + 1) cs ∧ 0 ≤ m ∧ m < 4294967296) ?_ ?_
  · have a1 := bag_at bh1
    refine s_when (et_and (et_test (ev_op (ev_ixL (i := 2) (ev_var rfl) ev_c (sq_of a1) rfl) ev_c (rv_eq rfl))) fun _ => et_test (ev_op (ev_ixL (i := 1) (ev_var rfl) ev_c (sq_of a1) rfl) (ev_lenV (ev_ixL (i := 0) (ev_var rfl) ev_c (sq_of a1) rfl) (.inl (sq_of bh1.2))) rv_I0)) (fun hb H2 e2 => ?_) (fun _ H2 e2 => ⟨st1.ex e2, none, rfl, g, m, n, bh1.ex e2, m1, m2⟩)
    have hn : n < cs.length := by
      rw [Bool.and_eq_true, decide_eq_true_eq, decide_eq_true_eq, List.length_map] at hb
      have := hb.2
      omega
    have bh2 := bh1.ex e2
    have a2 := bag_at bh2
    refine q_asg (ev_int (ev_ixL (i := n) (v := .int cs[n]) (ev_ixL (i := 0) (ev_var rfl) ev_c (sq_of a2) rfl) (ev_ixL (i := 1) (ev_var rfl) ev_c (sq_of a2) rfl) (sq_of bh2.2) (by rw [List.getElem?_map, List.getElem?_eq_getElem hn] <;> rfl))) fun H3 e3 => ?_
    have a3 := bag_at (bh2.ex e3)
    refine q_setL a3 (ev_add (ev_ixL (i := 1) (ev_var rfl) ev_c (sq_of a3) rfl) ev_c) (ev_var rfl) (ev_c (v := .int ((1 : Nat) : Int))) (by show 1 < 5; decide) fun H4 e4 => ?_
    obtain ⟨bh4, st4⟩ := bh2.put (i' := (n : Int) + 1) (g' := g) (m' := m) (d' := d + 1) (e3.trans e4)
    have a4 := bag_at bh4
    have st4 := (st1.ex e2).trans st4
    refine s_if (et_test (ev_op (ev_abs (ev_var rfl)) (ev_op (ev_c (v := .int 10)) (ev_c (v := .int 18)) (rv_I (C := CPow) ⟨by decide, by decide, by decide⟩)) rv_I0)) (fun _ H5 e5 => ?_) fun _ H5 e5 => ?_
    · have a5 := bag_at (bh4.ex e5)
      refine s_setL a5 (ev_abs (ev_var rfl)) (ev_var rfl) (ev_c (v := .int ((2 : Nat) : Int))) (by show 2 < 5; decide) fun H6 e6 => ?_
      obtain ⟨bh6, st6⟩ := bh4.put (i' := (n : Int) + 1) (g' := _) (m' := m) (d' := d + 1) (e5.trans e6)
      exact ⟨st4.trans st6, _, rfl, _, m, n + 1, bh6, m1, m2⟩
    · have a5 := bag_at (bh4.ex e5)
      refine s_setL a5 (ev_mod (ev_int (ev_add (ev_add (ev_mul (ev_ixL (i := 3) (ev_var rfl) ev_c (sq_of a5) rfl) ev_c (cm (by decide) (by decide))) (ev_mul (ev_mod (ev_int (ev_var rfl)) ev_c (by decide)) ev_c (cm (by decide) (by decide)))) ev_c)) ev_c (by decide)) (ev_var rfl) (ev_c (v := .int ((3 : Nat) : Int))) (by show 3 < 5; decide) fun H6 e6 => ?_
      obtain ⟨bh6, st6⟩ := bh4.put (i' := (n : Int) + 1) (g' := g) (m' := _) (d' := d + 1) (e5.trans e6)
      refine ⟨st4.trans st6, _, rfl, g, _, n + 1, bh6, Int.emod_nonneg _ (by decide), Int.lt_trans (Int.emod_lt_of_pos _ (by decide)) (by decide)⟩
  · rintro σ H1 ⟨st, v2, rfl, g, m, n, bh, m1, m2⟩
    have a1 := bag_at bh
    refine q_when (et_test (ev_op (ev_ixL (i := 2) (ev_var rfl) ev_c (sq_of a1) rfl) ev_c rv_I0)) (fun _ H2 e2 => ?_) fun _ H2 e2 => ?_
    · have a2 := bag_at (bh.ex e2)
      refine q_asg (ev_mod (ev_int (ev_ixL (i := 2) (ev_var rfl) ev_c (sq_of a2) rfl)) (ev_var rfl) k1) fun H3 e3 => ?_
      have a3 := bag_at ((bh.ex e2).ex e3)
      refine q_setL a3 (ev_div (ev_ixL (i := 2) (ev_var rfl) ev_c (sq_of a3) rfl) (ev_var rfl) ⟨k1, k2⟩) (ev_var rfl) (ev_c (v := .int ((2 : Nat) : Int))) (by show 2 < 5; decide) fun H4 e4 => ?_
      obtain ⟨bh4, st4⟩ := bh.put (i' := (n : Int)) (g' := _) (m' := m) (d' := d + 1) ((e2.trans e3).trans e4)
      have z1 := Int.emod_nonneg g (Int.ne_of_gt k1)
      have z2 := Int.emod_lt_of_pos g k1
      refine s_ret (ev_is (ev_var rfl) (v := .int (g % k)) (w := .int ((g % k).toNat : Nat)) (by rw [Int.toNat_of_nonneg z1])) fun H5 e5 => ?_
      exact kk _ H5 ((st.trans st4).ex e5) ⟨_, m, d + 1, cs, n, bh4.ex e5, m1, m2⟩ (by rw [Int.toNat_of_nonneg z1]; exact z2)
    · have a2 := bag_at (bh.ex e2)
      refine q_asg (ev_int (ev_ixL (i := 3) (ev_var rfl) ev_c (sq_of a2) rfl)) fun H3 e3 => ?_
      have a3 := bag_at ((bh.ex e2).ex e3)
      refine q_setL a3 (ev_mod (ev_int (ev_add (ev_add (ev_add (ev_mul (ev_mul (ev_var rfl) (ev_var rfl) (.inr ⟨by omega, by omega⟩)) ev_c (cm (by decide) (by decide))) (ev_mul (ev_var rfl) ev_c (cm (by decide) (by decide)))) (ev_mul (ev_ixL (i := 4) (ev_var rfl) ev_c (sq_of a3) rfl) ev_c (cm (by decide) (by decide)))) ev_c)) ev_c (by decide)) (ev_var rfl) (ev_c (v := .int ((3 : Nat) : Int))) (by show 3 < 5; decide) fun H4 e4 => ?_
      obtain ⟨bh4, st4⟩ := bh.put (i' := (n : Int)) (g' := g) (m' := _) (d' := d + 1) ((e2.trans e3).trans e4)
      have a4 := bag_at bh4
      have z1 : ∀ x : Int, 0 ≤ x % k := fun x => Int.emod_nonneg x (Int.ne_of_gt k1)
      refine s_ret (ev_is (ev_mod (ev_int (ev_add (ev_div (ev_ixL (i := 3) (ev_var rfl) ev_c (sq_of a4) rfl) ev_c ⟨by decide, by decide⟩) (ev_mul (ev_mod (ev_int (ev_ixL (i := 3) (ev_var rfl) ev_c (sq_of a4) rfl)) ev_c (by decide)) ev_c (cm (by decide) (by decide))))) (ev_var rfl) k1) (congrArg V.int (Int.toNat_of_nonneg (z1 _)).symm)) fun H5 e5 => ?_
      exact kk _ H5 ((st.trans st4).ex e5) ⟨g, _, d + 1, cs, n, bh4.ex e5, Int.emod_nonneg _ (by decide), Int.lt_trans (Int.emod_lt_of_pos _ (by decide)) (by decide)⟩ (by rw [Int.toNat_of_nonneg (z1 _)]; exact Int.emod_lt_of_pos _ k1)
end
end K12

/-! K12T: _law_bag, _law_of, _law_mixed, _law_sides. -/
namespace K12
open PySem PySem.Spec PyProof.Rows L2 Evl

theorem perm_erase : ∀ {l : List Str} {d : Nat} (h : d < l.length), (l[d] :: l.eraseIdx d).Perm l
  | [], d, h => absurd h (Nat.not_lt_zero d)
  | x :: l, 0, h => List.Perm.refl _
  | x :: l, d + 1, h => (List.Perm.swap x (l[d]'(Nat.lt_of_succ_lt_succ h)) (l.eraseIdx d)).trans (List.Perm.cons x (perm_erase (Nat.lt_of_succ_lt_succ h)))
theorem map_erase (f : Str → V) : ∀ (l : List Str) (d : Nat), (l.map f).eraseIdx d = (l.eraseIdx d).map f
  | [], _ => rfl
  | x :: l, 0 => rfl
  | x :: l, d + 1 => congrArg (List.cons (f x)) (map_erase f l d)
theorem seq_at {n d : Nat} (h : d < n) : seqIndex? (d : Int) n = some d := by
  unfold seqIndex?
  have h1 : ¬ ((d : Int) < 0) := by omega
  have h2 : (0 : Int) ≤ (d : Int) := by omega
  have h3 : (d : Int) < (n : Int) := by omega
  simp [h1, h2, h3, h]
theorem stay_upd {H H' : Hp} {p : Addr} {o : HO} (s : Stay H H') (h : H p = none) : Stay H (upd H' p o) := fun a u ha hn => by
  rw [upd_ne (ne_of_none ha h)]
  exact s a u ha hn
section
variable {K : PySem.W.Frag} {σ : L2.St} {H : Hp} {te ta tb : TE} {b l p : Addr} {zs : List V}
theorem el_listN (h : EvL te σ H zs) : EvL (tCB (fun xs H Q => ∃ p ys, xs = [.ref p] ∧ (SqL K H p ys ∨ SqT K H p ys) ∧ ∀ l, H l = none → Q (.ref l) (upd H l (.lst ys))) (tCons te tNil)) σ H zs := fun H1 e Q q =>
  h H1 e _ fun p H2 np e2 hp => ⟨p, zs, rfl, .inl (sq_of hp), fun l hl => q l _ (fresh_back e2 hl) (e2.trans (Ex.new hl)) upd_same⟩
theorem s_bag5 {t1 t4 : TE} {D : Ends} {m : Int} (h : EvL t1 σ H zs) (h4 : Ev t4 σ H (.int m)) (k : ∀ b l H', Ex H H' → H' b = some (bagO l 0 0 m 0) → H' l = some (.lst zs) → D.rt (.ref b) H') :
    tRet (tLst (tCons t1 (tCons (tC (.int 0)) (tCons (tC (.int 0)) (tCons t4 (tCons (tC (.int 0)) tNil)))))) D σ H := h H (Ex.refl _) _ fun l H1 n1 e1 g1 => h4 H1 e1 _ fun H2 e2 => ⟨by show 5 ≤ sizeLine; decide, fun b hb => k b l _ ((e1.trans e2).trans (Ex.new hb)) upd_same ((Ex.new hb) _ _ (e2 _ _ g1))⟩
/-- a, b = two new lists -/
theorem q_parLL {t1 t2 : TE} {tz : TS} {D : Ends} {i j : Nat} {xs ys : List V} (h1 : EvL t1 σ H xs) (h2 : EvL t2 σ H ys) (k : ∀ a b H', Ex H H' → H a = none → H b = none → a ≠ b → H' a = some (.lst xs) → H' b = some (.lst ys) → tz D ((σ.set i (some (.ref a))).set j (some (.ref b))) H') :
    tSeq (tPar i j (tCons t1 (tCons t2 tNil))) tz D σ H := h1 H (Ex.refl _) _ fun a H1 n1 e1 g1 => h2 H1 e1 _ fun b H2 n2 e2 g2 => ⟨_, _, rfl, k a b H2 (e1.trans e2) n1 (fresh_back e1 n2) (fun e => by rw [← e, g1] at n2; cases n2) (e2 _ _ g1) g2⟩
/-- a drawn number below k -/
theorem ed_draw {k : Int} {Q : VK} {E : XK} (h1 : Ev ta σ H (.ref b)) (h2 : Ev tb σ H (.int k)) (B : BagAt H b l) (k1 : 0 < k) (k2 : k < 1073741824) (q : ∀ (d : Nat) H', Stay H H' → BagAt H' b l → (d : Int) < k → Q (.int d) H') : tCall spDraw [] E (tCons ta (tCons tb tNil)) σ H Q :=
  h1 H (Ex.refl _) _ fun H1 e1 => h2 H1 e1 _ fun H2 e2 => ⟨b, l, k, rfl, B.ex (e1.trans e2), k1, k2, fun d H' s B' hd => q d H' ((Stay.of (e1.trans e2)).trans s) B' hd⟩
end
abbrev rLen2 (K : PySem.W.Frag) : List V → Hp → VK → Prop := fun xs H Q => (∃ p ys, xs = [.ref p] ∧ (SqL K H p ys ∨ SqT K H p ys) ∧ Q (.int ys.length) H) ∨ ∃ z, xs = [.str z] ∧ z.length ≤ sizeLine ∧ Q (.int z.length) H

/-! ### _law_of -/
def spOf : Sp := fun vs H Q _ => ∃ (b l : Addr) (t : V), vs = [.ref b, t] ∧ BagAt H b l ∧
  ((∃ p xs, t = .ref p ∧ H p = some (.lst xs) ∧ NB (.lst xs) ∧ 0 < xs.length ∧ xs.length ≤ 1000 ∧ ∀ v H', v ∈ xs → Stay H H' → BagAt H' b l → Q v H') ∨
   ∃ z : Str, t = .str z ∧ 0 < z.length ∧ z.length ≤ 1000 ∧ ∀ c H', c ∈ z.cps.toList → Stay H H' → BagAt H' b l → Q (.str ⟨#[c]⟩) H')
theorem scOf : FnScope ["_law_bag_here", "_law_things"] ["_law_bag_here", "_law_things"] (C8.fnScope sOf) := C8.fnScope_by (by decide +kernel)
def spMixed : Sp := fun vs H Q _ => ∃ (b l t : Addr) (xs : List Str), vs = [.ref b, .ref t] ∧ BagAt H b l ∧ H t = some (.lst (xs.map V.str)) ∧ xs.length ≤ 1000 ∧ ∀ (r : Addr) (ys : List Str) (H' : Hp), ys.Perm xs → Stay H H' → BagAt H' b l → H' r = some (.lst (ys.map V.str)) → Q (.ref r) H'
abbrev nmMx : List Str := ["_law_bag_here", "_law_things", "_law_left", "_law_found", "_law_k"]
theorem scMx : FnScope nmMx ["_law_bag_here", "_law_things"] (C8.fnScope sMixed) := C8.fnScope_by (by decide +kernel)
def spSides : Sp := fun vs H Q _ => ∃ (b l t : Addr) (ns : List Str), vs = [.ref b, .ref t] ∧ BagAt H b l ∧ H t = some (.lst (ns.map V.str)) ∧ ns.Nodup ∧ ns.length ≤ 1000 ∧ ∀ r s H', In ns s → Stay H H' → BagAt H' b l → SideAt H' r s → Q (.ref r) H'
abbrev nmSd : List Str := ["_law_bag_here", "_law_names_here", "_law_good", "_law_bad", "_law_title", "_law_way"]
theorem scSd : FnScope nmSd ["_law_bag_here", "_law_names_here"] (C8.fnScope sSides) := C8.fnScope_by (by decide +kernel)
section
variable {P : Program} {w : World} {K : PySem.W.Frag} {mg : Str → Option Value} {base : Heap}
theorem ok_bag {f : Addr} {fd : FuncData} (B : Bi mg) (D : C8.Def K mg "_law_bag" sBag f fd) (b : Binds K fd ["_law_script"] []) : C8.Cal P w K mg base 1 "_law_bag" (spBag K) [] := by
  refine C8.cal0 D b .nil scBg (fun vs H Q E h => ?_) (fun cdv A outer s0 H vs Q E hr h => ?_)
  · obtain ⟨p, cs, rfl, _⟩ := h
    rfl
  obtain ⟨p, cs, rfl, hs, k⟩ := h
  refine ⟨_, pss_cons (ps_set (i := 1) scBg.nd rfl (Or.inl rfl) pe_int)
    (pss_cons (ps_for PassesOwn.never rfl (pi_list (pe_slice sl_list (pv 0) po_none (po_some pe_int))) (pg_name (i := 2) scBg.nd rfl (Or.inl rfl))
      (pss_one (ps_set (i := 1) scBg.nd rfl (Or.inl rfl) (pe_op op_mod (pe_callTy call_int1 (by rfl) B.int (by decide +kernel) (pa_cons (pe_op op_add (pe_op op_add (pe_op op_mul (pv 1) pe_int) (pe_op op_mul (pe_op op_mod (pe_callTy call_int1 (by rfl) B.int (by decide +kernel) (pa_cons (pv 2) pa_nil)) pe_int) pe_int)) pe_int) pa_nil)) pe_int))))
    (pss_one (ps_ret (pe_lst (pa_cons (pe_callTy call_list_of (by rfl) B.list (by decide +kernel) (pa_cons (pe_slice sl_list (pv 0) po_none (po_some pe_int)) pa_nil)) (pa_cons pe_int (pa_cons pe_int (pa_cons (pv 1) (pa_cons pe_int pa_nil))))))))), ?_⟩
  refine q_asg ev_c fun H1 e1 => ?_
  have cut : ∀ {H' : Hp} {v m : Option V}, Ex H H' → EvL (tSl (rSlL K) (tVar 0) tNoPart (tPart (tC (.int 63)))) [some (.ref p), m, v] H' ((cs.take 63).map V.int) := fun {H' v m} e => by
    rw [← cut_takeG]
    exact el_sl (ev_var rfl) eo_none (eo_some (i := ((63 : Nat) : Int)) ev_c) (ex_l e hs)
  refine q_forNLn (cut e1) (fun q i σ H' => Ex H H' ∧ H' q = some (.lst ((cs.take 63).map V.int)) ∧ ∃ m v, σ = [some (.ref p), some (.int m), v] ∧ 0 ≤ m ∧ m < 4294967296)
    (fun q H2 _ e2 h2 => ⟨e1.trans e2, h2, _, none, rfl, by decide, by decide⟩) (fun q i σ H' _ h => sq_of h.2.1) ?_ ?_
  · rintro q i x σ H' hx ⟨e, hq, m, v, rfl, m1, m2⟩
    rw [List.getElem?_map] at hx
    obtain ⟨c, _, rfl⟩ := Option.map_eq_some_iff.mp hx
    refine s_asg (ev_mod (ev_int (ev_add (ev_add (ev_mul (ev_var rfl) ev_c (cm (by decide) (by decide))) (ev_mul (ev_mod (ev_int (ev_var rfl)) ev_c (by decide)) ev_c (cm (by decide) (by decide)))) ev_c)) ev_c (by decide)) fun H2 e2 => ?_
    exact ⟨e.trans e2, e2 _ _ hq, _, _, rfl, Int.emod_nonneg _ (by decide), Int.lt_trans (Int.emod_lt_of_pos _ (by decide)) (by decide)⟩
  · rintro q σ H2 ⟨e2, _, m, v, rfl, m1, m2⟩
    exact s_bag5 (el_listN (K := K) (cut e2)) (ev_var rfl) fun bg l H3 e3 hb hl => k bg l H3 (e2.trans e3) ⟨0, m, 0, _, 0, ⟨hb, hl⟩, m1, m2⟩
theorem ok_of {f : Addr} {fd : FuncData} (B : Bi mg) (Gd : C8.Cal P w K mg base 1 "_law_draw" spDraw []) (D : C8.Def K mg "_law_of" sOf f fd) (b : Binds K fd ["_law_bag_here", "_law_things"] []) : C8.Cal P w K mg base 2 "_law_of" spOf [] := by
  refine C8.cal0 D b .nil scOf (fun vs H Q E h => ?_) (fun cdv A outer s0 H vs Q E hr h => ?_)
  · obtain ⟨b, l, t, rfl, _⟩ := h
    rfl
  obtain ⟨b, l, t, rfl, bg, h⟩ := h
  refine ⟨_, pss_one (ps_ret (pe_ix ix_seq (pv 1) (C8.pe_c Gd hr (by decide) (by rfl) (pa_cons (pv 0) (pa_cons (pe_callB (call_len_seq.or call_len_str) (by rfl) B.len PySem.boot_len (pa_cons (pv 1) pa_nil)) pa_nil))) (fun _ _ => rfl))), ?_⟩
  refine ⟨t, rfl, ?_⟩
  rcases h with ⟨p, xs, rfl, hp, nb, f1, f2, k⟩ | ⟨z, rfl, f1, f2, k⟩
  · refine ed_draw (k := xs.length) (ev_var rfl) (fun H1 e Q q => ⟨_, rfl, .inl ⟨p, xs, rfl, .inl (sq_of (e _ _ hp)), q H1 (Ex.refl _)⟩⟩) bg (by omega) (by omega) fun d H' st bg' hd => ?_
    have hd' : d < xs.length := by omega
    exact .inl ⟨p, xs, d, xs[d], rfl, rfl, sq_of (st _ _ hp nb), atI_nat (List.getElem?_eq_getElem hd'), k _ H' (List.getElem_mem hd') st bg'⟩
  · refine ed_draw (k := z.length) (ev_var rfl) (fun H1 e Q q => ⟨_, rfl, .inr ⟨z, rfl, sz_of (by omega), q H1 (Ex.refl _)⟩⟩) bg (by omega) (by omega) fun d H' st bg' hd => ?_
    have hd' : d < z.cps.toList.length := by
      have e : z.cps.toList.length = z.length := Array.length_toList
      omega
    exact .inr (.inr ⟨z, d, z.cps.toList[d], rfl, rfl, sz_of (by omega), atI_nat (List.getElem?_eq_getElem hd'), k _ H' (List.getElem_mem hd') st bg'⟩)
theorem ok_mixed {f : Addr} {fd : FuncData} (B : Bi mg) (Gd : C8.Cal P w K mg base 1 "_law_draw" spDraw []) (D : C8.Def K mg "_law_mixed" sMixed f fd) (b : Binds K fd ["_law_bag_here", "_law_things"] []) : C8.Cal P w K mg base 2 "_law_mixed" spMixed [] := by
  refine C8.cal0 D b .nil scMx (fun vs H Q E h => ?_) (fun cdv A outer s0 H vs Q E hr h => ?_)
  · obtain ⟨b, l, t, xs, rfl, _⟩ := h
    rfl
  obtain ⟨b, l, t, xs, rfl, bg, ht, few, k⟩ := h
  refine ⟨_, pss_cons (ps_par (i := 2) (j := 3) (by rfl) scMx.nd rfl rfl (by decide) rfl rfl (pa_cons (pe_callTy call_list_of (by rfl) B.list (by decide +kernel) (pa_cons (pv 1) pa_nil)) (pa_cons (pe_lst pa_nil) pa_nil)) (by rfl))
    (pss_cons (ps_for PassesOwn.never rfl (pi_range1 (by rfl) B.range (pa_cons (pe_callB call_len_seq (by rfl) B.len PySem.boot_len (pa_cons (pv 1) pa_nil)) pa_nil)) (pg_name (i := 4) scMx.nd rfl (Or.inl rfl))
      (pss_one (ps_expr (pe_bm PySem.F.plainAttrs_list PySem.F.slot_list_append PySem.F.type_list_append mt_append (pv 3) (pa_cons
        (pe_bm PySem.F.plainAttrs_list PySem.F.slot_list_pop PySem.F.type_list_pop mt_popAt (pv 2) (pa_cons
          (C8.pe_c Gd hr (by decide) (by rfl) (pa_cons (pv 0) (pa_cons (pe_callB call_len_seq (by rfl) B.len PySem.boot_len (pa_cons (pv 2) pa_nil)) pa_nil))) pa_nil)) pa_nil)))))
    (pss_one (ps_ret (pv 3)))), ?_⟩
  refine q_parLL (el_listV (K := K) (ev_var rfl) (.inl (sq_of ht))) (el_lst ea_nil (Nat.zero_le _)) fun a1 a2 H2 e2 n1 n2' h12 h1 h2 => ?_
  have b2 := bg.ex e2
  have o1 := bg.old n1
  have o2 := bg.old n2'
  refine q_forR1 (ea_cons (ev_is (ev_lenV (K := K) (ev_var rfl) (.inl (sq_of (e2 _ _ ht)))) (by rw [List.length_map])) ea_nil) ⟨by omega, by omega⟩
    (fun i σ H' => Stay H H' ∧ BagAt H' b l ∧ ∃ v ls fs, σ = [some (.ref b), some (.ref t), some (.ref a1), some (.ref a2), v] ∧ H' a1 = some (.lst (ls.map V.str)) ∧ H' a2 = some (.lst (fs.map V.str)) ∧ (fs ++ ls).Perm xs ∧ ls.length + i = xs.length ∧ fs.length = i)
    (fun H3 e3 => ⟨Stay.of (e2.trans e3), b2.ex e3, none, xs, [], rfl, e3 _ _ h1, e3 _ _ h2, List.Perm.refl _, rfl, rfl⟩) ?_ ?_
  · rintro i σ H3 hi ⟨st, bg3, v, ls, fs, rfl, g1, g2, pm, hl, hf⟩
    have hpos : 0 < ls.length := by omega
    refine ⟨_, rfl, .inl ⟨rfl, _, sq_of g2⟩, _, rfl, .inl ⟨rfl, _, sq_of g1⟩, ?_⟩
    refine ed_draw (k := ls.length) (ev_var rfl) (ev_is (ev_lenV (K := K) (ev_var rfl) (.inl (sq_of g1))) (by rw [List.length_map])) bg3 (by omega) (by omega) fun d H4 st4 bg4 hd => ?_
    have hd' : d < ls.length := by omega
    have g14 := st4 _ _ g1 (nb_strs _)
    have g24 := st4 _ _ g2 (nb_strs _)
    refine ⟨a1, _, d, d, .str ls[d], rfl, rfl, g14, by omega, by omega, seq_at (by rw [List.length_map]; exact hd'), by rw [List.getElem?_map, List.getElem?_eq_getElem hd'] <;> rfl, ?_⟩
    refine ⟨a2, fs.map V.str, .str ls[d], rfl, rfl, by rw [upd_ne (Ne.symm h12)]; exact g24, by rw [List.length_map]; exact sz_lt (by omega), ?_⟩
    have pe : (ls[d] :: ls.eraseIdx d).Perm ls := perm_erase hd'
    refine ⟨stay_upd (stay_upd (st.trans st4) n1) n2', (bg4.upd o1.1 o1.2).upd o2.1 o2.2, _, ls.eraseIdx d, fs ++ [ls[d]], rfl, ?_, ?_, ?_, ?_, ?_⟩
    · rw [upd_ne h12, upd_same, map_erase]
    · rw [upd_same, List.map_append]
      rfl
    · rw [List.append_assoc]
      exact (List.Perm.append_left fs pe).trans pm
    · rw [List.length_eraseIdx, if_pos hd']
      omega
    · rw [List.length_append, hf]
      rfl
  · rintro σ H3 ⟨st, bg3, v, ls, fs, rfl, g1, g2, pm, hl, hf⟩
    have e0 : ls = [] := List.eq_nil_of_length_eq_zero (by omega)
    rw [e0, List.append_nil] at pm
    exact s_ret (ev_var rfl) fun H4 e4 => k a2 fs H4 pm (st.ex e4) (bg3.ex e4) (e4 _ _ g2)
end
end K12

/-! K12U: _law_sides, _law_names. -/
namespace K12
open PySem PySem.Spec PyProof.Rows L2 Evl

theorem q_raw {te : TE} {i : Nat} {tz : TS} {D : Ends} {σ : L2.St} {H : Hp} (h : te σ H fun x H1 => tz D (σ.set i (some x)) H1) : tSeq (tAsg te (gName i)) tz D σ H := h
theorem s_raw {te : TE} {i : Nat} {D : Ends} {σ : L2.St} {H : Hp} (h : te σ H fun x H1 => D.nx (σ.set i (some x)) H1) : tAsg te (gName i) D σ H := h
theorem In.nil {ns : List Str} : In ns ([], []) := ⟨⟨List.nodup_nil, List.nodup_nil, fun x hx => (by cases hx)⟩, fun x hx => (by cases hx), fun x hx => (by cases hx)⟩
theorem nodup_snoc {l : List Str} {x : Str} (n : l.Nodup) (h : x ∉ l) : (l ++ [x]).Nodup := List.nodup_append.mpr ⟨n, List.nodup_cons.mpr ⟨List.not_mem_nil, List.nodup_nil⟩, fun a ha b hb e => by
  rw [List.mem_singleton.mp hb] at e
  exact h (e ▸ ha)⟩
theorem In.addG {ns : List Str} {g b : List Str} {x : Str} (h : In ns (g, b)) (hx : x ∉ ns) : In (ns ++ [x]) (g ++ [x], b) := by
  refine ⟨⟨nodup_snoc h.wf.g fun q => hx (h.g x q), h.wf.b, fun y hy hb => ?_⟩, fun y hy => ?_, fun y hy => List.mem_append_left _ (h.b y hy)⟩
  · rcases List.mem_append.mp hy with q | q
    · exact h.wf.d y q hb
    · rw [List.mem_singleton.mp q] at hb
      exact hx (h.b x hb)
  · rcases List.mem_append.mp hy with q | q
    · exact List.mem_append_left _ (h.g y q)
    · exact List.mem_append_right _ q
theorem In.addB {ns : List Str} {g b : List Str} {x : Str} (h : In ns (g, b)) (hx : x ∉ ns) : In (ns ++ [x]) (g, b ++ [x]) := by
  refine ⟨⟨h.wf.g, nodup_snoc h.wf.b fun q => hx (h.b x q), fun y hy hb => ?_⟩, fun y hy => List.mem_append_left _ (h.g y hy), fun y hy => ?_⟩
  · rcases List.mem_append.mp hb with q | q
    · exact h.wf.d y hy q
    · rw [List.mem_singleton.mp q] at hy
      exact hx (h.g x hy)
  · rcases List.mem_append.mp hy with q | q
    · exact List.mem_append_left _ (h.b y q)
    · exact List.mem_append_right _ q
theorem In.more {ns ms : List Str} {s : Sides} (h : In ns s) : In (ns ++ ms) s := ⟨h.wf, fun x hx => List.mem_append_left _ (h.g x hx), fun x hx => List.mem_append_left _ (h.b x hx)⟩
theorem In.sub {ns ms : List Str} {s : Sides} (h : In ns s) (q : ∀ x ∈ ns, x ∈ ms) : In ms s := ⟨h.wf, fun x hx => q x (h.g x hx), fun x hx => q x (h.b x hx)⟩
section
variable {P : Program} {w : World} {K : PySem.W.Frag} {mg : Str → Option Value} {base : Heap}
theorem ok_sides {f : Addr} {fd : FuncData} (B : Bi mg) (Gd : C8.Cal P w K mg base 1 "_law_draw" spDraw []) (D : C8.Def K mg "_law_sides" sSides f fd) (b : Binds K fd ["_law_bag_here", "_law_names_here"] []) : C8.Cal P w K mg base 2 "_law_sides" spSides [] := by
  refine C8.cal0 D b .nil scSd (fun vs H Q E h => ?_) (fun cdv A outer s0 H vs Q E hr h => ?_)
  · obtain ⟨b, l, t, ns, rfl, _⟩ := h
    rfl
  obtain ⟨b, l, t, ns, rfl, bg, ht, nd, few, k⟩ := h
  refine ⟨_, pss_cons (ps_par (i := 2) (j := 3) (by rfl) scSd.nd rfl rfl (by decide) rfl rfl (pa_cons (pe_lst pa_nil) (pa_cons (pe_lst pa_nil) pa_nil)) (by rfl))
    (pss_cons (ps_for PassesOwn.never rfl (pi_list (pv 1)) (pg_name (i := 4) scSd.nd rfl (Or.inl rfl))
      (pss_cons (ps_set (i := 5) scSd.nd rfl (Or.inl rfl) (C8.pe_c Gd hr (by decide) (by rfl) (pa_cons (pv 0) (pa_cons pe_int pa_nil))))
      (pss_one (ps_if (pt_cmpR op_eq (pv 5) pe_int (nomark _))
        (pss_one (ps_expr (pe_bm PySem.F.plainAttrs_list PySem.F.slot_list_append PySem.F.type_list_append mt_append (pv 2) (pa_cons (pv 4) pa_nil))))
        (pss_one (ps_if (pt_cmpR op_eq (pv 5) pe_int (nomark _))
          (pss_one (ps_expr (pe_bm PySem.F.plainAttrs_list PySem.F.slot_list_append PySem.F.type_list_append mt_append (pv 3) (pa_cons (pv 4) pa_nil)))) pss_nil))))))
    (pss_one (ps_ret (pe_tup (pa_cons (pv 2) (pa_cons (pv 3) pa_nil)))))), ?_⟩
  refine q_parLL (el_lst ea_nil (Nat.zero_le _)) (el_lst ea_nil (Nat.zero_le _)) fun a1 a2 H2 e2 n1 n2 h12 h1 h2 => ?_
  have o1 := bg.old n1
  have o2 := bg.old n2
  refine q_forL (ev_var rfl) (sq_of (e2 _ _ ht)) (fun i σ H' => Stay H H' ∧ BagAt H' b l ∧ ∃ v4 v5 gs bs, σ = [some (.ref b), some (.ref t), some (.ref a1), some (.ref a2), v4, v5] ∧ H' a1 = some (.lst (gs.map V.str)) ∧ H' a2 = some (.lst (bs.map V.str)) ∧ In (ns.take i) (gs, bs) ∧ gs.length ≤ i ∧ bs.length ≤ i)
    (fun H3 e3 => ⟨Stay.of (e2.trans e3), bg.ex (e2.trans e3), none, none, [], [], rfl, e3 _ _ h1, e3 _ _ h2, In.nil, Nat.le_refl _, Nat.le_refl _⟩) (fun i σ H' _ h => sq_of (h.1 _ _ ht (nb_strs _))) ?_ ?_
  · rintro i x σ H3 hx ⟨st, bg3, v4, v5, gs, bs, rfl, g1, g2, hin, l1, l2⟩
    rw [List.getElem?_map] at hx
    obtain ⟨z, hz, rfl⟩ := Option.map_eq_some_iff.mp hx
    obtain ⟨hi, ez⟩ := List.getElem?_eq_some_iff.mp hz
    have no : z ∉ ns.take i := fun q => by
      obtain ⟨j, hj, ej⟩ := List.getElem_of_mem q
      rw [List.length_take] at hj
      rw [List.getElem_take, ← ez] at ej
      have := (List.getElem_inj nd).mp ej
      omega
    have et : ns.take (i + 1) = ns.take i ++ [z] := by rw [List.take_succ_eq_append_getElem hi, ez]
    refine q_raw (ed_draw (k := 4) (ev_var rfl) ev_c bg3 (by decide) (by decide) fun d H4 st4 bg4 hd => ?_)
    have g14 := st4 _ _ g1 (nb_strs _)
    have g24 := st4 _ _ g2 (nb_strs _)
    refine s_if (et_test (ev_op (ev_var rfl) ev_c (rv_eq rfl))) (fun _ H5 e5 => ?_) fun _ H5 e5 => ?_
    · refine s_app (e5 _ _ g14) (ev_var rfl) (ev_var rfl) (by rw [List.length_map]; omega) fun H6 e6 => ?_
      have e56 := e5.trans e6
      refine ⟨stay_upd ((st.trans st4).ex e56) n1, (bg4.ex e56).upd o1.1 o1.2, _, _, gs ++ [z], bs, rfl, ?_, by rw [upd_ne (Ne.symm h12)]; exact e56 _ _ g24, ?_, by rw [List.length_append]; exact Nat.succ_le_succ l1, by omega⟩
      · rw [upd_same, List.map_append]
        rfl
      · rw [et]
        exact hin.addG no
    · refine s_if (et_test (ev_op (ev_var rfl) ev_c (rv_eq rfl))) (fun _ H6 e6 => ?_) fun _ H6 e6 => ?_
      · have e56 := e5.trans e6
        refine s_app (e56 _ _ g24) (ev_var rfl) (ev_var rfl) (by rw [List.length_map]; omega) fun H7 e7 => ?_
        have e57 := e56.trans e7
        refine ⟨stay_upd ((st.trans st4).ex e57) n2, (bg4.ex e57).upd o2.1 o2.2, _, _, gs, bs ++ [z], rfl, by rw [upd_ne h12]; exact e57 _ _ g14, ?_, ?_, by omega, by rw [List.length_append]; exact Nat.succ_le_succ l2⟩
        · rw [upd_same, List.map_append]
          rfl
        · rw [et]
          exact hin.addB no
      · have e56 := e5.trans e6
        refine ⟨(st.trans st4).ex e56, bg4.ex e56, _, _, gs, bs, rfl, e56 _ _ g14, e56 _ _ g24, ?_, by omega, by omega⟩
        rw [et]
        exact hin.more
  · rintro σ H3 ⟨st, bg3, v4, v5, gs, bs, rfl, g1, g2, hin, l1, l2⟩
    rw [List.length_map, List.take_length] at hin
    exact s_retU (eu_tup (ea_cons (ev_var rfl) (ea_cons (ev_var rfl) ea_nil)) (by show 2 ≤ 100000; decide)) fun p H4 _ e4 hp => k p (gs, bs) H4 hin (st.ex e4) (bg3.ex e4) ⟨a1, a2, hp, e4 _ _ g1, e4 _ _ g2⟩
end
end K12

/-! K12X: _law_names. -/
namespace K12
open PySem PySem.Spec PyProof.Rows L2 Evl

/-! ### texts of single signs -/
abbrev one (c : Nat) : Str := ⟨#[c]⟩
theorem join_ones : ∀ ws : List Nat, (Txt.join "" (ws.map one)).cps.toList = ws := by
  have go : ∀ ws : List Nat, (Str.join "" (ws.map one)).cps.toList = ws := by
    intro ws
    induction ws with
    | nil => rfl
    | cons c r ih =>
      cases r with
      | nil => rfl
      | cons d r =>
        have e : (Str.join "" ((c :: d :: r).map one)).cps = #[c] ++ (Str.ofString "").cps ++ (Str.join "" ((d :: r).map one)).cps := rfl
        rw [e, Array.toList_append, Array.toList_append, ih]
        rfl
  intro ws
  have e : Txt.join "" (ws.map one) = Str.join "" (ws.map one) := StrLaws.glued_eq_join _ _
  rw [e]
  exact go ws
theorem good_ones {ws : List Nat} (h1 : 1 ≤ ws.length) (h2 : ws.length ≤ 6) (h : ∀ c ∈ ws, c ∈ letters.cps.toList) : GoodName (Txt.join "" (ws.map one)) := by
  have e := join_ones ws
  have l : (Txt.join "" (ws.map one)).length = ws.length := by
    have q := congrArg List.length e
    rw [Array.length_toList] at q
    exact q
  exact ⟨by rw [l]; exact h1, by rw [l]; exact h2, by rw [e]; exact h⟩
theorem good_one {c : Nat} (h : c ∈ letters.cps.toList) : GoodName (one c) := ⟨Nat.le_refl 1, by show 1 ≤ 6; decide, fun d hd => by
  have : d = c := by simpa using hd
  rw [this]
  exact h⟩
/-- signs of which names are made -/
structure Signs (z : Str) : Prop where
  lo : 0 < z.length
  hi : z.length ≤ 1000
  cs : ∀ c ∈ z.cps.toList, c ∈ letters.cps.toList
section
variable {K : PySem.W.Frag} {σ : L2.St} {H : Hp} {t : TT} {tl te : TE} {vs : List Nat} {j : Nat}
/-- [e for c in z if t] -/
theorem el_compC {z : Str} (p : Nat → Bool) (g : Nat → V) (h : Ev tl σ H (.str z)) (hn : z.length ≤ 40000) (hw : ∀ x, wipe ((wipe σ vs).set j (some x)) vs = wipe σ vs)
    (hs : ∀ c H', c ∈ z.cps.toList → Ex H H' → EvT t ((wipe σ vs).set j (some (.str (one c)))) H' (p c) ∧ (p c = true → Ev te ((wipe σ vs).set j (some (.str (one c)))) H' (g c))) :
    EvL (tLc (iStr tl) (gName j) t te vs) σ H ((z.cps.toList.filter p).map g) := fun H0 e Q q => h H0 e _ fun H1 e1 => ⟨z, rfl, fun D hD =>
  lcC p g hD hn hw (fun c H' hm e2 => hs c H' hm ((e.trans e1).trans e2)) fun H' e2 hL => q D H' (fresh_back e1 hD) (e1.trans e2) hL⟩
end
abbrev allSigns : Str := "mabcdefghijklnopqrstuvwxyz"
theorem signs_all : ∀ c ∈ allSigns.cps.toList, c ∈ letters.cps.toList := by decide +kernel
theorem ones_nodup : (allSigns.cps.toList.map one).Nodup := by decide +kernel
theorem ones_many : (allSigns.cps.toList.map one).length = 26 := by decide +kernel
/-- a sign that is no name yet -/
theorem fresh_sign {found : List Str} (h : found.length ≤ 4) : ∃ c r, allSigns.cps.toList.filter (fun c => decide (one c ∉ found)) = c :: r ∧ c ∈ letters.cps.toList ∧ one c ∉ found := by
  cases e : allSigns.cps.toList.filter (fun c => decide (one c ∉ found)) with
  | nil =>
    have q := List.filter_eq_nil_iff.mp e
    have sub : ∀ x ∈ allSigns.cps.toList.map one, x ∈ found := fun x hx => by
      obtain ⟨c, hc, rfl⟩ := List.mem_map.mp hx
      have := q c hc
      rw [decide_eq_true_eq, Classical.not_not] at this
      exact this
    have l := len_sub ones_nodup sub
    rw [ones_many] at l
    omega
  | cons c r =>
    have hc : c ∈ allSigns.cps.toList.filter (fun c => decide (one c ∉ found)) := by rw [e]; exact List.mem_cons_self
    have q := List.mem_filter.mp hc
    exact ⟨c, r, rfl, signs_all c q.1, of_decide_eq_true q.2⟩

/-! ### _law_names -/
def spLNames : Sp := fun vs H Q _ => ∃ (b l : Addr) (m : Nat), vs = [.ref b, .int m] ∧ BagAt H b l ∧ m ≤ 4 ∧ ∀ (r : Addr) (ns : List Str) (H' : Hp), ns.length = m → GoodNames ns → ns.Nodup → Stay H H' → BagAt H' b l → H' r = some (.lst (ns.map V.str)) → Q (.ref r) H'
abbrev nmNm : List Str := ["_law_bag_here", "_law_many", "_law_signs", "_law_words", "_law_found", "_law_k", "_law_word", "_law_spot", "_law_sign"]
theorem scNm : FnScope nmNm ["_law_bag_here", "_law_many"] (C8.fnScope sLNames) := C8.fnScope_by (by decide +kernel)
abbrev signTexts : List Str := ["abcdefghijklmnopqrstuvwxyz", "abcdefghijklmnopqrstuvwxyz", "ab", "eqz"]
abbrev wordTexts : List Str := ["row", "even", "case", "offer", "end", "reason", "self", "none", "sum", "turn", "amount"]
theorem signs_good : ∀ z ∈ signTexts, Signs z := by
  have h : ∀ z ∈ signTexts, (0 < z.length ∧ z.length ≤ 1000) ∧ ∀ c ∈ z.cps.toList, c ∈ letters.cps.toList := by decide +kernel
  exact fun z hz => ⟨(h z hz).1.1, (h z hz).1.2, (h z hz).2⟩
theorem words_good : ∀ z ∈ wordTexts, GoodName z := by
  have h : ∀ z ∈ wordTexts, (1 ≤ z.length ∧ z.length ≤ 6) ∧ ∀ c ∈ z.cps.toList, c ∈ letters.cps.toList := by decide +kernel
  exact fun z hz => ⟨(h z hz).1.1, (h z hz).1.2, (h z hz).2⟩
abbrev tDr (ta : TE) : TE := tCall spDraw [] C8.E0 (tCons (tVar 0) (tCons ta tNil))
abbrev tWordLc (K : PySem.W.Frag) : TE := tLc (iRng1 (tCons (tOp (rI0 fun i j => .int (i + j)) (tC (.int 1)) (tDr (tC (.int 6)))) tNil)) (gName 7) tYes (tCall spOf [] C8.E0 (tCons (tVar 0) (tCons (tVar 2) tNil))) [7]
/-- a drawn word -/
theorem ed_word {K : PySem.W.Frag} {H : Hp} {b l : Addr} {z : Str} {v1 v3 v4 v5 v6 v7 v8 : Option V} {Q : VK} (bg : BagAt H b l) (sg : Signs z) (q : ∀ (ws : List Nat) (D : Addr) (H' : Hp), 1 ≤ ws.length → ws.length ≤ 6 → (∀ c ∈ ws, c ∈ letters.cps.toList) → Stay H H' → BagAt H' b l → H' D = some (.lst ((ws.map one).map V.str)) → Q (.ref D) H') :
    tWordLc K [some (.ref b), v1, some (.str z), v3, v4, v5, v6, v7, v8] H Q := by
  refine ed_draw (k := 6) (ev_var rfl) ev_c bg (by decide) (by decide) fun d H1 st1 bg1 hd => ?_
  refine ⟨1, d, rfl, rfl, 1 + d, rfl, by omega, by omega, fun D hD => ?_⟩
  have oD := bg1.old hD
  refine lc_it walk_range (fun i H' => Stay H1 H' ∧ BagAt H' b l ∧ ∃ ws : List Nat, ws.length = i ∧ (∀ c ∈ ws, c ∈ letters.cps.toList) ∧ H' D = some (.lst ((ws.map one).map V.str)))
    ⟨Stay.of (Ex.new hD), bg1.upd oD.1 oD.2, [], rfl, fun c hc => (by cases hc), upd_same⟩ (fun _ _ _ _ => trivial) ?_ ?_
  · rintro i x H2 H2' hi ⟨st, bg2, ws, hl, hc, hD2⟩ ⟨rfl, rfl⟩
    refine ⟨rfl, et_yes _ (Ex.refl _) _ fun H3 e3 => iteT ?_⟩
    refine ⟨_, rfl, _, rfl, b, l, _, rfl, bg2.ex e3, .inr ⟨z, rfl, sg.lo, sg.hi, fun c H4 hcz st4 bg4 => ?_⟩⟩
    have hD4 := st4 _ _ (e3 _ _ hD2) (nb_strs _)
    refine ⟨_, hD4, by rw [List.length_map, List.length_map]; exact sz_lt (by omega), stay_upd ((st.ex e3).trans st4) hD, bg4.upd oD.1 oD.2, ws ++ [c], by rw [List.length_append, hl]; rfl, fun x hx => ?_, ?_⟩
    · rcases List.mem_append.mp hx with h | h
      · exact hc x h
      · rw [List.mem_singleton.mp h]
        exact sg.cs c hcz
    · rw [upd_same, List.map_append, List.map_append]
      rfl
  · rintro H2 ⟨st, bg2, ws, hl, hc, hD2⟩
    exact q ws D H2 (by omega) (by omega) hc (st1.trans st) bg2 hD2
theorem q_joinW {to te : TE} {i : Nat} {D : Ends} {σ : L2.St} {H : Hp} {K : PySem.W.Frag} {a : Str} (ho : to = tC (.str a))
    (h : te σ H fun y H1 => ∃ a' p, ∃ ys : List Str, V.str a = .str a' ∧ [y] = [.ref p] ∧ (SqL K H1 p (ys.map V.str) ∨ SqT K H1 p (ys.map V.str)) ∧ (ys.map (·.length)).sum + ys.length * a'.length ≤ 16777216 ∧ D.nx (σ.set i (some (.str (Txt.join a' ys)))) H1) :
    tAsg (tM1 (fun x xs H Q => ∃ a p, ∃ ys : List Str, x = .str a ∧ xs = [.ref p] ∧ (SqL K H p (ys.map V.str) ∨ SqT K H p (ys.map V.str)) ∧ (ys.map (·.length)).sum + ys.length * a.length ≤ 16777216 ∧ Q (.str (Txt.join a ys)) H) to te) (gName i) D σ H := by
  subst ho
  exact ⟨⟨a, rfl⟩, h⟩
section
variable {P : Program} {w : World} {K : PySem.W.Frag} {mg : Str → Option Value} {base : Heap}
theorem ok_lnames {f : Addr} {fd : FuncData} (B : Bi mg) (Gd : C8.Cal P w K mg base 1 "_law_draw" spDraw []) (Go : C8.Cal P w K mg base 2 "_law_of" spOf []) (D : C8.Def K mg "_law_names" sLNames f fd) (b : Binds K fd ["_law_bag_here", "_law_many"] []) : C8.Cal P w K mg base 3 "_law_names" spLNames [] := by
  refine C8.cal0 D b .nil scNm (fun vs H Q E h => ?_) (fun cdv A outer s0 H vs Q E hr h => ?_)
  · obtain ⟨b, l, m, rfl, _⟩ := h
    rfl
  obtain ⟨b, l, m, rfl, bg, few, k⟩ := h
  refine ⟨_, pss_cons (ps_set (i := 2) scNm.nd rfl (Or.inr rfl) (C8.pe_c Go hr (by decide) (by rfl) (pa_cons (pv 0) (pa_cons (pe_lst (pa_cons pe_str (pa_cons pe_str (pa_cons pe_str (pa_cons pe_str pa_nil))))) pa_nil))))
    (pss_cons (ps_set (i := 3) scNm.nd rfl (Or.inl rfl) (pe_lst (pa_cons pe_str (pa_cons pe_str (pa_cons pe_str (pa_cons pe_str (pa_cons pe_str (pa_cons pe_str (pa_cons pe_str (pa_cons pe_str (pa_cons pe_str (pa_cons pe_str (pa_cons pe_str pa_nil)))))))))))))
    (pss_cons (ps_set (i := 4) scNm.nd rfl (Or.inr rfl) (pe_lst pa_nil))
    (pss_cons (ps_for PassesOwn.never rfl (pi_range1 (by rfl) B.range (pa_cons (pv 1) pa_nil)) (pg_name (i := 5) scNm.nd rfl (Or.inl rfl))
      (pss_cut (ps_if (pt_cmpR op_eq (C8.pe_c Gd hr (by decide) (by rfl) (pa_cons (pv 0) (pa_cons pe_int pa_nil))) pe_int (nomark _))
          (pss_one (ps_set (i := 6) scNm.nd rfl (Or.inl rfl) (C8.pe_c Go hr (by decide) (by rfl) (pa_cons (pv 0) (pa_cons (pv 3) pa_nil)))))
          (pss_one (ps_set (i := 6) scNm.nd rfl (Or.inl rfl) (pe_join pe_str
            (pe_lc (own := [("_law_spot", 7)]) (g := gName 7) (tt := tYes) (te := tCall spOf [] C8.E0 (tCons (tVar 0) (tCons (tVar 2) tNil))) rfl scNm.nd (pi_range1 (by rfl) B.range (pa_cons (pe_op op_add pe_int (C8.pe_c Gd hr (by decide) (by rfl) (pa_cons (pv 0) (pa_cons pe_int pa_nil)))) pa_nil)) (blkOk_by (N := nmNm) (sc := C8.fnScope sLNames) (by decide +kernel))
              (fun _ _ _ _ _ => pg_name (i := 7) scNm.nd rfl (Or.inl rfl)) (fun _ _ _ _ _ => pts_nil) (fun _ _ _ _ _ => C8.pe_c Go hr (by decide) (by rfl) (pa_cons (pv 0) (pa_cons (pv 2) pa_nil))))))))
      (pss_cut (ps_if (pt_cmpR op_in_seq (pv 6) (pv 4) (by rfl)) (pss_one (ps_set (i := 6) scNm.nd rfl (Or.inl rfl) (pe_ix ix_list
            (pe_lc (own := [("_law_sign", 8)]) (g := gName 8) (tt := tTest (tOp (rIn K true) (tVar 8) (tVar 4))) (te := tVar 8) rfl scNm.nd (pi_str pe_str) (blkOk_by (N := nmNm) (sc := C8.fnScope sLNames) (by decide +kernel))
              (fun _ _ _ _ _ => pg_name (i := 8) scNm.nd rfl (Or.inl rfl)) (fun _ _ _ _ _ => pts_one (pt_cmpR op_notIn_seq (pv 8) (pv 4) (by rfl))) (fun _ _ _ _ _ => pv 8)) pe_int (fun _ _ => rfl)))) pss_nil)
      (pss_one (ps_expr (pe_bm PySem.F.plainAttrs_list PySem.F.slot_list_append PySem.F.type_list_append mt_append (pv 4) (pa_cons (pv 6) pa_nil)))))))
    (pss_one (ps_ret (pv 4)))))), ?_⟩
  -- the signs
  refine q_raw ⟨_, rfl, ?_⟩
  refine el_lst (vs := signTexts.map V.str) (ea_cons ev_c (ea_cons ev_c (ea_cons ev_c (ea_cons ev_c ea_nil)))) (by show 4 ≤ 100000; decide) H (Ex.refl _) _ fun ls H1 _ e1 hls => ?_
  refine ⟨b, l, _, rfl, bg.ex e1, .inl ⟨ls, _, rfl, hls, nb_strs _, by show 0 < 4; decide, by show 4 ≤ 1000; decide, fun v H2 hv st2 bg2 => ?_⟩⟩
  obtain ⟨z, hz, rfl⟩ := List.mem_map.mp hv
  have sg := signs_good z hz
  have st2 := (Stay.of e1).trans st2
  -- the words
  refine q_asgL (xs := wordTexts.map V.str) (el_lst (ea_cons ev_c (ea_cons ev_c (ea_cons ev_c (ea_cons ev_c (ea_cons ev_c (ea_cons ev_c (ea_cons ev_c (ea_cons ev_c (ea_cons ev_c (ea_cons ev_c (ea_cons ev_c ea_nil))))))))))) (by show 11 ≤ 100000; decide)) fun lw H3 _ e3 hlw => ?_
  refine q_asgL (el_lst ea_nil (Nat.zero_le _)) fun lf H4 nf e4 hlf => ?_
  have e34 := e3.trans e4
  have bg4 := bg2.ex e34
  have nf3 := nf
  have hw4 := e4 _ _ hlw
  have of := (bg2.ex e3).old nf
  have nwf : lw ≠ lf := fun e => by
    rw [e, ] at hlw
    rw [nf] at hlw
    cases hlw
  refine q_forR1 (ea_cons (ev_var rfl) ea_nil) ⟨by omega, by omega⟩ (fun i σ H' => Stay H2 H' ∧ BagAt H' b l ∧ H' lw = some (.lst (wordTexts.map V.str)) ∧ ∃ v5 v6 fs, σ = [some (.ref b), some (.int m), some (.str z), some (.ref lw), some (.ref lf), v5, v6, none, none] ∧ H' lf = some (.lst (fs.map V.str)) ∧ fs.length = i ∧ GoodNames fs ∧ fs.Nodup)
    (fun H5 e5 => ⟨Stay.of (e34.trans e5), bg4.ex e5, e5 _ _ hw4, none, none, [], rfl, e5 _ _ hlf, rfl, fun x hx => (by cases hx), List.nodup_nil⟩) ?_ ?_
  · rintro i σ H5 hi ⟨st5, bg5, hw5, v5, v6, fs, rfl, hf5, lfs, gfs, ndf⟩
    have nf2 := fresh_back e3 nf
    -- a word
    refine q_cut (M := fun σ H' => Stay H5 H' ∧ BagAt H' b l ∧ ∃ wd, GoodName wd ∧ σ = [some (.ref b), some (.int m), some (.str z), some (.ref lw), some (.ref lf), some (.int (i : Nat)), some (.str wd), none, none]) ?_ ?_
    · refine ed_draw (k := 6) (ev_var rfl) ev_c bg5 (by decide) (by decide) fun d H6 st6 bg6 hd => ?_
      refine ⟨rfl, _, rfl, ?_⟩
      have hw6 := st6 _ _ hw5 (nb_strs _)
      by_cases hd5 : V.int d = V.int 5
      · rw [decide_eq_true hd5]
        refine iteT (s_raw ⟨_, rfl, _, rfl, b, l, _, rfl, bg6, .inl ⟨lw, _, rfl, hw6, nb_strs _, by show 0 < 11; decide, by show 11 ≤ 1000; decide, fun v H7 hv st7 bg7 => ?_⟩⟩)
        obtain ⟨wd, hwd, rfl⟩ := List.mem_map.mp hv
        exact ⟨st6.trans st7, bg7, wd, words_good wd hwd, rfl⟩
      · rw [decide_eq_false hd5]
        refine iteF (q_joinW (K := K) rfl (ed_word (K := K) bg6 sg fun ws Dl H7 w1 w2 wc st7 bg7 hD => ?_))
        refine ⟨_, Dl, ws.map one, rfl, rfl, .inl (sq_of hD), ?_, st6.trans st7, bg7, _, good_ones w1 w2 wc, rfl⟩
        rw [List.map_map, List.length_map]
        have q := sum_le (l := ws) (f := fun c => (one c).length) (k := 1) fun c _ => Nat.le_refl 1
        show (List.map (fun c => (one c).length) ws).sum + _ ≤ _
        have l1 : (Str.ofString "").length = 0 := by decide +kernel
        rw [l1]
        omega
    rintro σ H6 ⟨st6, bg6, wd, gw, rfl⟩
    have hf6 := st6 _ _ hf5 (nb_strs _)
    have hw6 := st6 _ _ hw5 (nb_strs _)
    -- a fresh one
    refine q_cut (M := fun σ H' => Ex H6 H' ∧ ∃ wd, GoodName wd ∧ wd ∉ fs ∧ σ = [some (.ref b), some (.int m), some (.str z), some (.ref lw), some (.ref lf), some (.int (i : Nat)), some (.str wd), none, none]) ?_ ?_
    · refine s_when (et_test (ev_in (ev_var rfl) (ev_var rfl) (.inl (sq_of hf6)))) (fun _ H7 e7 => ?_) fun h H7 e7 => ⟨e7, wd, gw, of_decide_eq_false h, rfl⟩
      obtain ⟨c, r, er, hc, hcf⟩ := fresh_sign (found := fs) (by omega)
      refine s_asg (v := .str (one c)) (ev_opL1 (el_compC (z := allSigns) (fun c => decide (one c ∉ fs)) (fun c => V.str (one c)) ev_c (by decide +kernel) (fun _ => rfl)
        (fun c H' _ e => ⟨et_test (ev_nin (ev_var rfl) (ev_var rfl) (.inl (sq_of (e _ _ (e7 _ _ hf6))))), fun _ => ev_var rfl⟩)) (fun _ _ => ev_c) (fun p H8 hp _ => rv_ixL (sq_of hp) ?_)) fun H8 e8 => ⟨e7.trans e8, one c, good_one hc, hcf, rfl⟩
      exact atI_nat (j := 0) (by rw [er] <;> rfl)
    rintro σ H7 ⟨e7, wd, gw, hwf, rfl⟩
    refine s_app (e7 _ _ hf6) (ev_var rfl) (ev_var rfl) (by rw [List.length_map]; omega) fun H8 e8 => ?_
    have e78 := e7.trans e8
    refine ⟨stay_upd ((st5.trans st6).ex e78) nf2, (bg6.ex e78).upd of.1 of.2, by rw [upd_ne nwf]; exact e78 _ _ hw6, _, _, fs ++ [wd], rfl, ?_, by rw [List.length_append, lfs]; rfl, fun x hx => ?_, nodup_snoc ndf hwf⟩
    · rw [upd_same, List.map_append]
      rfl
    · rcases List.mem_append.mp hx with h | h
      · exact gfs x h
      · rw [List.mem_singleton.mp h]
        exact gw
  · rintro σ H5 ⟨st5, bg5, hw5, v5, v6, fs, rfl, hf5, lfs, gfs, ndf⟩
    exact s_ret (ev_var rfl) fun H6 e6 => k lf fs H6 (by omega) gfs ndf ((st2.trans st5).ex e6) (bg5.ex e6) (e6 _ _ hf5)
end
end K12

/-! K12Y: _law_rows_near. -/
namespace K12
open PySem PySem.Spec PyProof.Rows L2 Evl

theorem SideAt.stay {H H' : Hp} {p : Addr} {s : Sides} (h : SideAt H p s) (e : Stay H H') : SideAt H' p s := by
  obtain ⟨g, b, h1, h2, h3⟩ := h
  exact ⟨g, b, e _ _ h1 (nb_tup _), e _ _ h2 (nb_strs _), e _ _ h3 (nb_strs _)⟩
theorem RowsAt.stay {H H' : Hp} {l : Addr} {ss : List Sides} (h : RowsAt H l ss) (e : Stay H H') : RowsAt H' l ss := by
  obtain ⟨ps, h1, h2, h3⟩ := h
  exact ⟨ps, e _ _ h1 (nb_refs _), h2, fun i p s a b => (h3 i p s a b).stay e⟩
theorem strs_refs {xs : List Str} {ps : List Addr} (hp : ps ≠ []) : HO.lst (xs.map V.str) ≠ HO.lst (ps.map V.ref) := fun e => by
  have q := lst_inj e
  cases ps with
  | nil => exact hp rfl
  | cons p r =>
    cases xs with
    | nil => cases q
    | cons x r => injection q with q1 q2; cases q1
theorem SideAt.upd {H : Hp} {p fp : Addr} {s : Sides} {ps : List Addr} {o : HO} (h : SideAt H p s) (hf : H fp = some (.lst (ps.map V.ref))) (hp : ps ≠ []) : SideAt (upd H fp o) p s := by
  obtain ⟨g, b, h1, h2, h3⟩ := h
  exact ⟨g, b, by rw [upd_ne (ne_of h1 hf (by intro q; cases q))]; exact h1, by rw [upd_ne (ne_of h2 hf (strs_refs hp))]; exact h2, by rw [upd_ne (ne_of h3 hf (strs_refs hp))]; exact h3⟩
/-- one more row -/
theorem RowsAt.snoc {H : Hp} {fp sd : Addr} {ss : List Sides} {s : Sides} (h : RowsAt H fp ss) (n : ss ≠ []) (hs : SideAt H sd s) : ∃ xs, H fp = some (.lst xs) ∧ xs.length = ss.length ∧ RowsAt (upd H fp (.lst (xs ++ [.ref sd]))) fp (ss ++ [s]) := by
  obtain ⟨ps, h1, h2, h3⟩ := h
  have np : ps ≠ [] := fun e => by
    rw [e] at h2
    exact n (List.eq_nil_of_length_eq_zero h2.symm)
  refine ⟨ps.map V.ref, h1, by rw [List.length_map, h2], ps ++ [sd], by rw [upd_same, List.map_append]; rfl, by rw [List.length_append, List.length_append, h2]; rfl, fun i p t hp ht => ?_⟩
  rcases Nat.lt_or_ge i ps.length with hi | hi
  · rw [List.getElem?_append_left hi] at hp
    rw [List.getElem?_append_left (by omega)] at ht
    exact (h3 i p t hp ht).upd h1 np
  · rw [List.getElem?_append_right hi] at hp
    rw [List.getElem?_append_right (by omega)] at ht
    have e : i - ps.length = 0 := by
      rcases Nat.eq_zero_or_pos (i - ps.length) with z | z
      · exact z
      · rw [List.getElem?_eq_none (by exact z)] at hp
        cases hp
    have e2 : i - ss.length = 0 := by omega
    rw [e] at hp
    rw [e2] at ht
    obtain rfl := Option.some.inj hp
    obtain rfl := Option.some.inj ht
    exact hs.upd h1 np
section
variable {K : PySem.W.Frag} {σ : L2.St} {H : Hp} {te ta tb : TE} {b l t : Addr} {ns : List Str} {E : XK}
theorem ed_sides {Q : VK} (h1 : Ev ta σ H (.ref b)) (h2 : Ev tb σ H (.ref t)) (bg : BagAt H b l) (ht : H t = some (.lst (ns.map V.str))) (nd : ns.Nodup) (few : ns.length ≤ 1000)
    (q : ∀ r s H', In ns s → Stay H H' → BagAt H' b l → SideAt H' r s → Q (.ref r) H') : tCall spSides [] E (tCons ta (tCons tb tNil)) σ H Q :=
  h1 H (Ex.refl _) _ fun H1 e1 => h2 H1 e1 _ fun H2 e2 => ⟨b, l, t, ns, rfl, bg.ex (e1.trans e2), (e1.trans e2) _ _ ht, nd, few, fun r s H' hi st bg' S => q r s H' hi ((Stay.of (e1.trans e2)).trans st) bg' S⟩
theorem s_lst1 {Q : VK} (h : te σ H fun x H1 => ∀ p, H1 p = none → Q (.ref p) (upd H1 p (.lst [x]))) : tLst (tCons te tNil) σ H Q := by
  have e : 1 ≤ sizeLine := by decide
  have q : (te σ H fun x H1 => 1 ≤ sizeLine ∧ ∀ p, H1 p = none → Q (.ref p) (upd H1 p (.lst [x]))) := by
    simp only [e, true_and]
    exact h
  exact q
theorem el_compF {p : Str → Bool} {tl te : TE} {tt : TT} {a : Addr} {xs : List Str} {vs : List Nat} {j : Nat} (h : Ev tl σ H (.ref a)) (hx : SqL K H a (xs.map V.str)) (hn : xs.length ≤ 40000) (hw : ∀ x, wipe ((wipe σ vs).set j (some x)) vs = wipe σ vs)
    (hs : ∀ x H', x ∈ xs → Ex H H' → EvT tt ((wipe σ vs).set j (some (.str x))) H' (p x)) (he : ∀ x H', Ev te ((wipe σ vs).set j (some (.str x))) H' (.str x)) : EvL (tLc (iList K tl) (gName j) tt te vs) σ H ((xs.filter p).map V.str) :=
  el_compL (emb := V.str) Str.empty p V.str h hx hn hw fun x H' hm e => ⟨hs x H' hm e, fun _ => he x H'⟩
end
def spNear : Sp := fun vs H Q _ => ∃ (b l t : Addr) (ns : List Str), vs = [.ref b, .ref t] ∧ BagAt H b l ∧ H t = some (.lst (ns.map V.str)) ∧ Names ns ∧ ∀ (r : Addr) (ss : List Sides) (H' : Hp), ss.length = 3 → (∀ s ∈ ss, In ns s) → Stay H H' → BagAt H' b l → RowsAt H' r ss → Q (.ref r) H'
abbrev nmNr : List Str := ["_law_bag_here", "_law_names_here", "_law_found", "_law_k", "_law_sides_here", "_law_good", "_law_bad", "_law_own", "_law_x"]
theorem scNr : FnScope nmNr ["_law_bag_here", "_law_names_here"] (C8.fnScope sNear) := C8.fnScope_by (by decide +kernel)
section
variable {P : Program} {w : World} {K : PySem.W.Frag} {mg : Str → Option Value} {base : Heap}
theorem ok_near {f : Addr} {fd : FuncData} (B : Bi mg) (Gd : C8.Cal P w K mg base 1 "_law_draw" spDraw []) (Gs : C8.Cal P w K mg base 2 "_law_sides" spSides []) (D : C8.Def K mg "_law_rows_near" sNear f fd) (b : Binds K fd ["_law_bag_here", "_law_names_here"] []) : C8.Cal P w K mg base 3 "_law_rows_near" spNear [] := by
  refine C8.cal0 D b .nil scNr (fun vs H Q E h => ?_) (fun cdv A outer s0 H vs Q E hr h => ?_)
  · obtain ⟨b, l, t, ns, rfl, _⟩ := h
    rfl
  obtain ⟨b, l, t, ns, rfl, bg, ht, N, k⟩ := h
  refine ⟨_, pss_cons (ps_set (i := 2) scNr.nd rfl (Or.inr rfl) (pe_lst (pa_cons (C8.pe_c Gs hr (by decide) (by rfl) (pa_cons (pv 0) (pa_cons (pv 1) pa_nil))) pa_nil)))
    (pss_cons (ps_for PassesOwn.never rfl (pi_range1 (by rfl) B.range (pa_cons pe_int pa_nil)) (pg_name (i := 3) scNr.nd rfl (Or.inl rfl))
      (pss_cons (ps_set (i := 4) scNr.nd rfl (Or.inr rfl) (C8.pe_c Gs hr (by decide) (by rfl) (pa_cons (pv 0) (pa_cons (pv 1) pa_nil))))
      (pss_cut (ps_if (pt_cmpR op_eq (C8.pe_c Gd hr (by decide) (by rfl) (pa_cons (pv 0) (pa_cons pe_int pa_nil))) pe_int (nomark _))
        (pss_cons (ps_set (i := 5) scNr.nd rfl (Or.inr rfl) (pe_op op_cat
          (pe_lc (own := [("_law_own", 7)]) (g := gName 7) (tt := tTest (tOp (rIn K true) (tVar 7) (tOp (rIxT K) (tVar 4) (tC (.int 1))))) (te := tVar 7) rfl scNr.nd (pi_list (pe_ix ix_tup (pe_ix ix_list (pv 2) pe_int (fun _ _ => rfl)) pe_int (fun _ _ => rfl))) (blkOk_by (N := nmNr) (sc := C8.fnScope sNear) (by decide +kernel))
            (fun _ _ _ _ _ => pg_name (i := 7) scNr.nd rfl (Or.inl rfl)) (fun _ _ _ _ _ => pts_one (pt_cmpR op_notIn_seq (pv 7) (pe_ix ix_tup (pv 4) pe_int (fun _ _ => rfl)) (by rfl))) (fun _ _ _ _ _ => pv 7))
          (pe_lc (own := [("_law_own", 7)]) (g := gName 7) (tt := tTest (tOp (rIn K true) (tVar 7) (tOp (rIxT K) (tOp (rIxL K) (tVar 2) (tC (.int 0))) (tC (.int 1))))) (te := tVar 7) rfl scNr.nd (pi_list (pe_ix ix_tup (pv 4) pe_int (fun _ _ => rfl))) (blkOk_by (N := nmNr) (sc := C8.fnScope sNear) (by decide +kernel))
            (fun _ _ _ _ _ => pg_name (i := 7) scNr.nd rfl (Or.inl rfl)) (fun _ _ _ _ _ => pts_one (pt_cmpR op_notIn_seq (pv 7) (pe_ix ix_tup (pe_ix ix_list (pv 2) pe_int (fun _ _ => rfl)) pe_int (fun _ _ => rfl)) (by rfl))) (fun _ _ _ _ _ => pv 7))))
        (pss_cons (ps_set (i := 5) scNr.nd rfl (Or.inr rfl)
          (pe_lc (own := [("_law_x", 8)]) (g := gName 8) (tt := tTest (tOp (rIn K false) (tVar 8) (tVar 5))) (te := tVar 8) rfl scNr.nd (pi_list (pv 1)) (blkOk_by (N := nmNr) (sc := C8.fnScope sNear) (by decide +kernel))
            (fun _ _ _ _ _ => pg_name (i := 8) scNr.nd rfl (Or.inl rfl)) (fun _ _ _ _ _ => pts_one (pt_cmpR op_in_seq (pv 8) (pv 5) (by rfl))) (fun _ _ _ _ _ => pv 8)))
        (pss_cons (ps_setLc (i := 6) (own := [("_law_own", 7)]) (g := gName 7) (tt := tTest (tOp (rIn K true) (tVar 7) (tVar 5))) (te := tVar 7) rfl scNr.nd rfl rfl (sw_true rfl rfl rfl (by decide +kernel)) (pi_list (pe_ix ix_tup (pe_ix ix_list (pv 2) pe_int (fun _ _ => rfl)) pe_int (fun _ _ => rfl))) (blkOk_by (N := nmNr) (sc := C8.fnScope sNear) (by decide +kernel))
            (fun _ _ _ _ _ => pg_name (i := 7) scNr.nd rfl (Or.inl rfl)) (fun _ _ _ _ _ => pts_one (pt_cmpR op_notIn_seq (pv 7) (pv 5) (by rfl))) (fun _ _ _ _ _ => pv 7))
        (pss_one (ps_set (i := 4) scNr.nd rfl (Or.inr rfl) (pe_tup (pa_cons (pv 5) (pa_cons (pe_slice sl_list (pv 6) po_none (po_some (C8.pe_c Gd hr (by decide) (by rfl) (pa_cons (pv 0) (pa_cons (pe_op op_add (pe_callB call_len_seq (by rfl) B.len PySem.boot_len (pa_cons (pv 6) pa_nil)) pe_int) pa_nil))))) pa_nil)))))))) pss_nil)
      (pss_one (ps_expr (pe_bm PySem.F.plainAttrs_list PySem.F.slot_list_append PySem.F.type_list_append mt_append (pv 2) (pa_cons (pv 4) pa_nil)))))))
    (pss_one (ps_ret (pv 2)))), ?_⟩
  have nhi := N.hi
  refine q_raw (s_lst1 (ed_sides (ev_var rfl) (ev_var rfl) bg ht N.nd (by omega) fun p0 s0 H1 i0 st1 bg1 S0 fp nfp => ?_))
  have nfp0 : ∀ {o}, H fp = some o → NB o → False := fun {o} h n => by
    have q := st1 _ _ h n
    rw [nfp] at q
    cases q
  have ofp := bg1.old nfp
  have up1 : ∀ {H' : Hp} {o : HO}, Stay H H' → (∀ {o'}, H fp = some o' → NB o' → False) → Stay H (upd H' fp o) := fun {H' o} s n a u ha hn => by
    have ne : a ≠ fp := fun e => by
      rw [e] at ha
      exact n ha hn
    rw [upd_ne ne]
    exact s a u ha hn
  refine q_forR1 (ea_cons ev_c ea_nil) ⟨by decide, by decide⟩ (fun i σ H' => Stay H H' ∧ BagAt H' b l ∧ ∃ v3 v4 v5 v6 ss, σ = [some (.ref b), some (.ref t), some (.ref fp), v3, v4, v5, v6, none, none] ∧ RowsAt H' fp ss ∧ ss.length = i + 1 ∧ ∀ s ∈ ss, In ns s)
    (fun H2 e2 => ⟨(up1 st1 nfp0).ex e2, (bg1.upd ofp.1 ofp.2).ex e2, none, none, none, none, [s0], rfl, ⟨[p0], e2 _ _ upd_same, rfl, fun i p s hp hs => ?_⟩, rfl, fun s hs => by rw [List.mem_singleton.mp hs]; exact i0⟩) ?_ ?_
  · match i, hp, hs with
    | 0, hp, hs =>
      obtain rfl := Option.some.inj hp
      obtain rfl := Option.some.inj hs
      exact (S0.ex (Ex.new nfp)).ex e2
    | i + 1, hp, hs => cases hp
  · rintro i σ H2 hi ⟨st2, bg2, v3, v4, v5, v6, ss, rfl, RA2, lss, hin⟩
    have ne0 : ss ≠ [] := fun e => by
      rw [e] at lss
      cases lss
    have ht2 := st2 _ _ ht (nb_strs _)
    refine q_raw (ed_sides (ev_var rfl) (ev_var rfl) bg2 ht2 N.nd (by omega) fun sd s H3 is st3 bg3 S3 => ?_)
    refine q_cut (M := fun σ H' => Stay H2 H' ∧ BagAt H' b l ∧ ∃ v5 v6 sd s, σ = [some (.ref b), some (.ref t), some (.ref fp), some (.int (i : Nat)), some (.ref sd), v5, v6, none, none] ∧ In ns s ∧ SideAt H' sd s) ?_ ?_
    · refine ed_draw (k := 2) (ev_var rfl) ev_c bg3 (by decide) (by decide) fun d H4 st4 bg4 hd => ?_
      refine ⟨rfl, _, rfl, ?_⟩
      have st24 := st3.trans st4
      by_cases hd0 : V.int d = V.int 0
      · rw [decide_eq_true hd0]
        refine iteT ?_
        have RA4 := RA2.stay st24
        have S4 := S3.stay st4
        have ht4 := st24 _ _ ht2 (nb_strs _)
        obtain ⟨ps, g1, g2, g3⟩ := RA4
        obtain ⟨a, ha⟩ : ∃ a, ss[0]? = some a := ⟨ss[0], List.getElem?_eq_getElem (by omega)⟩
        obtain ⟨pa, hpa⟩ := get_len g2 ha
        have ia := hin a (List.mem_of_getElem? ha)
        obtain ⟨ag, ab, x0, x1, x2⟩ := g3 0 pa a hpa ha
        obtain ⟨sg, sb, y0, y1, y2⟩ := S4
        have la := ia.len N
        have ls := is.len N
        have first : ∀ {σ : L2.St} {H' : Hp}, Ex H4 H' → σ[2]? = some (some (.ref fp)) → Ev (tOp (rIxL K) (tVar 2) (tC (.int 0))) σ H' (.ref pa) := fun {σ H'} e hσ => ev_ixL (i := 0) (ev_var hσ) ev_c (sq_of (e _ _ g1)) (by rw [List.getElem?_map, hpa] <;> rfl)
        -- good, twice; bad
        refine q_asgL (xs := ((a.1.filter fun x => decide (x ∉ s.2)) ++ (s.1.filter fun x => decide (x ∉ a.2))).map V.str) (by
          rw [List.map_append]
          refine el_cat (el_compF (a := ag) (ev_ixT (i := 0) (first (Ex.refl _) rfl) ev_c (st_of x0) rfl) (sq_of x1) (by omega) (fun _ => rfl) (fun z H' hz e => et_test (ev_nin (ev_var rfl) (ev_ixT (i := 1) (ev_var rfl) ev_c (st_of (e _ _ y0)) rfl) (.inl (sq_of (e _ _ y2))))) (fun _ _ => ev_var rfl))
            (el_compF (a := sg) (ev_ixT (i := 0) (ev_var rfl) ev_c (st_of y0) rfl) (sq_of y1) (by omega) (fun _ => rfl) (fun z H' hz e => et_test (ev_nin (ev_var rfl) (ev_ixT (i := 1) (first e rfl) ev_c (st_of (e _ _ x0)) rfl) (.inl (sq_of (e _ _ x2))))) (fun _ _ => ev_var rfl)) ?_
          rw [List.length_map, List.length_map]
          have q1 := List.length_filter_le (fun x => decide (x ∉ s.2)) a.1
          have q2 := List.length_filter_le (fun x => decide (x ∉ a.2)) s.1
          omega) fun lg1 H5 n5 e5 h5 => ?_
        generalize hG : (a.1.filter fun x => decide (x ∉ s.2)) ++ (s.1.filter fun x => decide (x ∉ a.2)) = G1 at h5
        refine q_asgL (el_compF (p := fun x => decide (x ∈ G1)) (a := t) (xs := ns) (ev_var rfl) (sq_of (e5 _ _ ht4)) (by omega) (fun _ => rfl) (fun z H' hz e => et_test (ev_in (ev_var rfl) (ev_var rfl) (.inl (sq_of (e _ _ h5))))) (fun _ _ => ev_var rfl)) fun lg2 H6 n6 e6 h6 => ?_
        generalize hG2 : (ns.filter fun x => decide (x ∈ G1)) = G2 at h6
        have e46 := e5.trans e6
        refine q_asgL (el_compF (p := fun x => decide (x ∉ G2)) (a := ab) (xs := a.2) (ev_ixT (i := 1) (first e46 rfl) ev_c (st_of (e46 _ _ x0)) rfl) (sq_of (e46 _ _ x2)) (by omega) (fun _ => rfl) (fun z H' hz e => et_test (ev_nin (ev_var rfl) (ev_var rfl) (.inl (sq_of (e _ _ h6))))) (fun _ _ => ev_var rfl)) fun lb H7 n7 e7 h7 => ?_
        generalize hB : (a.2.filter fun x => decide (x ∉ G2)) = B1 at h7
        have lB : B1.length ≤ 4 := by
          rw [← hB]
          have := List.length_filter_le (fun x => decide (x ∉ G2)) a.2
          omega
        have e47 := e46.trans e7
        refine ⟨_, rfl, _, rfl, ?_⟩
        refine ed_draw (k := B1.length + 1) (ev_var rfl) (ev_add (ev_is (ev_lenV (K := K) (ev_var rfl) (.inl (sq_of h7))) (by rw [List.length_map])) ev_c) (bg4.ex e47) (by omega) (by omega) fun d H8 st8 bg8 hd8 => ?_
        have h68 := st8 _ _ (e7 _ _ h6) (nb_strs _)
        refine ⟨d, rfl, lb, _, rfl, sq_of (st8 _ _ h7 (nb_strs _)), fun np hnp => ?_⟩
        refine ⟨by show 2 ≤ sizeLine; decide, fun nt hnt => ?_⟩
        have eN : Ex H8 (upd H8 np (.lst (cutV (B1.map V.str) none (some (d : Int))))) := Ex.new hnp
        have eT := eN.trans (Ex.new (o := .tup [V.ref lg2, V.ref np]) hnt)
        refine ⟨((st24.ex e47).trans st8).ex eT, bg8.ex eT, _, _, nt, (G2, B1.take d), rfl, ⟨⟨?_, ?_, ?_⟩, ?_, ?_⟩, lg2, np, upd_same, eT _ _ h68, ?_⟩
        · show G2.Nodup
          rw [← hG2]
          exact N.nd.sublist List.filter_sublist
        · show (B1.take d).Nodup
          rw [← hB]
          exact (ia.wf.b.sublist List.filter_sublist).sublist (List.take_sublist _ _)
        · intro x hx hb
          have q := List.mem_of_mem_take hb
          rw [← hB] at q
          exact of_decide_eq_true (List.mem_filter.mp q).2 hx
        · intro x hx
          have hx : x ∈ G2 := hx
          rw [← hG2] at hx
          exact (List.mem_filter.mp hx).1
        · intro x hx
          have q := List.mem_of_mem_take hx
          rw [← hB] at q
          exact ia.b x (List.mem_filter.mp q).1
        · have q := (Ex.new (o := .tup [V.ref lg2, V.ref np]) hnt) np _ (upd_same (H := H8) (a := np) (o := .lst (cutV (B1.map V.str) none (some (d : Int)))))
          rw [q, cut_take]
      · rw [decide_eq_false hd0]
        exact iteF ⟨st24, bg4, _, _, sd, s, rfl, is, S3.stay st4⟩
    · rintro σ H4 ⟨st4, bg4, v5, v6, sd, s, rfl, is, S4⟩
      have RA4 := RA2.stay st4
      obtain ⟨xs, f1, f2, -⟩ := RA4.snoc ne0 S4
      refine s_app f1 (ev_var rfl) (ev_var rfl) (by omega) fun H5 e5 => ?_
      obtain ⟨xs', f1', f2', RA5⟩ := (RA4.ex e5).snoc ne0 (S4.ex e5)
      have ex : xs' = xs := by
        have q := (e5 _ _ f1).symm.trans f1'
        exact (lst_inj (Option.some.inj q)).symm
      subst ex
      refine ⟨up1 ((st2.trans st4).ex e5) nfp0, (bg4.ex e5).upd ofp.1 ofp.2, _, _, _, _, ss ++ [s], rfl, RA5, by rw [List.length_append, lss]; rfl, fun s' hs' => ?_⟩
      rcases List.mem_append.mp hs' with h | h
      · exact hin s' h
      · rw [List.mem_singleton.mp h]
        exact is
  · rintro σ H2 ⟨st2, bg2, v3, v4, v5, v6, ss, rfl, RA2, lss, hin⟩
    exact s_ret (ev_var rfl) fun H3 e3 => k fp ss H3 (by omega) hin (st2.ex e3) (bg2.ex e3) (RA2.ex e3)
end
end K12

/-! K12Z: law. -/
namespace K12
open PySem PySem.Spec PyProof.Rows L2 Evl

theorem RowR.stay {C : Addr} {H H' : Hp} {r : Addr} {s : Sides} (h : RowR C H r s) (e : Stay H H') : RowR C H' r s := by
  obtain ⟨dx, tp, tc, tn, h1, h2, h3, h4⟩ := h
  exact ⟨dx, tp, tc, tn, e _ _ h1 (nb_ins _ _ _), e _ _ h2 (nb_tup _), e _ _ h3 (nb_tup _), e _ _ h4 (nb_tup _)⟩
theorem MadeAt.stay {C : Addr} {H H' : Hp} {l : Addr} {ss : List Sides} (h : MadeAt C H l ss) (e : Stay H H') : MadeAt C H' l ss := by
  obtain ⟨ps, h1, h2, h3⟩ := h
  exact ⟨ps, e _ _ h1 (nb_refs _), h2, fun i p s a b => (h3 i p s a b).stay e⟩
theorem RowR.putD {C : Addr} {H : Hp} {r D : Addr} {s : Sides} {xs : List V} {o : HO} (h : RowR C H r s) (hD : H D = some (.lst xs)) : RowR C (upd H D o) r s := by
  obtain ⟨dx, tp, tc, tn, h1, h2, h3, h4⟩ := h
  have ne : ∀ {a : Addr} {u : HO}, H a = some u → u ≠ .lst xs → upd H D o a = some u := fun ha hu => by
    rw [upd_ne (ne_of ha hD hu)]
    exact ha
  exact ⟨dx, tp, tc, tn, ne h1 (by intro q; cases q), ne h2 (by intro q; cases q), ne h3 (by intro q; cases q), ne h4 (by intro q; cases q)⟩
theorem zip_maps {α β : Type} : ∀ {xs : List α} {ys : List β}, xs.length = ys.length → (xs.zip ys).map (·.1) = xs ∧ (xs.zip ys).map (·.2) = ys
  | [], [], _ => ⟨rfl, rfl⟩
  | x :: xs, y :: ys, h => by
    obtain ⟨a, b⟩ := zip_maps (xs := xs) (ys := ys) (Nat.succ.inj h)
    exact ⟨congrArg (List.cons x) a, congrArg (List.cons y) b⟩
theorem zip_mem {α β : Type} : ∀ {xs : List α} {ys : List β} {q : α × β}, q ∈ xs.zip ys → ∃ i : Nat, xs[i]? = some q.1 ∧ ys[i]? = some q.2
  | [], _, q, h => by cases h
  | x :: xs, [], q, h => by cases h
  | x :: xs, y :: ys, q, h => by
    rcases List.mem_cons.mp h with e | h
    · exact ⟨0, by rw [e]; rfl, by rw [e]; rfl⟩
    · obtain ⟨i, a, b⟩ := zip_mem (xs := xs) (ys := ys) h
      exact ⟨i + 1, a, b⟩
abbrev Zs := List (Addr × Sides)
theorem RowsAt.pairs {H : Hp} {l : Addr} {ss : List Sides} (h : RowsAt H l ss) : ∃ zs : Zs, H l = some (.lst (zs.map fun q => V.ref q.1)) ∧ zs.map (·.2) = ss ∧ ∀ q ∈ zs, SideAt H q.1 q.2 := by
  obtain ⟨ps, h1, h2, h3⟩ := h
  obtain ⟨a, b⟩ := zip_maps h2
  refine ⟨ps.zip ss, ?_, b, fun q hq => ?_⟩
  · rw [h1, ← a, List.map_map]
    rw [a]
    rfl
  · obtain ⟨i, x, y⟩ := zip_mem hq
    exact h3 i _ _ x y
theorem MadeAt.pairs {C : Addr} {H : Hp} {l : Addr} {ss : List Sides} (h : MadeAt C H l ss) : ∃ zs : Zs, H l = some (.lst (zs.map fun q => V.ref q.1)) ∧ zs.map (·.2) = ss ∧ ∀ q ∈ zs, RowR C H q.1 (rowOf q.2) := by
  obtain ⟨ps, h1, h2, h3⟩ := h
  obtain ⟨a, b⟩ := zip_maps h2
  refine ⟨ps.zip ss, ?_, b, fun q hq => ?_⟩
  · rw [h1, ← a, List.map_map]
    rw [a]
    rfl
  · obtain ⟨i, x, y⟩ := zip_mem hq
    exact h3 i _ _ x y
section
variable {K : PySem.W.Frag} {σ : L2.St} {H : Hp} {ta tb te to tl : TE} {C O o l : Addr} {s t : Sides} {E : XK} {line : List Str}
theorem ev_bears (h1 : Ev to σ H (.ref o)) (R : OrderR O H o line) (h2 : EvRow C ta σ H s) (i1 : ∀ x ∈ s.1, x ∈ line) (i2 : ∀ x ∈ s.2, x ∈ line) : Ev (tMeth O "bears" (spBears O C) [] E to (tCons ta tNil)) σ H (.bl (bearsO line s)) := fun H1 e Q q =>
  h1 H1 e _ fun H2 e2 => by
    have R2 := R.ex (e.trans e2)
    obtain ⟨dx, lr, ls, lt, kvs, x1, _⟩ := id R2
    exact ⟨o, dx, _, rfl, x1, ordF_no _ _ _ (by decide +kernel) (by decide +kernel) (by decide +kernel), h2 H2 (e.trans e2) _ fun r H3 e3 RR => ⟨o, r, line, s, rfl, R2.ex e3, RR, i1, i2, fun H4 e4 => q H4 ((e2.trans e3).trans e4)⟩⟩
theorem et_sameL {a : Addr} {bs : List Bool} (h1 : Ev ta σ H (.ref a)) (ha : H a = some (.lst (bs.map V.bl))) (few : bs.length ≤ 1000) (h2 : EvL tb σ H (bs.map V.bl)) : EvT (tB (tCall (spSame 2) [] E (tCons ta (tCons tb tNil)))) σ H true :=
  et_B fun H1 e Q q => h1 H1 e _ fun H2 e2 => h2 H2 (e.trans e2) _ fun p H3 np e3 hp => ⟨.ref a, .ref p, rfl, .inr (.inr ⟨a, p, _, _, rfl, rfl, .inl ⟨(e.trans (e2.trans e3)) _ _ ha, hp⟩, rfl, by rw [List.length_map]; exact few, fun i x y hx hy => by
    rw [hx] at hy
    obtain rfl := Option.some.inj hy
    rw [List.getElem?_map] at hx
    obtain ⟨c, _, rfl⟩ := Option.map_eq_some_iff.mp hx
    exact .inr (.inl ⟨c, rfl, rfl⟩)⟩), fun H4 e4 => q H4 ((e2.trans e3).trans e4)⟩
/-- the rows of the sides -/
theorem q_made {i j : Nat} {ss : List Sides} {tz : TS} {D : Ends} {vs : List Nat} (h : Ev tl σ H (.ref l)) (R : RowsAt H l ss) (few : ss.length ≤ 1000) (good : ∀ s ∈ ss, Good s) (hw : ∀ x, wipe ((wipe σ vs).set j (some x)) vs = wipe σ vs)
    (hj : ∀ x, ((wipe σ vs).set j (some x))[j]? = some (some x)) (k : ∀ lm H', Ex H H' → MadeAt C H' lm ss → tz D (σ.set i (some (.ref lm))) H') :
    tSeq (tAsg (tLc (iList K tl) (gName j) tYes (tCall (spRowOf C) [] E (tCons (tVar j) tNil)) vs) (gName i)) tz D σ H := by
  obtain ⟨ps, h1, h2, h3⟩ := R
  refine q_raw (h H (Ex.refl _) _ fun H1 e1 => ⟨l, rfl, ⟨_, sq_of (e1 _ _ h1)⟩, fun L hL => ?_⟩)
  refine lc_it (walk_list (K := K) (a := l) (xs := ps.map V.ref)) (fun i H' => Ex H1 H' ∧ ∃ rs : List Addr, rs.length = i ∧ H' L = some (.lst (rs.map V.ref)) ∧ ∀ (m : Nat) (r : Addr) (s : Sides), rs[m]? = some r → ss[m]? = some s → RowR C H' r (rowOf s))
    ⟨Ex.new hL, [], rfl, upd_same, fun m r s hr => by cases hr⟩ (fun i H' _ p => sq_of (p.1 _ _ (e1 _ _ h1))) ?_ ?_
  · rintro i x H2 H2' hi ⟨e2, rs, lrs, hL2, hrs⟩ ⟨rfl, hx⟩
    rw [List.getElem?_map] at hx
    obtain ⟨p, hp, rfl⟩ := Option.map_eq_some_iff.mp hx
    obtain ⟨s, hs⟩ := get_len h2.symm hp
    refine ⟨hw _, et_yes _ (Ex.refl _) _ fun H3 e3 => iteT ?_⟩
    have S := h3 i p s hp hs
    refine ⟨_, hj _, p, s, rfl, S.ex ((e1.trans e2).trans e3), good s (List.mem_of_getElem? hs), fun r H4 e4 RR => ?_⟩
    have hL4 := e4 _ _ (e3 _ _ hL2)
    refine ⟨rs.map V.ref, hL4, by rw [List.length_map] at hi ⊢; exact sz_lt (by omega), Ex.mut ((e2.trans e3).trans e4) hL, rs ++ [r], by rw [List.length_append, lrs]; rfl, by rw [upd_same, List.map_append]; rfl, fun m r' s' hr' hs' => ?_⟩
    rcases Nat.lt_or_ge m rs.length with hm | hm
    · rw [List.getElem?_append_left hm] at hr'
      exact ((hrs m r' s' hr' hs').ex (e3.trans e4)).putD hL4
    · rw [List.getElem?_append_right hm] at hr'
      have e0 : m = i := by
        rcases Nat.eq_zero_or_pos (m - rs.length) with z | z
        · omega
        · rw [List.getElem?_eq_none (by exact z)] at hr'
          cases hr'
      subst e0
      rw [lrs, Nat.sub_self] at hr'
      obtain rfl := Option.some.inj hr'
      rw [hs] at hs'
      obtain rfl := Option.some.inj hs'
      exact RR.putD hL4
  · rintro H2 ⟨e2, rs, lrs, hL2, hrs⟩
    rw [List.length_map] at lrs
    exact k L H2 (e1.trans e2) ⟨rs, hL2, by omega, hrs⟩
end
theorem bears_all {ns line : List Str} {s : Sides} (i : In ns s) (p : line.Perm ns) : bearsO line s = bearsL line s :=
  bears_order i.wf (fun x hx => p.mem_iff.mpr (i.g x hx)) fun x hx => p.mem_iff.mpr (i.b x hx)
def spLaw (K : PySem.W.Frag) : Sp := fun vs H Q _ => ∃ (a : Addr) (ns : List Int), vs = [.ref a] ∧ SqL K H a (ns.map V.int) ∧ ns.length ≤ 63 ∧ ∀ H', Q (.bl true) H'
abbrev nmL : List Str := ["_law_script", "_law_bag_here", "_law_turn", "_law_names_here", "_law_rows", "_law_made", "_law_again", "_law_line", "_law_own", "_law_borne", "_law_x", "_law_y", "_law_sides_here", "_law_one"]
theorem scLw : FnScope nmL ["_law_script"] (C8.fnScope sLaw) := C8.fnScope_by (by decide +kernel)
section
variable {P : Program} {w : World} {K : PySem.W.Frag} {mg : Str → Option Value} {base : Heap}
theorem ok_law {O C f : Addr} {fd : FuncData} (B : Bi mg) (OA : OrAt P w K mg base C) (Gbag : C8.Cal P w K mg base 1 "_law_bag" (spBag K) []) (Gof : C8.Cal P w K mg base 2 "_law_of" spOf []) (Gn : C8.Cal P w K mg base 3 "_law_names" spLNames []) (Gnr : C8.Cal P w K mg base 3 "_law_rows_near" spNear [])
    (Gro : C8.Cal P w K mg base 6 "_law_row_of" (spRowOf C) []) (Gjs : C8.Cal P w K mg base 7 "_law_joined_so" (spJoined C) []) (Gim : C8.Cal P w K mg base 7 "_law_implied" (spImplied C) []) (Gmx : C8.Cal P w K mg base 2 "_law_mixed" spMixed []) (Gor : C8.Cal P w K mg base 5 "_law_order" (spLOrder O) [])
    (Gb : C8.Met P w K mg base 2 O "bears" (spBears O C) []) (Glb : C8.Cal P w K mg base 1 "_law_bears" spLBears []) (Gj : C8.Cal P w K mg base 1 "_law_join" spJoin []) (Gs1 : C8.Cal P w K mg base 2 "_law_same" (spSame 1) []) (Gs2 : C8.Cal P w K mg base 3 "_law_same" (spSame 2) [])
    (F : C8.Fun K "law" "law" sLaw f fd) : FnOk P w K mg base C8.CX0 8 f fd ["_law_script"] (spLaw K) := by
  obtain ⟨fo, fdo, Go, bo, sf, hs, hf⟩ := OA.ex
  refine C8.fn0 F scLw (fun vs H Q E h => ?_) (fun cdv A outer s0 H vs Q E hr h => ?_)
  · obtain ⟨a, ns, rfl, _⟩ := h
    rfl
  obtain ⟨a, cs, rfl, hS, _, k⟩ := h
  have hr6 : Room 6 _ := hr.mono (by decide)
  refine ⟨_, pss_cons (ps_set (i := 1) scLw.nd rfl (Or.inl rfl) (C8.pe_c Gbag hr (by decide) (by rfl) (pa_cons (pv 0) pa_nil)))
    (pss_cons (ps_for PassesOwn.never rfl (pi_range1 (by rfl) B.range (pa_cons pe_int pa_nil)) (pg_name (i := 2) scLw.nd rfl (Or.inl rfl))
      (pss_cons (ps_set (i := 3) scLw.nd rfl (Or.inl rfl) (C8.pe_c Gn hr (by decide) (by rfl) (pa_cons (pv 1) (pa_cons (C8.pe_c Gof hr (by decide) (by rfl) (pa_cons (pv 1) (pa_cons (pe_lst (pa_cons pe_int (pa_cons pe_int (pa_cons pe_int (pa_cons pe_int (pa_cons pe_int pa_nil)))))) pa_nil))) pa_nil))))
      (pss_cons (ps_set (i := 4) scLw.nd rfl (Or.inl rfl) (C8.pe_c Gnr hr (by decide) (by rfl) (pa_cons (pv 1) (pa_cons (pv 3) pa_nil))))
      (pss_cons (ps_setLc (i := 5) (own := [("_law_sides_here", 12)]) (g := gName 12) (tt := tYes) (te := tCall (spRowOf C) [] C8.E0 (tCons (tVar 12) tNil)) rfl scLw.nd rfl rfl (sw_true rfl rfl rfl (by decide +kernel)) (pi_list (pv 4)) (blkOk_by (N := nmL) (sc := C8.fnScope sLaw) (by decide +kernel))
          (fun _ _ _ _ _ => pg_name (i := 12) scLw.nd rfl (Or.inl rfl)) (fun _ _ _ _ _ => pts_nil) (fun _ _ _ _ _ => C8.pe_c Gro hr (by decide) (by rfl) (pa_cons (pv 12) pa_nil)))
      (pss_cons (ps_if (PW.pt (pw_or (pt_not (pt_val (C8.pe_c Gjs hr (by decide) (by rfl) (pa_cons (pv 4) (pa_cons (pv 5) pa_nil))))) (pw_or1 (pt_not (pt_val (C8.pe_c Gim hr (by decide) (by rfl) (pa_cons (pv 3) (pa_cons (pv 4) (pa_cons (pv 5) pa_nil))))))))) pss_never pss_nil)
      (pss_one (ps_for PassesOwn.never rfl (pi_range1 (by rfl) B.range (pa_cons pe_int pa_nil)) (pg_name (i := 6) scLw.nd rfl (Or.inl rfl))
        (pss_cons (ps_set (i := 7) scLw.nd rfl (Or.inr rfl) (C8.pe_c Gmx hr (by decide) (by rfl) (pa_cons (pv 1) (pa_cons (pv 3) pa_nil))))
        (pss_cons (ps_set (i := 8) scLw.nd rfl (Or.inr rfl) (C8.pe_c Gor hr (by decide) (by rfl) (pa_cons (pv 7) pa_nil)))
        (pss_cons (ps_setLc (i := 9) (own := [("_law_one", 13)]) (g := gName 13) (tt := tYes) (te := tMeth O "bears" (spBears O C) [] C8.E0 (tVar 8) (tCons (tVar 13) tNil)) rfl scLw.nd rfl rfl (sw_true rfl rfl rfl (by decide +kernel)) (pi_list (pv 5)) (blkOk_by (N := nmL) (sc := C8.fnScope sLaw) (by decide +kernel))
            (fun _ _ _ _ _ => pg_name (i := 13) scLw.nd rfl (Or.inl rfl)) (fun _ _ _ _ _ => pts_nil) (fun _ _ _ _ _ => C8.pe_mt (pl := _) Gb hr (by decide) (pv 8) (pa_cons (pv 13) pa_nil)))
        (pss_cons (ps_if (pt_not (pt_val (C8.pe_c Gs2 hr (by decide) (by rfl) (pa_cons (pv 9) (pa_cons
            (pe_lc (own := [("_law_sides_here", 12)]) (g := gName 12) (tt := tYes) (te := tCall spLBears [] C8.E0 (tCons (tVar 7) (tCons (tVar 12) tNil))) rfl scLw.nd (pi_list (pv 4)) (blkOk_by (N := nmL) (sc := C8.fnScope sLaw) (by decide +kernel))
              (fun _ _ _ _ _ => pg_name (i := 12) scLw.nd rfl (Or.inl rfl)) (fun _ _ _ _ _ => pts_nil) (fun _ _ _ _ _ => C8.pe_c Glb hr (by decide) (by rfl) (pa_cons (pv 7) (pa_cons (pv 12) pa_nil)))) pa_nil))))) pss_never pss_nil)
        (pss_cons (ps_for PassesOwn.never rfl (pi_range1 (by rfl) B.range (pa_cons pe_int pa_nil)) (pg_name (i := 10) scLw.nd rfl (Or.inl rfl))
          (pss_one (ps_for PassesOwn.never rfl (pi_range1 (by rfl) B.range (pa_cons pe_int pa_nil)) (pg_name (i := 11) scLw.nd rfl (Or.inl rfl))
            (pss_one (ps_if (PW.pt (pw_and (pt_val (pe_ix ix_list (pv 9) (pv 10) (fun _ _ => rfl))) (pw_and (pt_val (pe_ix ix_list (pv 9) (pv 11) (fun _ _ => rfl)))
              (pw_and1 (pt_not (pt_val (C8.pe_c Gs1 hr (by decide) (by rfl) (pa_cons (C8.pe_mt (pl := _) Gb hr (by decide) (pv 8) (pa_cons (pe_op (op_bin (E := C8.E0) Go hr6 bo C8.pass0 sf hs hf) (pe_ix ix_list (pv 5) (pv 10) (fun _ _ => rfl)) (pe_ix ix_list (pv 5) (pv 11) (fun _ _ => rfl))) pa_nil)) (pa_cons pe_bl pa_nil))))))))) pss_never pss_nil)))))
        (pss_one (ps_if (pt_not (pt_val (C8.pe_c Gs1 hr (by decide) (by rfl) (pa_cons (C8.pe_mt (pl := _) Gb hr (by decide) (pv 8) (pa_cons (pe_op (op_bin (E := C8.E0) Go hr6 bo C8.pass0 sf hs hf) (pe_ix ix_list (pv 5) pe_int (fun _ _ => rfl)) (pe_ix ix_list (pv 5) pe_int (fun _ _ => rfl))) pa_nil))
            (pa_cons (C8.pe_c Glb hr (by decide) (by rfl) (pa_cons (pv 7) (pa_cons (C8.pe_c Gj hr (by decide) (by rfl) (pa_cons (pe_ix ix_list (pv 4) pe_int (fun _ _ => rfl)) (pa_cons (pe_ix ix_list (pv 4) pe_int (fun _ _ => rfl)) pa_nil))) pa_nil))) pa_nil))))) pss_never pss_nil))))))))))))))
    (pss_one (ps_ret pe_bl))), ?_⟩
  refine q_raw ⟨_, rfl, a, cs, rfl, hS, fun b l H1 e1 bg1 => ?_⟩
  refine q_forR1 (ea_cons ev_c ea_nil) ⟨by decide, by decide⟩ (fun i σ H' => BagAt H' b l ∧ ∃ v2 v3 v4 v5 v6 v7 v8 v9 v10 v11, σ = [some (.ref a), some (.ref b), v2, v3, v4, v5, v6, v7, v8, v9, v10, v11, none, none])
    (fun H2 e2 => ⟨bg1.ex e2, none, none, none, none, none, none, none, none, none, none, rfl⟩) ?_ ?_
  · rintro i σ H2 hi ⟨bg2, v2, v3, v4, v5, v6, v7, v8, v9, v10, v11, rfl⟩
    -- names
    refine q_raw ⟨_, rfl, _, rfl, ?_⟩
    refine el_lst (vs := [V.int 1, V.int 2, V.int 3, V.int 3, V.int 4]) (ea_cons ev_c (ea_cons ev_c (ea_cons ev_c (ea_cons ev_c (ea_cons ev_c ea_nil))))) (by show 5 ≤ 100000; decide) H2 (Ex.refl _) _ fun ls H3 _ e3 hls => ?_
    refine ⟨b, l, _, rfl, bg2.ex e3, .inl ⟨ls, _, rfl, hls, nb_ints [1, 2, 3, 3, 4], by show 0 < 5; decide, by show 5 ≤ 1000; decide, fun v H4 hv st4 bg4 => ?_⟩⟩
    have hm : ∃ m : Nat, v = .int (m : Int) ∧ 1 ≤ m ∧ m ≤ 4 := by
      rcases List.mem_cons.mp hv with rfl | hv
      · exact ⟨1, rfl, by decide, by decide⟩
      rcases List.mem_cons.mp hv with rfl | hv
      · exact ⟨2, rfl, by decide, by decide⟩
      rcases List.mem_cons.mp hv with rfl | hv
      · exact ⟨3, rfl, by decide, by decide⟩
      rcases List.mem_cons.mp hv with rfl | hv
      · exact ⟨3, rfl, by decide, by decide⟩
      rcases List.mem_cons.mp hv with rfl | hv
      · exact ⟨4, rfl, by decide, by decide⟩
      cases hv
    obtain ⟨m, rfl, m1, m2⟩ := hm
    refine ⟨b, l, m, rfl, bg4, m2, fun ln ns H5 nl gn nd st5 bg5 hln => ?_⟩
    have N : Names ns := ⟨gn, nd, by omega, by omega⟩
    -- rows
    refine q_raw ⟨_, rfl, _, rfl, b, l, ln, ns, rfl, bg5, hln, N, fun lr ss H6 l3 hin st6 bg6 RA6 => ?_⟩
    have hln6 := st6 _ _ hln (nb_strs _)
    -- made
    refine q_made (C := C) (ev_var rfl) RA6 (by omega) (fun s hs' => (hin s hs').good N) (fun _ => rfl) (fun _ => rfl) fun lm H7 e7 MA7 => ?_
    have RA7 := RA6.ex e7
    have hln7 := e7 _ _ hln6
    refine q_not (et_or (et_notT (et_B (ev_callV (ea_cons (ev_var rfl) (ea_cons (ev_var rfl) ea_nil)) fun H' e Q' q => ⟨lr, lm, ns, ss, rfl, N, l3, hin, RA7.ex e, MA7.ex e, q⟩))) fun _ =>
      et_notT (et_B (ev_callV (ea_cons (ev_var rfl) (ea_cons (ev_var rfl) (ea_cons (ev_var rfl) ea_nil))) fun H' e Q' q => ⟨ln, lr, lm, ns, ss, rfl, e _ _ hln7, N, l3, hin, RA7.ex e, MA7.ex e, q⟩))) fun H8 e8 => ?_
    have bg8 := bg6.ex (e7.trans e8)
    have RA8 := RA7.ex e8
    have MA8 := MA7.ex e8
    have hln8 := e8 _ _ hln7
    have at3 : ∀ i : Nat, (i : Int) < 3 → ∃ s, ss[i]? = some s ∧ In ns s := fun i hi => by
      have hi' : i < ss.length := by omega
      exact ⟨ss[i], List.getElem?_eq_getElem hi', hin _ (List.getElem_mem hi')⟩
    refine s_forR1 (ea_cons ev_c ea_nil) ⟨by decide, by decide⟩ (fun j σ H' => Stay H8 H' ∧ BagAt H' b l ∧ ∃ v6 v7 v8 v9 v10 v11, σ = [some (.ref a), some (.ref b), some (.int (i : Nat)), some (.ref ln), some (.ref lr), some (.ref lm), v6, v7, v8, v9, v10, v11, none, none])
      (fun H9 e9 => ⟨Stay.of e9, bg8.ex e9, v6, v7, v8, v9, v10, v11, rfl⟩) ?_ (fun σ H' h => ?_)
    · rintro j σ H9 hj ⟨st9, bg9, v6, v7, v8, v9, v10, v11, rfl⟩
      have hln9 := st9 _ _ hln8 (nb_strs _)
      refine q_raw ⟨_, rfl, _, rfl, b, l, ln, ns, rfl, bg9, hln9, by omega, fun lq line H10 pm st10 bg10 hlq => ?_⟩
      have Nl : Names line := ⟨fun x hx => N.gn x (pm.mem_iff.mp hx), pm.nodup_iff.mpr N.nd, by rw [pm.length_eq]; exact N.lo, by rw [pm.length_eq]; exact N.hi⟩
      have RA10 := (RA8.stay st9).stay st10
      have MA10 := (MA8.stay st9).stay st10
      refine q_raw ⟨_, rfl, lq, line, rfl, hlq, Nl, fun o H11 e11 OR11 => ?_⟩
      have RA11 := RA10.ex e11
      have MA11 := MA10.ex e11
      have sub1 : ∀ {s : Sides}, In ns s → ∀ x ∈ s.1, x ∈ line := fun h x hx => pm.mem_iff.mpr (h.g x hx)
      have sub2 : ∀ {s : Sides}, In ns s → ∀ x ∈ s.2, x ∈ line := fun h x hx => pm.mem_iff.mpr (h.b x hx)
      obtain ⟨zm, zm1, zm2, zm3⟩ := MA11.pairs
      have zml : zm.length ≤ 3 := by
        have q := congrArg List.length zm2
        rw [List.length_map] at q
        omega
      have zin : ∀ q ∈ zm, In ns q.2 := fun q hq => hin q.2 (by rw [← zm2]; exact List.mem_map_of_mem hq)
      -- borne
      refine q_asgL (xs := (ss.map fun s => bearsL line s).map V.bl) (filt_map (K := K) (xs := zm) (g := fun q => V.bl (bearsL line q.2)) (by rw [← zm2, List.map_map, List.map_map]; rfl)
        (el_compL (a := lm) (emb := fun q : Addr × Sides => V.ref q.1) (0, ([], [])) (fun _ => true) (fun q => V.bl (bearsL line q.2)) (ev_var rfl) (sq_of zm1) (by omega) (fun _ => rfl)
          (fun q H' hq e => ⟨et_yes, fun _ => ev_is (ev_bears (C := C) (ev_var rfl) (OR11.ex e) (er_of (ev_var rfl) ((zm3 q hq).ex e)) (sub1 (zin q hq).row) (sub2 (zin q hq).row)) (congrArg V.bl ((bears_all (zin q hq).row pm).trans (bears_row (zin q hq) pm)))⟩))) fun lb H12 nb e12 hlb => ?_
      have e10 := e11.trans e12
      have RA12 := RA11.ex e12
      have hlq12 := e10 _ _ hlq
      obtain ⟨zr, zr1, zr2, zr3⟩ := RA12.pairs
      have zrl : zr.length ≤ 3 := by
        have q := congrArg List.length zr2
        rw [List.length_map] at q
        omega
      have rin : ∀ q ∈ zr, In ns q.2 := fun q hq => hin q.2 (by rw [← zr2]; exact List.mem_map_of_mem hq)
      refine q_not (et_notT (et_sameL (bs := ss.map fun s => bearsL line s) (ev_var rfl) hlb (by rw [List.length_map]; omega) (filt_map (K := K) (xs := zr) (g := fun q => V.bl (bearsL line q.2)) (by rw [← zr2, List.map_map, List.map_map]; rfl)
        (el_compL (a := lr) (emb := fun q : Addr × Sides => V.ref q.1) (0, ([], [])) (fun _ => true) (fun q => V.bl (bearsL line q.2)) (ev_var rfl) (sq_of zr1) (by omega) (fun _ => rfl)
          (fun q H' hq e => ⟨et_yes, fun _ => by
            have lq' := (rin q hq).len N
            exact ev_lbears (ev_var rfl) (e _ _ hlq12) (es_of (ev_var rfl) ((zr3 q hq).ex e)) ((rin q hq).goodS N) (sub1 (rin q hq)) (sub2 (rin q hq)) (by omega) (by omega)⟩))))) fun H13 e13 => ?_
      have e113 := e12.trans e13
      have OR13 := OR11.ex e113
      have MA13 := MA11.ex e113
      have RA13 := RA11.ex e113
      have hlb13 := e13 _ _ hlb
      have hlq13 := e13 _ _ hlq12
      have borne : ∀ {i : Nat} {s : Sides}, ss[i]? = some s → ((ss.map fun s => bearsL line s).map V.bl)[i]? = some (.bl (bearsL line s)) := fun {i s} h => by
        rw [List.getElem?_map, List.getElem?_map, h]
        rfl
      refine q_forR1 (ea_cons ev_c ea_nil) ⟨by decide, by decide⟩ (fun x σ H' => Ex H13 H' ∧ ∃ v10 v11, σ = [some (.ref a), some (.ref b), some (.int (i : Nat)), some (.ref ln), some (.ref lr), some (.ref lm), some (.int (j : Nat)), some (.ref lq), some (.ref o), some (.ref lb), v10, v11, none, none])
        (fun H14 e14 => ⟨e14, v10, v11, rfl⟩) ?_ ?_
      · rintro x σ H14 hx ⟨e14, v10, v11, rfl⟩
        obtain ⟨sx, hsx, ix⟩ := at3 x hx
        refine s_forR1 (ea_cons ev_c ea_nil) ⟨by decide, by decide⟩ (fun y σ H' => Ex H13 H' ∧ ∃ v11, σ = [some (.ref a), some (.ref b), some (.int (i : Nat)), some (.ref ln), some (.ref lr), some (.ref lm), some (.int (j : Nat)), some (.ref lq), some (.ref o), some (.ref lb), some (.int (x : Nat)), v11, none, none])
          (fun H15 e15 => ⟨e14.trans e15, v11, rfl⟩) ?_ (fun σ H' h => ?_)
        · rintro y σ H15 hy ⟨e15, v11, rfl⟩
          obtain ⟨sy, hsy, iy⟩ := at3 y hy
          have MA15 := MA13.ex e15
          have ij := ix.join iy
          refine s_when (et_is (b := false) (et_and (a := bearsL line sx) (b := bearsL line sy && false) (et_B (ev_ixL (i := x) (ev_var rfl) (ev_var rfl) (sq_of (e15 _ _ hlb13)) (borne hsx))) fun hbx =>
            et_and (a := bearsL line sy) (b := false) (et_B (ev_ixL (i := y) (ev_var rfl) (ev_var rfl) (sq_of (e15 _ _ hlb13)) (borne hsy))) fun hby => et_notT (et_same (n := 1)
              (ev_bears (C := C) (ev_var rfl) (OR13.ex e15) (er_is (er_or (er_ix (ev_var rfl) (ev_var rfl) MA15 hsx) (er_ix (ev_var rfl) (ev_var rfl) MA15 hsy) (ix.row.good N) (iy.row.good N)) (orRow_join ix.wf iy.wf)) (sub1 ij) (sub2 ij)) ev_c
              (.inr (.inl ⟨true, congrArg V.bl ((bears_all ij pm).trans (bears_join ix.wf iy.wf (sub1 ix) (sub1 iy) (sub2 ix) (sub2 iy) hbx hby)), rfl⟩)))) (by rw [Bool.and_false, Bool.and_false])) (fun h => by cases h) fun _ H16 e16 => ⟨e15.trans e16, _, rfl⟩
        · obtain ⟨e, v11, rfl⟩ := h
          exact ⟨e, _, _, rfl⟩
      · rintro σ H14 ⟨e14, v10, v11, rfl⟩
        obtain ⟨s0, hs0, i0⟩ := at3 0 (by decide)
        obtain ⟨s1, hs1, i1⟩ := at3 1 (by decide)
        have MA14 := MA13.ex e14
        have RA14 := RA13.ex e14
        have ij := i0.join i1
        have lj := ij.len N
        have l0 := i0.len N
        have l1 := i1.len N
        refine s_when (et_notT (et_same (n := 1) (x := .bl (bearsL line (joinS s0 s1)))
          (ev_is (ev_bears (C := C) (ev_var rfl) (OR13.ex e14) (er_is (er_or (er_ix (i := 0) (ev_var rfl) ev_c MA14 hs0) (er_ix (i := 1) (ev_var rfl) ev_c MA14 hs1) (i0.row.good N) (i1.row.good N)) (orRow_join i0.wf i1.wf)) (sub1 ij) (sub2 ij)) (congrArg V.bl (bears_all ij pm)))
          (ev_lbears (ev_var rfl) (e14 _ _ hlq13) (es_join (es_ix (i := 0) (ev_var rfl) ev_c RA14 hs0) (es_ix (i := 1) (ev_var rfl) ev_c RA14 hs1) (by omega) (by omega) (by omega) (by omega)) (ij.goodS N) (sub1 ij) (sub2 ij) (by omega) (by omega))
          (.inr (.inl ⟨_, rfl, rfl⟩)))) (fun h => by cases h) fun _ H15 e15 => ⟨?_, ?_, _, _, _, _, _, _, rfl⟩
        · exact (st9.trans st10).ex ((e10.trans e13).trans (e14.trans e15))
        · exact bg10.ex ((e10.trans e13).trans (e14.trans e15))
    · obtain ⟨_, bg, v6, v7, v8, v9, v10, v11, rfl⟩ := h
      exact ⟨bg, _, _, _, _, _, _, _, _, _, _, rfl⟩
  · rintro σ H2 ⟨bg2, v2, v3, v4, v5, v6, v7, v8, v9, v10, v11, rfl⟩
    exact s_ret ev_c fun H3 e3 => k H3
end
end K12

/-! K12End: what the top has written; the walk of law. -/
namespace K12
open PySem PySem.Spec PyProof.Rows L2 Evl

theorem binds_row {K : PySem.W.Frag} {tRI : Addr} {ocd vd1 vd2 kV doc pm cdv ct : Value} {odd an : Option Addr} {nd : Nat} {sld : Array (Option Value)} (lT : K.lookup tRI = some ⟨ocd, odd, .seq #[vd1, vd2] nd, sld⟩) :
    Binds K (PySem.W.fnOf "__init__" "Row.__init__" (C8.fnArgs (sRow 0)) (C8.fnBody (sRow 0)) (C8.fnScope (sRow 0)) (.ref tRI) kV doc pm an cdv ct) ["self", "pro", "con"] [] := fun s us X hl => L2.BindsTo.of_looks fun M => by
  match us, hl with
  | [a, b, c], _ =>
    have e : ∃ k, bindArgs (PySem.W.fnOf "__init__" "Row.__init__" (C8.fnArgs (sRow 0)) (C8.fnBody (sRow 0)) (C8.fnScope (sRow 0)) (.ref tRI) kV doc pm an cdv ct) ⟨[a, b, c], []⟩ = seqItems? (.ref tRI) >>= k ∧ k (some #[vd1, vd2]) = pure ((["self", "pro", "con"] : List Str).zip ([a, b, c] ++ [])) := ⟨_, rfl, rfl⟩
    obtain ⟨k, e1, e2⟩ := e
    rw [e1]
    exact looks_items X lT rfl (.of_pure e2)

theorem all_mk {l : PySem.W.OpenLaw} {w : World} {K : PySem.W.Frag} {h : Heap} {mg : Str → Option Value} {fa C O pRH tRI : Addr} {restRH : List Value} {tL t6 t7 : Tok} {ocd vd1 vd2 : Value} {odd : Option Addr} {nd : Nat} {sld : Array (Option Value)}
    {f1 f2 f3 f4 f5 f6 f7 f8 f9 f10 f11 f12 f13 f14 f15 f16 f17 f18 f19 f20 f21 fRI fRH fRS fRM fRT fRO fRC fOI fOD fOB : Addr} {od1 an1 od2 an2 od3 an3 od4 an4 od5 an5 od6 an6 od7 an7 od8 an8 od9 an9 od10 an10 od11 an11 od12 an12 od13 an13 od14 an14 od15 an15 od16 an16 od17 an17 od18 an18 od19 an19 od20 an20 od21 an21 odRI anRI odRH anRH odRS anRS odRM anRM odRT anRT odRO anRO odRC anRC odOI anOI odOD anOD odOB anOB : Option Addr} {sl1 sl2 sl3 sl4 sl5 sl6 sl7 sl8 sl9 sl10 sl11 sl12 sl13 sl14 sl15 sl16 sl17 sl18 sl19 sl20 sl21 slRI slRH slRS slRM slRT slRO slRC slOI slOD slOB : Array (Option Value)}
    {oc1 kV1 dc1 pm1 cd1 ct1 oc2 kV2 dc2 pm2 cd2 ct2 oc3 kV3 dc3 pm3 cd3 ct3 oc4 kV4 dc4 pm4 cd4 ct4 oc5 kV5 dc5 pm5 cd5 ct5 oc6 kV6 dc6 pm6 cd6 ct6 oc7 kV7 dc7 pm7 cd7 ct7 oc8 kV8 dc8 pm8 cd8 ct8 oc9 kV9 dc9 pm9 cd9 ct9 oc10 kV10 dc10 pm10 cd10 ct10 oc11 kV11 dc11 pm11 cd11 ct11 oc12 kV12 dc12 pm12 cd12 ct12 oc13 kV13 dc13 pm13 cd13 ct13 oc14 kV14 dc14 pm14 cd14 ct14 oc15 kV15 dc15 pm15 cd15 ct15 oc16 kV16 dc16 pm16 cd16 ct16 oc17 kV17 dc17 pm17 cd17 ct17 oc18 kV18 dc18 pm18 cd18 ct18 oc19 kV19 dc19 pm19 cd19 ct19 oc20 kV20 dc20 pm20 cd20 ct20 oc21 kV21 dc21 pm21 cd21 ct21 ocRI kVRI dcRI pmRI cdRI ctRI ocRH kVRH dcRH pmRH cdRH ctRH ocRS kVRS dcRS pmRS cdRS ctRS ocRM kVRM dcRM pmRM cdRM ctRM ocRT kVRT dcRT pmRT cdRT ctRT ocRO kVRO dcRO pmRO cdRO ctRO ocRC kVRC dcRC pmRC cdRC ctRC ocOI kVOI dcOI pmOI cdOI ctOI ocOD kVOD dcOD pmOD cdOD ctOD ocOB kVOB dcOB pmOB cdOB ctOB : Value}
    (X : K.In h) (G : h.Ns mainGlobals mg) (hfa : mg "law" = some (.ref fa))
    (a1 : PySem.W.nsIn K mainGlobals "is_spelled" = some (some (.ref f1)))
    (l1 : K.lookup f1 = some ⟨oc1, od1, .func (PySem.W.fnOf "is_spelled" "is_spelled" (C8.fnArgs sSpelled) (C8.fnBody sSpelled) (C8.fnScope sSpelled) .none kV1 dc1 pm1 an1 cd1 ct1), sl1⟩)
    (c1 : PySem.W.codeIn K cd1 "is_spelled" = true)
    (k1 : PySem.W.keepIn K (.ref f1) = true)
    (a2 : PySem.W.nsIn K mainGlobals "is_name" = some (some (.ref f2)))
    (l2 : K.lookup f2 = some ⟨oc2, od2, .func (PySem.W.fnOf "is_name" "is_name" (C8.fnArgs sName) (C8.fnBody sName) (C8.fnScope sName) .none kV2 dc2 pm2 an2 cd2 ct2), sl2⟩)
    (c2 : PySem.W.codeIn K cd2 "is_name" = true)
    (k2 : PySem.W.keepIn K (.ref f2) = true)
    (a3 : PySem.W.nsIn K mainGlobals "is_names" = some (some (.ref f3)))
    (l3 : K.lookup f3 = some ⟨oc3, od3, .func (PySem.W.fnOf "is_names" "is_names" (C8.fnArgs sNames) (C8.fnBody sNames) (C8.fnScope sNames) .none kV3 dc3 pm3 an3 cd3 ct3), sl3⟩)
    (c3 : PySem.W.codeIn K cd3 "is_names" = true)
    (k3 : PySem.W.keepIn K (.ref f3) = true)
    (a4 : PySem.W.nsIn K mainGlobals "_law_bag" = some (some (.ref f4)))
    (l4 : K.lookup f4 = some ⟨oc4, od4, .func (PySem.W.fnOf "_law_bag" "_law_bag" (C8.fnArgs sBag) (C8.fnBody sBag) (C8.fnScope sBag) .none kV4 dc4 pm4 an4 cd4 ct4), sl4⟩)
    (c4 : PySem.W.codeIn K cd4 "_law_bag" = true)
    (k4 : PySem.W.keepIn K (.ref f4) = true)
    (a5 : PySem.W.nsIn K mainGlobals "_law_draw" = some (some (.ref f5)))
    (l5 : K.lookup f5 = some ⟨oc5, od5, .func (PySem.W.fnOf "_law_draw" "_law_draw" (C8.fnArgs sDraw) (C8.fnBody sDraw) (C8.fnScope sDraw) .none kV5 dc5 pm5 an5 cd5 ct5), sl5⟩)
    (c5 : PySem.W.codeIn K cd5 "_law_draw" = true)
    (k5 : PySem.W.keepIn K (.ref f5) = true)
    (a6 : PySem.W.nsIn K mainGlobals "_law_of" = some (some (.ref f6)))
    (l6 : K.lookup f6 = some ⟨oc6, od6, .func (PySem.W.fnOf "_law_of" "_law_of" (C8.fnArgs sOf) (C8.fnBody sOf) (C8.fnScope sOf) .none kV6 dc6 pm6 an6 cd6 ct6), sl6⟩)
    (c6 : PySem.W.codeIn K cd6 "_law_of" = true)
    (k6 : PySem.W.keepIn K (.ref f6) = true)
    (a7 : PySem.W.nsIn K mainGlobals "_law_mixed" = some (some (.ref f7)))
    (l7 : K.lookup f7 = some ⟨oc7, od7, .func (PySem.W.fnOf "_law_mixed" "_law_mixed" (C8.fnArgs sMixed) (C8.fnBody sMixed) (C8.fnScope sMixed) .none kV7 dc7 pm7 an7 cd7 ct7), sl7⟩)
    (c7 : PySem.W.codeIn K cd7 "_law_mixed" = true)
    (k7 : PySem.W.keepIn K (.ref f7) = true)
    (a8 : PySem.W.nsIn K mainGlobals "_law_same" = some (some (.ref f8)))
    (l8 : K.lookup f8 = some ⟨oc8, od8, .func (PySem.W.fnOf "_law_same" "_law_same" (C8.fnArgs sSame) (C8.fnBody sSame) (C8.fnScope sSame) .none kV8 dc8 pm8 an8 cd8 ct8), sl8⟩)
    (c8 : PySem.W.codeIn K cd8 "_law_same" = true)
    (k8 : PySem.W.keepIn K (.ref f8) = true)
    (a9 : PySem.W.nsIn K mainGlobals "_law_names" = some (some (.ref f9)))
    (l9 : K.lookup f9 = some ⟨oc9, od9, .func (PySem.W.fnOf "_law_names" "_law_names" (C8.fnArgs sLNames) (C8.fnBody sLNames) (C8.fnScope sLNames) .none kV9 dc9 pm9 an9 cd9 ct9), sl9⟩)
    (c9 : PySem.W.codeIn K cd9 "_law_names" = true)
    (k9 : PySem.W.keepIn K (.ref f9) = true)
    (a10 : PySem.W.nsIn K mainGlobals "_law_order" = some (some (.ref f10)))
    (l10 : K.lookup f10 = some ⟨oc10, od10, .func (PySem.W.fnOf "_law_order" "_law_order" (C8.fnArgs sLOrder) (C8.fnBody sLOrder) (C8.fnScope sLOrder) .none kV10 dc10 pm10 an10 cd10 ct10), sl10⟩)
    (c10 : PySem.W.codeIn K cd10 "_law_order" = true)
    (k10 : PySem.W.keepIn K (.ref f10) = true)
    (a11 : PySem.W.nsIn K mainGlobals "_law_sides" = some (some (.ref f11)))
    (l11 : K.lookup f11 = some ⟨oc11, od11, .func (PySem.W.fnOf "_law_sides" "_law_sides" (C8.fnArgs sSides) (C8.fnBody sSides) (C8.fnScope sSides) .none kV11 dc11 pm11 an11 cd11 ct11), sl11⟩)
    (c11 : PySem.W.codeIn K cd11 "_law_sides" = true)
    (k11 : PySem.W.keepIn K (.ref f11) = true)
    (a12 : PySem.W.nsIn K mainGlobals "_law_row_text" = some (some (.ref f12)))
    (l12 : K.lookup f12 = some ⟨oc12, od12, .func (PySem.W.fnOf "_law_row_text" "_law_row_text" (C8.fnArgs sRowText) (C8.fnBody sRowText) (C8.fnScope sRowText) .none kV12 dc12 pm12 an12 cd12 ct12), sl12⟩)
    (c12 : PySem.W.codeIn K cd12 "_law_row_text" = true)
    (k12 : PySem.W.keepIn K (.ref f12) = true)
    (a13 : PySem.W.nsIn K mainGlobals "_law_join" = some (some (.ref f13)))
    (l13 : K.lookup f13 = some ⟨oc13, od13, .func (PySem.W.fnOf "_law_join" "_law_join" (C8.fnArgs sJoin) (C8.fnBody sJoin) (C8.fnScope sJoin) .none kV13 dc13 pm13 an13 cd13 ct13), sl13⟩)
    (c13 : PySem.W.codeIn K cd13 "_law_join" = true)
    (k13 : PySem.W.keepIn K (.ref f13) = true)
    (a14 : PySem.W.nsIn K mainGlobals "_law_bears" = some (some (.ref f14)))
    (l14 : K.lookup f14 = some ⟨oc14, od14, .func (PySem.W.fnOf "_law_bears" "_law_bears" (C8.fnArgs sBears) (C8.fnBody sBears) (C8.fnScope sBears) .none kV14 dc14 pm14 an14 cd14 ct14), sl14⟩)
    (c14 : PySem.W.codeIn K cd14 "_law_bears" = true)
    (k14 : PySem.W.keepIn K (.ref f14) = true)
    (a15 : PySem.W.nsIn K mainGlobals "_law_lines" = some (some (.ref f15)))
    (l15 : K.lookup f15 = some ⟨oc15, od15, .func (PySem.W.fnOf "_law_lines" "_law_lines" (C8.fnArgs sLines) (C8.fnBody sLines) (C8.fnScope sLines) .none kV15 dc15 pm15 an15 cd15 ct15), sl15⟩)
    (c15 : PySem.W.codeIn K cd15 "_law_lines" = true)
    (k15 : PySem.W.keepIn K (.ref f15) = true)
    (a16 : PySem.W.nsIn K mainGlobals "_law_row_of" = some (some (.ref f16)))
    (l16 : K.lookup f16 = some ⟨oc16, od16, .func (PySem.W.fnOf "_law_row_of" "_law_row_of" (C8.fnArgs sRowOf) (C8.fnBody sRowOf) (C8.fnScope sRowOf) .none kV16 dc16 pm16 an16 cd16 ct16), sl16⟩)
    (c16 : PySem.W.codeIn K cd16 "_law_row_of" = true)
    (k16 : PySem.W.keepIn K (.ref f16) = true)
    (a17 : PySem.W.nsIn K mainGlobals "_law_rows_near" = some (some (.ref f17)))
    (l17 : K.lookup f17 = some ⟨oc17, od17, .func (PySem.W.fnOf "_law_rows_near" "_law_rows_near" (C8.fnArgs sNear) (C8.fnBody sNear) (C8.fnScope sNear) .none kV17 dc17 pm17 an17 cd17 ct17), sl17⟩)
    (c17 : PySem.W.codeIn K cd17 "_law_rows_near" = true)
    (k17 : PySem.W.keepIn K (.ref f17) = true)
    (a18 : PySem.W.nsIn K mainGlobals "_law_right" = some (some (.ref f18)))
    (l18 : K.lookup f18 = some ⟨oc18, od18, .func (PySem.W.fnOf "_law_right" "_law_right" (C8.fnArgs sRight) (C8.fnBody sRight) (C8.fnScope sRight) .none kV18 dc18 pm18 an18 cd18 ct18), sl18⟩)
    (c18 : PySem.W.codeIn K cd18 "_law_right" = true)
    (k18 : PySem.W.keepIn K (.ref f18) = true)
    (a19 : PySem.W.nsIn K mainGlobals "_law_joined_so" = some (some (.ref f19)))
    (l19 : K.lookup f19 = some ⟨oc19, od19, .func (PySem.W.fnOf "_law_joined_so" "_law_joined_so" (C8.fnArgs sJoinedSo) (C8.fnBody sJoinedSo) (C8.fnScope sJoinedSo) .none kV19 dc19 pm19 an19 cd19 ct19), sl19⟩)
    (c19 : PySem.W.codeIn K cd19 "_law_joined_so" = true)
    (k19 : PySem.W.keepIn K (.ref f19) = true)
    (a20 : PySem.W.nsIn K mainGlobals "_law_implied" = some (some (.ref f20)))
    (l20 : K.lookup f20 = some ⟨oc20, od20, .func (PySem.W.fnOf "_law_implied" "_law_implied" (C8.fnArgs sImplied) (C8.fnBody sImplied) (C8.fnScope sImplied) .none kV20 dc20 pm20 an20 cd20 ct20), sl20⟩)
    (c20 : PySem.W.codeIn K cd20 "_law_implied" = true)
    (k20 : PySem.W.keepIn K (.ref f20) = true)
    (a21 : PySem.W.nsIn K mainGlobals "law" = some (some (.ref f21)))
    (l21 : K.lookup f21 = some ⟨oc21, od21, .func (PySem.W.fnOf "law" "law" (C8.fnArgs sLaw) (C8.fnBody sLaw) (C8.fnScope sLaw) .none kV21 dc21 pm21 an21 cd21 ct21), sl21⟩)
    (c21 : PySem.W.codeIn K cd21 "law" = true)
    (k21 : PySem.W.keepIn K (.ref f21) = true)
    (aC : PySem.W.nsIn K mainGlobals "Row" = some (some (.ref C)))
    (aO : PySem.W.nsIn K mainGlobals "Order" = some (some (.ref O)))
    (aRI : PySem.W.findIn K (.ref C) "__init__" = some (some (.ref fRI)))
    (iRI : PySem.W.isFn K (.ref fRI) = true)
    (lRI : K.lookup fRI = some ⟨ocRI, odRI, .func (PySem.W.fnOf "__init__" "Row.__init__" (C8.fnArgs (sRow 0)) (C8.fnBody (sRow 0)) (C8.fnScope (sRow 0)) (.ref tRI) kVRI dcRI pmRI anRI cdRI ctRI), slRI⟩)
    (cRI : PySem.W.codeIn K cdRI "Row.__init__" = true)
    (dRI : K.lookup tRI = some ⟨ocd, odd, .seq #[vd1, vd2] nd, sld⟩)
    (aRH : PySem.W.findIn K (.ref C) "hopeless" = some (some (.ref pRH)))
    (gRH : PySem.W.specialIn K (.ref pRH) "__get__" = some (some (.builtin "property.__get__")))
    (tRH : PySem.W.takesIn K (.ref pRH) = some true)
    (rRH : PySem.W.recIn K pRH "property" = some (.ref fRH :: restRH))
    (lRH : K.lookup fRH = some ⟨ocRH, odRH, .func (PySem.W.fnOf "hopeless" "Row.hopeless" (C8.fnArgs (sRow 2)) (C8.fnBody (sRow 2)) (C8.fnScope (sRow 2)) .none kVRH dcRH pmRH anRH cdRH ctRH), slRH⟩)
    (cRH : PySem.W.codeIn K cdRH "Row.hopeless" = true)
    (aRS : PySem.W.findIn K (.ref C) "sign" = some (some (.ref fRS)))
    (iRS : PySem.W.isFn K (.ref fRS) = true)
    (lRS : K.lookup fRS = some ⟨ocRS, odRS, .func (PySem.W.fnOf "sign" "Row.sign" (C8.fnArgs (sRow 3)) (C8.fnBody (sRow 3)) (C8.fnScope (sRow 3)) .none kVRS dcRS pmRS anRS cdRS ctRS), slRS⟩)
    (cRS : PySem.W.codeIn K cdRS "Row.sign" = true)
    (kRS : PySem.W.keepIn K (.ref fRS) = true)
    (aRM : PySem.W.findIn K (.ref C) "implies" = some (some (.ref fRM)))
    (iRM : PySem.W.isFn K (.ref fRM) = true)
    (lRM : K.lookup fRM = some ⟨ocRM, odRM, .func (PySem.W.fnOf "implies" "Row.implies" (C8.fnArgs (sRow 5)) (C8.fnBody (sRow 5)) (C8.fnScope (sRow 5)) .none kVRM dcRM pmRM anRM cdRM ctRM), slRM⟩)
    (cRM : PySem.W.codeIn K cdRM "Row.implies" = true)
    (kRM : PySem.W.keepIn K (.ref fRM) = true)
    (aRT : PySem.W.findIn K (.ref C) "text" = some (some (.ref fRT)))
    (iRT : PySem.W.isFn K (.ref fRT) = true)
    (lRT : K.lookup fRT = some ⟨ocRT, odRT, .func (PySem.W.fnOf "text" "Row.text" (C8.fnArgs (sRow 6)) (C8.fnBody (sRow 6)) (C8.fnScope (sRow 6)) .none kVRT dcRT pmRT anRT cdRT ctRT), slRT⟩)
    (cRT : PySem.W.codeIn K cdRT "Row.text" = true)
    (kRT : PySem.W.keepIn K (.ref fRT) = true)
    (aRO : PySem.W.findIn K (.ref C) "__or__" = some (some (.ref fRO)))
    (iRO : PySem.W.isFn K (.ref fRO) = true)
    (lRO : K.lookup fRO = some ⟨ocRO, odRO, .func (PySem.W.fnOf "__or__" "Row.__or__" (C8.fnArgs (sRow 10)) (C8.fnBody (sRow 10)) (C8.fnScope (sRow 10)) .none kVRO dcRO pmRO anRO cdRO ctRO), slRO⟩)
    (cRO : PySem.W.codeIn K cdRO "Row.__or__" = true)
    (aRC : PySem.W.findIn K (.ref C) "__contains__" = some (some (.ref fRC)))
    (iRC : PySem.W.isFn K (.ref fRC) = true)
    (lRC : K.lookup fRC = some ⟨ocRC, odRC, .func (PySem.W.fnOf "__contains__" "Row.__contains__" (C8.fnArgs (sRow 11)) (C8.fnBody (sRow 11)) (C8.fnScope (sRow 11)) .none kVRC dcRC pmRC anRC cdRC ctRC), slRC⟩)
    (cRC : PySem.W.codeIn K cdRC "Row.__contains__" = true)
    (aOI : PySem.W.findIn K (.ref O) "__init__" = some (some (.ref fOI)))
    (iOI : PySem.W.isFn K (.ref fOI) = true)
    (lOI : K.lookup fOI = some ⟨ocOI, odOI, .func (PySem.W.fnOf "__init__" "Order.__init__" (defArgs (sOrder 0)) (defBody (sOrder 0)) (defScope (sOrder 0)) .none kVOI dcOI pmOI anOI cdOI ctOI), slOI⟩)
    (cOI : PySem.W.codeIn K cdOI "Order.__init__" = true)
    (kOI : PySem.W.keepIn K (.ref fOI) = true)
    (aOD : PySem.W.findIn K (.ref O) "decides" = some (some (.ref fOD)))
    (iOD : PySem.W.isFn K (.ref fOD) = true)
    (lOD : K.lookup fOD = some ⟨ocOD, odOD, .func (PySem.W.fnOf "decides" "Order.decides" (C8.fnArgs (sOrder 4)) (C8.fnBody (sOrder 4)) (C8.fnScope (sOrder 4)) .none kVOD dcOD pmOD anOD cdOD ctOD), slOD⟩)
    (cOD : PySem.W.codeIn K cdOD "Order.decides" = true)
    (kOD : PySem.W.keepIn K (.ref fOD) = true)
    (aOB : PySem.W.findIn K (.ref O) "bears" = some (some (.ref fOB)))
    (iOB : PySem.W.isFn K (.ref fOB) = true)
    (lOB : K.lookup fOB = some ⟨ocOB, odOB, .func (PySem.W.fnOf "bears" "Order.bears" (C8.fnArgs (sOrder 5)) (C8.fnBody (sOrder 5)) (C8.fnScope (sOrder 5)) .none kVOB dcOB pmOB anOB cdOB ctOB), slOB⟩)
    (cOB : PySem.W.codeIn K cdOB "Order.bears" = true)
    (kOB : PySem.W.keepIn K (.ref fOB) = true)
    (pgC : PySem.W.plainGet K C Str.empty = true)
    (hdC : PySem.W.hasDictIn K C = true)
    (poC : PySem.W.plainOver K C = true)
    (saC : PySem.W.findIn K (.ref C) "__setattr__" = some (some (.builtin "object.__setattr__")))
    (mkC : PySem.W.makesIn K C = true)
    (kcC : PySem.W.keepIn K (.ref C) = true)
    (pgO : PySem.W.plainGet K O Str.empty = true)
    (hdO : PySem.W.hasDictIn K O = true)
    (poO : PySem.W.plainOver K O = true)
    (saO : PySem.W.findIn K (.ref O) "__setattr__" = some (some (.builtin "object.__setattr__")))
    (mkO : PySem.W.makesIn K O = true)
    (kcO : PySem.W.keepIn K (.ref O) = true)
    (sfC : PySem.W.selfFirst K C = true)
    (nC0 : PySem.W.findIn K (.ref C) "pro" = some none)
    (nC1 : PySem.W.findIn K (.ref C) "con" = some none)
    (nC2 : PySem.W.findIn K (.ref C) "named" = some none)
    (nO0 : PySem.W.findIn K (.ref O) "ranked" = some none)
    (nO1 : PySem.W.findIn K (.ref O) "spots" = some none)
    (nO2 : PySem.W.findIn K (.ref O) "reasons" = some none)
    (qL : PySem.W.nsIn K mainGlobals "LETTERS" = some (some (.str "abcdefghijklmnopqrstuvwxyz" tL)))
    (q6 : PySem.W.nsIn K mainGlobals "NAME_LENGTH" = some (some (.int 6 t6)))
    (q7 : PySem.W.nsIn K mainGlobals "MOST_RANKED" = some (some (.int 7 t7)))
    (z_isi : PySem.W.nsIn K mainGlobals "isinstance" = some none)
    (z_len : PySem.W.nsIn K mainGlobals "len" = some none)
    (z_all : PySem.W.nsIn K mainGlobals "all" = some none)
    (z_any : PySem.W.nsIn K mainGlobals "any" = some none)
    (z_set : PySem.W.nsIn K mainGlobals "set" = some none)
    (z_sorted : PySem.W.nsIn K mainGlobals "sorted" = some none)
    (z_list : PySem.W.nsIn K mainGlobals "list" = some none)
    (z_tuple : PySem.W.nsIn K mainGlobals "tuple" = some none)
    (z_int : PySem.W.nsIn K mainGlobals "int" = some none)
    (z_str : PySem.W.nsIn K mainGlobals "str" = some none)
    (z_bool : PySem.W.nsIn K mainGlobals "bool" = some none)
    (z_abs : PySem.W.nsIn K mainGlobals "abs" = some none)
    (z_range : PySem.W.nsIn K mainGlobals "range" = some none)
    (z_min : PySem.W.nsIn K mainGlobals "min" = some none)
    (z_zip : PySem.W.nsIn K mainGlobals "zip" = some none)
    (z_enum : PySem.W.nsIn K mainGlobals "enumerate" = some none)
    : ∃ fd : FuncData, (∀ (s : Shared) (v : Value), BindsTo s fd ⟨[v], []⟩ [("_law_script", v)]) ∧ ∀ base : Heap, K.In base → base.Ns mainGlobals mg → FnOk l.prog w K mg base C8.CX0 8 fa fd ["_law_script"] (spLaw K) := by
  have e := hfa.symm.trans (PySem.W.mg_of X G a21)
  cases e
  have B : Bi mg := ⟨PySem.W.mg_none_of X G z_isi, PySem.W.mg_none_of X G z_len, PySem.W.mg_none_of X G z_all, PySem.W.mg_none_of X G z_any, PySem.W.mg_none_of X G z_set, PySem.W.mg_none_of X G z_sorted, PySem.W.mg_none_of X G z_list, PySem.W.mg_none_of X G z_tuple, PySem.W.mg_none_of X G z_int, PySem.W.mg_none_of X G z_str, PySem.W.mg_none_of X G z_bool, PySem.W.mg_none_of X G z_abs, PySem.W.mg_none_of X G z_range, PySem.W.mg_none_of X G z_min, PySem.W.mg_none_of X G z_zip, PySem.W.mg_none_of X G z_enum⟩
  have F1 : C8.Fun K "is_spelled" "is_spelled" sSpelled f1 _ := ⟨_, _, _, _, _, _, _, _, _, _, rfl, l1, c1⟩
  have D1 : C8.Def K mg "is_spelled" sSpelled f1 _ := ⟨F1, PySem.W.mg_of X G a1, k1⟩
  have b1 := C8.Fun.binds (ps := ["value", "most"]) F1 rfl fun _ _ _ _ _ _ us hl => match us, hl with | [_, _], _ => rfl
  have F2 : C8.Fun K "is_name" "is_name" sName f2 _ := ⟨_, _, _, _, _, _, _, _, _, _, rfl, l2, c2⟩
  have D2 : C8.Def K mg "is_name" sName f2 _ := ⟨F2, PySem.W.mg_of X G a2, k2⟩
  have b2 := C8.Fun.binds (ps := ["value"]) F2 rfl fun _ _ _ _ _ _ us hl => match us, hl with | [_], _ => rfl
  have F3 : C8.Fun K "is_names" "is_names" sNames f3 _ := ⟨_, _, _, _, _, _, _, _, _, _, rfl, l3, c3⟩
  have D3 : C8.Def K mg "is_names" sNames f3 _ := ⟨F3, PySem.W.mg_of X G a3, k3⟩
  have b3 := C8.Fun.binds (ps := ["value"]) F3 rfl fun _ _ _ _ _ _ us hl => match us, hl with | [_], _ => rfl
  have F4 : C8.Fun K "_law_bag" "_law_bag" sBag f4 _ := ⟨_, _, _, _, _, _, _, _, _, _, rfl, l4, c4⟩
  have D4 : C8.Def K mg "_law_bag" sBag f4 _ := ⟨F4, PySem.W.mg_of X G a4, k4⟩
  have b4 := C8.Fun.binds (ps := ["_law_script"]) F4 rfl fun _ _ _ _ _ _ us hl => match us, hl with | [_], _ => rfl
  have F5 : C8.Fun K "_law_draw" "_law_draw" sDraw f5 _ := ⟨_, _, _, _, _, _, _, _, _, _, rfl, l5, c5⟩
  have D5 : C8.Def K mg "_law_draw" sDraw f5 _ := ⟨F5, PySem.W.mg_of X G a5, k5⟩
  have b5 := C8.Fun.binds (ps := ["_law_bag_here", "_law_sides_here"]) F5 rfl fun _ _ _ _ _ _ us hl => match us, hl with | [_, _], _ => rfl
  have F6 : C8.Fun K "_law_of" "_law_of" sOf f6 _ := ⟨_, _, _, _, _, _, _, _, _, _, rfl, l6, c6⟩
  have D6 : C8.Def K mg "_law_of" sOf f6 _ := ⟨F6, PySem.W.mg_of X G a6, k6⟩
  have b6 := C8.Fun.binds (ps := ["_law_bag_here", "_law_things"]) F6 rfl fun _ _ _ _ _ _ us hl => match us, hl with | [_, _], _ => rfl
  have F7 : C8.Fun K "_law_mixed" "_law_mixed" sMixed f7 _ := ⟨_, _, _, _, _, _, _, _, _, _, rfl, l7, c7⟩
  have D7 : C8.Def K mg "_law_mixed" sMixed f7 _ := ⟨F7, PySem.W.mg_of X G a7, k7⟩
  have b7 := C8.Fun.binds (ps := ["_law_bag_here", "_law_things"]) F7 rfl fun _ _ _ _ _ _ us hl => match us, hl with | [_, _], _ => rfl
  have F8 : C8.Fun K "_law_same" "_law_same" sSame f8 _ := ⟨_, _, _, _, _, _, _, _, _, _, rfl, l8, c8⟩
  have D8 : C8.Def K mg "_law_same" sSame f8 _ := ⟨F8, PySem.W.mg_of X G a8, k8⟩
  have b8 := C8.Fun.binds (ps := ["_law_found", "_law_due"]) F8 rfl fun _ _ _ _ _ _ us hl => match us, hl with | [_, _], _ => rfl
  have F9 : C8.Fun K "_law_names" "_law_names" sLNames f9 _ := ⟨_, _, _, _, _, _, _, _, _, _, rfl, l9, c9⟩
  have D9 : C8.Def K mg "_law_names" sLNames f9 _ := ⟨F9, PySem.W.mg_of X G a9, k9⟩
  have b9 := C8.Fun.binds (ps := ["_law_bag_here", "_law_many"]) F9 rfl fun _ _ _ _ _ _ us hl => match us, hl with | [_, _], _ => rfl
  have F10 : C8.Fun K "_law_order" "_law_order" sLOrder f10 _ := ⟨_, _, _, _, _, _, _, _, _, _, rfl, l10, c10⟩
  have D10 : C8.Def K mg "_law_order" sLOrder f10 _ := ⟨F10, PySem.W.mg_of X G a10, k10⟩
  have b10 := C8.Fun.binds (ps := ["_law_x"]) F10 rfl fun _ _ _ _ _ _ us hl => match us, hl with | [_], _ => rfl
  have F11 : C8.Fun K "_law_sides" "_law_sides" sSides f11 _ := ⟨_, _, _, _, _, _, _, _, _, _, rfl, l11, c11⟩
  have D11 : C8.Def K mg "_law_sides" sSides f11 _ := ⟨F11, PySem.W.mg_of X G a11, k11⟩
  have b11 := C8.Fun.binds (ps := ["_law_bag_here", "_law_names_here"]) F11 rfl fun _ _ _ _ _ _ us hl => match us, hl with | [_, _], _ => rfl
  have F12 : C8.Fun K "_law_row_text" "_law_row_text" sRowText f12 _ := ⟨_, _, _, _, _, _, _, _, _, _, rfl, l12, c12⟩
  have D12 : C8.Def K mg "_law_row_text" sRowText f12 _ := ⟨F12, PySem.W.mg_of X G a12, k12⟩
  have b12 := C8.Fun.binds (ps := ["_law_good", "_law_bad"]) F12 rfl fun _ _ _ _ _ _ us hl => match us, hl with | [_, _], _ => rfl
  have F13 : C8.Fun K "_law_join" "_law_join" sJoin f13 _ := ⟨_, _, _, _, _, _, _, _, _, _, rfl, l13, c13⟩
  have D13 : C8.Def K mg "_law_join" sJoin f13 _ := ⟨F13, PySem.W.mg_of X G a13, k13⟩
  have b13 := C8.Fun.binds (ps := ["_law_one", "_law_two"]) F13 rfl fun _ _ _ _ _ _ us hl => match us, hl with | [_, _], _ => rfl
  have F14 : C8.Fun K "_law_bears" "_law_bears" sBears f14 _ := ⟨_, _, _, _, _, _, _, _, _, _, rfl, l14, c14⟩
  have D14 : C8.Def K mg "_law_bears" sBears f14 _ := ⟨F14, PySem.W.mg_of X G a14, k14⟩
  have b14 := C8.Fun.binds (ps := ["_law_line", "_law_sides_here"]) F14 rfl fun _ _ _ _ _ _ us hl => match us, hl with | [_, _], _ => rfl
  have F15 : C8.Fun K "_law_lines" "_law_lines" sLines f15 _ := ⟨_, _, _, _, _, _, _, _, _, _, rfl, l15, c15⟩
  have D15 : C8.Def K mg "_law_lines" sLines f15 _ := ⟨F15, PySem.W.mg_of X G a15, k15⟩
  have b15 := C8.Fun.binds (ps := ["_law_names_here"]) F15 rfl fun _ _ _ _ _ _ us hl => match us, hl with | [_], _ => rfl
  have F16 : C8.Fun K "_law_row_of" "_law_row_of" sRowOf f16 _ := ⟨_, _, _, _, _, _, _, _, _, _, rfl, l16, c16⟩
  have D16 : C8.Def K mg "_law_row_of" sRowOf f16 _ := ⟨F16, PySem.W.mg_of X G a16, k16⟩
  have b16 := C8.Fun.binds (ps := ["_law_sides_here"]) F16 rfl fun _ _ _ _ _ _ us hl => match us, hl with | [_], _ => rfl
  have F17 : C8.Fun K "_law_rows_near" "_law_rows_near" sNear f17 _ := ⟨_, _, _, _, _, _, _, _, _, _, rfl, l17, c17⟩
  have D17 : C8.Def K mg "_law_rows_near" sNear f17 _ := ⟨F17, PySem.W.mg_of X G a17, k17⟩
  have b17 := C8.Fun.binds (ps := ["_law_bag_here", "_law_names_here"]) F17 rfl fun _ _ _ _ _ _ us hl => match us, hl with | [_, _], _ => rfl
  have F18 : C8.Fun K "_law_right" "_law_right" sRight f18 _ := ⟨_, _, _, _, _, _, _, _, _, _, rfl, l18, c18⟩
  have D18 : C8.Def K mg "_law_right" sRight f18 _ := ⟨F18, PySem.W.mg_of X G a18, k18⟩
  have b18 := C8.Fun.binds (ps := ["_law_own", "_law_sides_here"]) F18 rfl fun _ _ _ _ _ _ us hl => match us, hl with | [_, _], _ => rfl
  have F19 : C8.Fun K "_law_joined_so" "_law_joined_so" sJoinedSo f19 _ := ⟨_, _, _, _, _, _, _, _, _, _, rfl, l19, c19⟩
  have D19 : C8.Def K mg "_law_joined_so" sJoinedSo f19 _ := ⟨F19, PySem.W.mg_of X G a19, k19⟩
  have b19 := C8.Fun.binds (ps := ["_law_rows", "_law_made"]) F19 rfl fun _ _ _ _ _ _ us hl => match us, hl with | [_, _], _ => rfl
  have F20 : C8.Fun K "_law_implied" "_law_implied" sImplied f20 _ := ⟨_, _, _, _, _, _, _, _, _, _, rfl, l20, c20⟩
  have D20 : C8.Def K mg "_law_implied" sImplied f20 _ := ⟨F20, PySem.W.mg_of X G a20, k20⟩
  have b20 := C8.Fun.binds (ps := ["_law_names_here", "_law_rows", "_law_made"]) F20 rfl fun _ _ _ _ _ _ us hl => match us, hl with | [_, _, _], _ => rfl
  have F21 : C8.Fun K "law" "law" sLaw fa _ := ⟨_, _, _, _, _, _, _, _, _, _, rfl, l21, c21⟩
  have FRI : C8.Fun K "__init__" "Row.__init__" (sRow 0) fRI _ := ⟨_, _, _, _, _, _, _, _, _, _, rfl, lRI, cRI⟩
  have bRI : Binds K (PySem.W.fnOf "__init__" "Row.__init__" (C8.fnArgs (sRow 0)) (C8.fnBody (sRow 0)) (C8.fnScope (sRow 0)) (.ref tRI) kVRI dcRI pmRI anRI cdRI ctRI) ["self", "pro", "con"] [] := binds_row dRI
  have FRH : C8.Fun K "hopeless" "Row.hopeless" (sRow 2) fRH _ := ⟨_, _, _, _, _, _, _, _, _, _, rfl, lRH, cRH⟩
  have bRH := C8.Fun.binds (ps := ["self"]) FRH rfl fun _ _ _ _ _ _ us hl => match us, hl with | [_], _ => rfl
  have FRS : C8.Fun K "sign" "Row.sign" (sRow 3) fRS _ := ⟨_, _, _, _, _, _, _, _, _, _, rfl, lRS, cRS⟩
  have bRS := C8.Fun.binds (ps := ["self", "reason"]) FRS rfl fun _ _ _ _ _ _ us hl => match us, hl with | [_, _], _ => rfl
  have FRM : C8.Fun K "implies" "Row.implies" (sRow 5) fRM _ := ⟨_, _, _, _, _, _, _, _, _, _, rfl, lRM, cRM⟩
  have bRM := C8.Fun.binds (ps := ["self", "other"]) FRM rfl fun _ _ _ _ _ _ us hl => match us, hl with | [_, _], _ => rfl
  have FRT : C8.Fun K "text" "Row.text" (sRow 6) fRT _ := ⟨_, _, _, _, _, _, _, _, _, _, rfl, lRT, cRT⟩
  have bRT := C8.Fun.binds (ps := ["self"]) FRT rfl fun _ _ _ _ _ _ us hl => match us, hl with | [_], _ => rfl
  have FRO : C8.Fun K "__or__" "Row.__or__" (sRow 10) fRO _ := ⟨_, _, _, _, _, _, _, _, _, _, rfl, lRO, cRO⟩
  have bRO := C8.Fun.binds (ps := ["self", "other"]) FRO rfl fun _ _ _ _ _ _ us hl => match us, hl with | [_, _], _ => rfl
  have FRC : C8.Fun K "__contains__" "Row.__contains__" (sRow 11) fRC _ := ⟨_, _, _, _, _, _, _, _, _, _, rfl, lRC, cRC⟩
  have bRC := C8.Fun.binds (ps := ["self", "reason"]) FRC rfl fun _ _ _ _ _ _ us hl => match us, hl with | [_, _], _ => rfl
  have FOI := fun_mk (st := (sOrder 0)) lOI cOI kOI
  have FOD : C8.Fun K "decides" "Order.decides" (sOrder 4) fOD _ := ⟨_, _, _, _, _, _, _, _, _, _, rfl, lOD, cOD⟩
  have bOD := C8.Fun.binds (ps := ["self", "row"]) FOD rfl fun _ _ _ _ _ _ us hl => match us, hl with | [_, _], _ => rfl
  have FOB : C8.Fun K "bears" "Order.bears" (sOrder 5) fOB _ := ⟨_, _, _, _, _, _, _, _, _, _, rfl, lOB, cOB⟩
  have bOB := C8.Fun.binds (ps := ["self", "row"]) FOB rfl fun _ _ _ _ _ _ us hl => match us, hl with | [_, _], _ => rfl
  have TR : TxtRow K mg C := ⟨⟨pgC, hdC, poC, saC⟩, nC0, nC1, nC2, PySem.W.mg_of X G aC⟩
  have TO : TxtOrd K mg O := ⟨⟨pgO, hdO, poO, saO⟩, nO0, nO1, nO2, PySem.W.mg_of X G aO⟩
  have MC : Mk K C fRI := ⟨mkC, aRI, iRI, kcC⟩
  have MO : Mk K O fOI := ⟨mkO, aOI, iOI, kcO⟩
  refine ⟨_, fun s v => (.of_eq rfl : BindsTo s (PySem.W.fnOf "law" "law" (C8.fnArgs sLaw) (C8.fnBody sLaw) (C8.fnScope sLaw) .none kV21 dc21 pm21 an21 cd21 ct21) ⟨[v], []⟩ [("_law_script", v)]), fun base _ _ => ?_⟩
  have Gsp := ok_spelled (P := l.prog) (w := w) (base := base) B (PySem.W.mg_of X G qL) D1 b1
  have Gnm := ok_name (PySem.W.mg_of X G q6) Gsp D2 b2
  have Gns := ok_names B Gnm D3 b3
  have Gmk := ok_rowInit B TR Gns MC FRI bRI
  have Gh := ok_hopeless (P := l.prog) (w := w) (base := base) TR FRH
  have Gc := ok_contains TR Gnm FRC
  have Gsg := ok_sign TR Gc bRC aRC iRC ⟨aRS, iRS, kRS⟩ FRS bRS
  have Gtx := ok_text TR Gsg ⟨aRT, iRT, kRT⟩ FRT bRT
  have Gim := ok_implies B TR Gh bRH ⟨aRH, gRH, tRH, ⟨_, rRH⟩⟩ ⟨aRM, iRM, kRM⟩ FRM bRM
  have Gor := ok_or B TR Gmk FRO
  have OA : OrAt l.prog w K mg base C := ⟨fRO, _, Gor, bRO, sfC, aRO, iRO⟩
  have GoI := ok_ordInit B (PySem.W.mg_of X G q7) TO Gnm FOI
  have Gde := ok_decides (P := l.prog) (w := w) (base := base) TO TR ⟨aOD, iOD, kOD⟩ FOD bOD
  have Gbe := ok_bears TO TR Gde ⟨aOB, iOB, kOB⟩ FOB bOB
  have Gdr := ok_draw (P := l.prog) (w := w) (base := base) B D5 b5
  have Gbg := ok_bag (P := l.prog) (w := w) (base := base) B D4 b4
  have Gof := ok_of B Gdr D6 b6
  have Gmx := ok_mixed B Gdr D7 b7
  have Gsd := ok_sides B Gdr D11 b11
  have Gln := ok_lnames B Gdr Gof D9 b9
  have Gnr := ok_near B Gdr Gsd D17 b17
  have Gsm := ok_same (P := l.prog) (w := w) (base := base) B D8 b8
  have Grt := ok_rowText (P := l.prog) (w := w) (base := base) B D12 b12
  have Gjo := ok_join (P := l.prog) (w := w) (base := base) B D13 b13
  have Glb := ok_lbears (P := l.prog) (w := w) (base := base) B D14 b14
  have Gli := ok_lines (P := l.prog) (w := w) (base := base) B D15 b15
  have Gro := ok_rowOf B Gmk D16 b16
  have Grg := ok_right B TR (Gsm 3) Gtx Grt D18 b18
  have Gjs := ok_joined B OA Gjo Grg D19 b19
  have Gil := ok_implied B OA Gli Gjo Glb (Gsm 1) Gim D20 b20
  have Glo := ok_lorder B (PySem.W.mg_of X G aO) MO GoI D10 b10
  exact ok_law B OA Gbg Gof Gln Gnr Gro Gjs Gil Gmx Glo Gbe Glb Gjo (Gsm 1) (Gsm 2) F21
theorem walk {l : PySem.W.OpenLaw} {q : Program} {loose : List Str} {XP : (Str → Option Value) → Heap → Prop} {YP : World → Heap → Prop} {d : DefRec} {K : Params → PySem.W.Frag} (hn : l.most = some 63) (hdf : d.params.defaults = [])
    (hY : ∀ (w : World) (h : Heap), YP w h → (K w.params).In h)
    (F : ∀ (w : World) (mg : Str → Option Value) (fa : Addr) (h : Heap), (K w.params).In h → h.Ns mainGlobals mg → mg d.name = some (.ref fa) →
      ∃ fd : FuncData, (∀ (s : Shared) (u : Value), BindsTo s fd ⟨[u], []⟩ [("_law_script", u)]) ∧ ∀ base : Heap, (K w.params).In base → base.Ns mainGlobals mg → FnOk l.prog w (K w.params) mg base C8.CX0 8 fa fd ["_law_script"] (spLaw (K w.params))) :
    PySem.W.WalkO q loose XP YP l.row.toRowW d [] (fun f vs => PySem.call f vs) :=
  L2.walk_of (n := 63) (k := 8) (x := "_law_script") (CX := fun _ => C8.CX0) (sp := fun w => spLaw (K w.params)) hn (by decide) hdf ⟨rfl, by decide, by decide⟩ hY F (fun _ _ a ns hl _ hS => ⟨a, ns, rfl, hS, hl, fun _ => rfl⟩) fun _ _ _ _ _ z => z
end K12

open PySem PySem.W PyProof.Rows
set_option maxRecDepth 100000 in
set_option maxHeartbeats 0 in
theorem PySem.Challenge.cw_firstdecides_k12_whole_rows_joined_holds : PySem.Challenge.rw_firstdecides_k12_whole_rows_joined.Holds := by
  w_on; o_law; k_head; (case hw => w_witness2)
  k_fill
  refine K12.walk (l := PySem.Challenge.rw_firstdecides_k12_whole_rows_joined) rfl rfl (fun w h Y => PySem.W.kIn_of Y) ?F
  case F =>
    intro w mg fa h KX G hmg
    refine' K12.all_mk KX G hmg ?a1 ?l1 ?c1 ?k1 ?a2 ?l2 ?c2 ?k2 ?a3 ?l3 ?c3 ?k3 ?a4 ?l4 ?c4 ?k4 ?a5 ?l5 ?c5 ?k5 ?a6 ?l6 ?c6 ?k6 ?a7 ?l7 ?c7 ?k7 ?a8 ?l8 ?c8 ?k8 ?a9 ?l9 ?c9 ?k9 ?a10 ?l10 ?c10 ?k10 ?a11 ?l11 ?c11 ?k11 ?a12 ?l12 ?c12 ?k12 ?a13 ?l13 ?c13 ?k13 ?a14 ?l14 ?c14 ?k14 ?a15 ?l15 ?c15 ?k15 ?a16 ?l16 ?c16 ?k16 ?a17 ?l17 ?c17 ?k17 ?a18 ?l18 ?c18 ?k18 ?a19 ?l19 ?c19 ?k19 ?a20 ?l20 ?c20 ?k20 ?a21 ?l21 ?c21 ?k21 ?aC ?aO ?aRI ?iRI ?lRI ?cRI ?dRI ?aRH ?gRH ?tRH ?rRH ?lRH ?cRH ?aRS ?iRS ?lRS ?cRS ?kRS ?aRM ?iRM ?lRM ?cRM ?kRM ?aRT ?iRT ?lRT ?cRT ?kRT ?aRO ?iRO ?lRO ?cRO ?aRC ?iRC ?lRC ?cRC ?aOI ?iOI ?lOI ?cOI ?kOI ?aOD ?iOD ?lOD ?cOD ?kOD ?aOB ?iOB ?lOB ?cOB ?kOB ?pgC ?hdC ?poC ?saC ?mkC ?kcC ?pgO ?hdO ?poO ?saO ?mkO ?kcO ?sfC ?nC0 ?nC1 ?nC2 ?nO0 ?nO1 ?nO2 ?qL ?q6 ?q7 ?z_isi ?z_len ?z_all ?z_any ?z_set ?z_sorted ?z_list ?z_tuple ?z_int ?z_str ?z_bool ?z_abs ?z_range ?z_min ?z_zip ?z_enum
    (case a1 => k_is)
    (case l1 => k_is)
    (case c1 => k_is)
    (case k1 => k_is)
    (case a2 => k_is)
    (case l2 => k_is)
    (case c2 => k_is)
    (case k2 => k_is)
    (case a3 => k_is)
    (case l3 => k_is)
    (case c3 => k_is)
    (case k3 => k_is)
    (case a4 => k_is)
    (case l4 => k_is)
    (case c4 => k_is)
    (case k4 => k_is)
    (case a5 => k_is)
    (case l5 => k_is)
    (case c5 => k_is)
    (case k5 => k_is)
    (case a6 => k_is)
    (case l6 => k_is)
    (case c6 => k_is)
    (case k6 => k_is)
    (case a7 => k_is)
    (case l7 => k_is)
    (case c7 => k_is)
    (case k7 => k_is)
    (case a8 => k_is)
    (case l8 => k_is)
    (case c8 => k_is)
    (case k8 => k_is)
    (case a9 => k_is)
    (case l9 => k_is)
    (case c9 => k_is)
    (case k9 => k_is)
    (case a10 => k_is)
    (case l10 => k_is)
    (case c10 => k_is)
    (case k10 => k_is)
    (case a11 => k_is)
    (case l11 => k_is)
    (case c11 => k_is)
    (case k11 => k_is)
    (case a12 => k_is)
    (case l12 => k_is)
    (case c12 => k_is)
    (case k12 => k_is)
    (case a13 => k_is)
    (case l13 => k_is)
    (case c13 => k_is)
    (case k13 => k_is)
    (case a14 => k_is)
    (case l14 => k_is)
    (case c14 => k_is)
    (case k14 => k_is)
    (case a15 => k_is)
    (case l15 => k_is)
    (case c15 => k_is)
    (case k15 => k_is)
    (case a16 => k_is)
    (case l16 => k_is)
    (case c16 => k_is)
    (case k16 => k_is)
    (case a17 => k_is)
    (case l17 => k_is)
    (case c17 => k_is)
    (case k17 => k_is)
    (case a18 => k_is)
    (case l18 => k_is)
    (case c18 => k_is)
    (case k18 => k_is)
    (case a19 => k_is)
    (case l19 => k_is)
    (case c19 => k_is)
    (case k19 => k_is)
    (case a20 => k_is)
    (case l20 => k_is)
    (case c20 => k_is)
    (case k20 => k_is)
    (case a21 => k_is)
    (case l21 => k_is)
    (case c21 => k_is)
    (case k21 => k_is)
    (case aC => k_is)
    (case aO => k_is)
    (case aRI => k_is)
    (case iRI => k_is)
    (case lRI => k_is)
    (case cRI => k_is)
    (case dRI => k_is)
    (case aRH => k_is)
    (case gRH => k_is)
    (case tRH => k_is)
    (case rRH => k_is)
    (case lRH => k_is)
    (case cRH => k_is)
    (case aRS => k_is)
    (case iRS => k_is)
    (case lRS => k_is)
    (case cRS => k_is)
    (case kRS => k_is)
    (case aRM => k_is)
    (case iRM => k_is)
    (case lRM => k_is)
    (case cRM => k_is)
    (case kRM => k_is)
    (case aRT => k_is)
    (case iRT => k_is)
    (case lRT => k_is)
    (case cRT => k_is)
    (case kRT => k_is)
    (case aRO => k_is)
    (case iRO => k_is)
    (case lRO => k_is)
    (case cRO => k_is)
    (case aRC => k_is)
    (case iRC => k_is)
    (case lRC => k_is)
    (case cRC => k_is)
    (case aOI => k_is)
    (case iOI => k_is)
    (case lOI => k_is)
    (case cOI => k_is)
    (case kOI => k_is)
    (case aOD => k_is)
    (case iOD => k_is)
    (case lOD => k_is)
    (case cOD => k_is)
    (case kOD => k_is)
    (case aOB => k_is)
    (case iOB => k_is)
    (case lOB => k_is)
    (case cOB => k_is)
    (case kOB => k_is)
    (case pgC => k_is)
    (case hdC => k_is)
    (case poC => k_is)
    (case saC => k_is)
    (case mkC => k_is)
    (case kcC => k_is)
    (case pgO => k_is)
    (case hdO => k_is)
    (case poO => k_is)
    (case saO => k_is)
    (case mkO => k_is)
    (case kcO => k_is)
    (case sfC => k_is)
    (case nC0 => k_is)
    (case nC1 => k_is)
    (case nC2 => k_is)
    (case nO0 => k_is)
    (case nO1 => k_is)
    (case nO2 => k_is)
    (case qL => k_is)
    (case q6 => k_is)
    (case q7 => k_is)
    (case z_isi => k_is)
    (case z_len => k_is)
    (case z_all => k_is)
    (case z_any => k_is)
    (case z_set => k_is)
    (case z_sorted => k_is)
    (case z_list => k_is)
    (case z_tuple => k_is)
    (case z_int => k_is)
    (case z_str => k_is)
    (case z_bool => k_is)
    (case z_abs => k_is)
    (case z_range => k_is)
    (case z_min => k_is)
    (case z_zip => k_is)
    (case z_enum => k_is)
