import PyProof.Rows.All
import PyProof.Rows.StrMeet
import Wide.All
import OpenK.AllK
import Wide.FinOn
import HandS.ForMost
import HandS.OwnEq
import KE.KEqNest
import PyProof.InstNe
import HandS.Defaults
import HandS.MakeKw
import HandS.SortKw
import KE.KDictOf
import KE.KDictZip
import KE.KTurns
import KE.DataMinMax
import KE.GoesEnum
import HandS.Strs
import HandS.IsInst
import PySem.Challenge.RW_paperkin_k72_whole_banks
import HandS.SetKeys
import HandS.StrMore
import HandS.Style
import HandS.More
import HandS.Walk
import HandS.NoneIn
set_option Elab.async false
set_option linter.all false
set_option maxRecDepth 100000
set_option maxHeartbeats 0
/-! part KM -/
/-! The mathematics of banks, in plain Lean: association lists by texts, texts in order, what a bank tells. -/
namespace KB
open PySem PyProof.Rows

/-! ### texts in order -/
def slt (x y : Str) : Prop := x.cps.toList < y.cps.toList
instance (x y : Str) : Decidable (slt x y) := inferInstanceAs (Decidable (x.cps.toList < y.cps.toList))
theorem str_ext {x y : Str} (h : x.cps.toList = y.cps.toList) : x = y := by
  cases x with
  | mk a =>
    cases y with
    | mk b =>
      have e : a = b := Array.toList_inj.mp h
      rw [e]
theorem slt_irrefl (x : Str) : ¬ slt x x := List.lt_irrefl _
theorem slt_trans {x y z : Str} (h : slt x y) (g : slt y z) : slt x z := List.lt_trans h g
theorem slt_asymm {x y : Str} (h : slt x y) : ¬ slt y x := fun g => slt_irrefl x (slt_trans h g)
theorem slt_conn {x y : Str} (h : ¬ slt x y) (g : ¬ slt y x) : x = y := by
  apply str_ext
  have h1 : y.cps.toList ≤ x.cps.toList := List.not_lt.mp h
  have h2 : x.cps.toList ≤ y.cps.toList := List.not_lt.mp g
  exact List.le_antisymm h2 h1
theorem slt_ne {x y : Str} (h : slt x y) : x ≠ y := fun e => slt_irrefl x (by rw [e] at h; rw [e]; exact h)
abbrev SS (l : List Str) : Prop := l.Pairwise slt
theorem SS.nodup {l : List Str} (h : SS l) : l.Nodup := by
  unfold List.Nodup
  exact h.imp fun h => slt_ne h
theorem risingS_spec : ∀ {l : List Str} {p : Str}, risingS p l = true → (p :: l).Nodup → (p :: l).Pairwise slt
  | [], p, _, _ => List.pairwise_singleton _ _
  | x :: r, p, h, nd => by
    unfold risingS at h
    rw [Bool.and_eq_true] at h
    obtain ⟨h1, h2⟩ := h
    have nd2 := (List.nodup_cons.mp nd)
    have ih := risingS_spec h2 nd2.2
    have hx : slt p x := by
      have h3 : ¬ slt x p := by
        intro q
        have q' : Spec.ltCps x.cps.toList p.cps.toList = true := by rw [ltCps_eq]; exact decide_eq_true q
        rw [q'] at h1
        cases h1
      by_cases q : slt p x
      · exact q
      · exact absurd (slt_conn q h3) fun e => nd2.1 (by rw [e]; exact List.mem_cons_self)
    refine List.pairwise_cons.mpr ⟨fun y hy => ?_, ih⟩
    rcases List.mem_cons.mp hy with e | hy
    · rw [e]; exact hx
    · exact slt_trans hx ((List.pairwise_cons.mp ih).1 y hy)
theorem SS_of_sorted {l : List Str} (h : sortedS l = true) (nd : l.Nodup) : SS l := by
  cases l with
  | nil => exact List.Pairwise.nil
  | cons x r => exact risingS_spec h nd
/-- two strictly rising lists of the same members are one -/
theorem SS_unique : ∀ {l k : List Str}, SS l → SS k → (∀ x, x ∈ l ↔ x ∈ k) → l = k
  | [], [], _, _, _ => rfl
  | [], y :: k, _, _, h => absurd ((h y).mpr List.mem_cons_self) List.not_mem_nil
  | x :: l, [], _, _, h => absurd ((h x).mp List.mem_cons_self) List.not_mem_nil
  | x :: l, y :: k, hl, hk, h => by
    have l1 := List.pairwise_cons.mp hl
    have k1 := List.pairwise_cons.mp hk
    have e : x = y := by
      rcases List.mem_cons.mp ((h x).mp List.mem_cons_self) with q | q
      · exact q
      · rcases List.mem_cons.mp ((h y).mpr List.mem_cons_self) with z | z
        · exact z.symm
        · exact absurd (l1.1 y z) (slt_asymm (k1.1 x q))
    subst e
    have : l = k := SS_unique l1.2 k1.2 fun z => by
      constructor
      · intro hz
        rcases List.mem_cons.mp ((h z).mp (List.mem_cons_of_mem _ hz)) with q | q
        · exact absurd (l1.1 z hz) (by rw [q]; exact slt_irrefl _)
        · exact q
      · intro hz
        rcases List.mem_cons.mp ((h z).mpr (List.mem_cons_of_mem _ hz)) with q | q
        · exact absurd (k1.1 z hz) (by rw [q]; exact slt_irrefl _)
        · exact q
    rw [this]
/-- a list put in order -/
def sins (x : Str) : List Str → List Str
  | [] => [x]
  | y :: r => if slt y x then y :: sins x r else x :: y :: r
def srt : List Str → List Str
  | [] => []
  | x :: r => sins x (srt r)
theorem sins_perm (x : Str) : ∀ l : List Str, (sins x l).Perm (x :: l)
  | [] => List.Perm.refl _
  | y :: r => by
    unfold sins
    split
    · exact ((sins_perm x r).cons y).trans (List.Perm.swap x y r)
    · exact List.Perm.refl _
theorem srt_perm : ∀ l : List Str, (srt l).Perm l
  | [] => List.Perm.refl _
  | x :: r => (sins_perm x (srt r)).trans ((srt_perm r).cons x)
theorem sins_SS {x : Str} : ∀ {l : List Str}, SS l → x ∉ l → SS (sins x l)
  | [], _, _ => List.pairwise_singleton _ _
  | y :: r, h, hx => by
    have h1 := List.pairwise_cons.mp h
    have nxy : x ≠ y := fun e => hx (by rw [e]; exact List.mem_cons_self)
    unfold sins
    split
    · rename_i q
      refine List.pairwise_cons.mpr ⟨fun z hz => ?_, sins_SS h1.2 fun m => hx (List.mem_cons_of_mem _ m)⟩
      rcases List.mem_cons.mp ((sins_perm x r).mem_iff.mp hz) with e | hz
      · rw [e]; exact q
      · exact h1.1 z hz
    · rename_i q
      have hxy : slt x y := by
        by_cases g : slt x y
        · exact g
        · exact absurd (slt_conn g q) nxy
      refine List.pairwise_cons.mpr ⟨fun z hz => ?_, h⟩
      rcases List.mem_cons.mp hz with e | hz
      · rw [e]; exact hxy
      · exact slt_trans hxy (h1.1 z hz)
theorem srt_SS : ∀ {l : List Str}, l.Nodup → SS (srt l)
  | [], _ => List.Pairwise.nil
  | x :: r, h => by
    have h1 := List.nodup_cons.mp h
    exact sins_SS (srt_SS h1.2) fun m => h1.1 ((srt_perm r).mem_iff.mp m)
theorem mem_srt {l : List Str} {x : Str} : x ∈ srt l ↔ x ∈ l := (srt_perm l).mem_iff
theorem srt_nodup {l : List Str} (h : l.Nodup) : (srt l).Nodup := (srt_SS h).nodup
/-- what sorted() gives is srt -/
theorem sorted_eq {l ys : List Str} (nd : l.Nodup) (p : ys.Perm l) (s : sortedS ys = true) : ys = srt l :=
  SS_unique (SS_of_sorted s (p.nodup_iff.mpr nd)) (srt_SS nd) fun x => (p.mem_iff).trans mem_srt.symm
theorem srt_of_SS {l : List Str} (h : SS l) : srt l = l := SS_unique (srt_SS h.nodup) h fun _ => mem_srt
theorem SS_filter {l : List Str} (f : Str → Bool) (h : SS l) : SS (l.filter f) := h.sublist List.filter_sublist
theorem srt_of_perm {l k : List Str} (nd : k.Nodup) (p : l.Perm k) : srt l = srt k :=
  SS_unique (srt_SS (p.nodup_iff.mpr nd)) (srt_SS nd) fun x => by rw [mem_srt, mem_srt]; exact p.mem_iff

/-! ### association lists by texts -/
section
variable {α β : Type}
def aget (l : List (Str × α)) (n : Str) : Option α := (l.find? fun p => decide (p.1 = n)).map (·.2)
def aput (l : List (Str × α)) (n : Str) (x : α) : List (Str × α) := if (l.any fun p => decide (p.1 = n)) = true then l.map (fun p => if p.1 = n then (p.1, x) else p) else l ++ [(n, x)]
def adrop (l : List (Str × α)) (n : Str) : List (Str × α) := l.filter fun p => decide (p.1 ≠ n)
def keys (l : List (Str × α)) : List Str := l.map (·.1)
theorem aget_nil (n : Str) : aget ([] : List (Str × α)) n = none := rfl
theorem aget_pos {p : Str × α} {r : List (Str × α)} {n : Str} (e : p.1 = n) : aget (p :: r) n = some p.2 := by simp [aget, e]
theorem aget_neg {p : Str × α} {r : List (Str × α)} {n : Str} (e : ¬ p.1 = n) : aget (p :: r) n = aget r n := by simp [aget, e]
theorem aget_none {l : List (Str × α)} {n : Str} : aget l n = none ↔ n ∉ keys l := by
  induction l with
  | nil => simp [aget, keys]
  | cons p r ih =>
    by_cases e : p.1 = n
    · rw [aget_pos e]; simp [keys, e]
    · rw [aget_neg e, ih]
      simp only [keys, List.map_cons, List.mem_cons, not_or]
      exact ⟨fun h => ⟨fun q => e q.symm, h⟩, fun h => h.2⟩
theorem aget_some_mem {l : List (Str × α)} {n : Str} {x : α} (h : aget l n = some x) : (n, x) ∈ l := by
  induction l with
  | nil => cases h
  | cons p r ih =>
    by_cases e : p.1 = n
    · rw [aget_pos e] at h
      cases h
      subst e
      exact List.mem_cons_self
    · rw [aget_neg e] at h
      exact List.mem_cons_of_mem _ (ih h)
theorem aget_isSome {l : List (Str × α)} {n : Str} : (aget l n).isSome = true ↔ n ∈ keys l := by
  cases h : aget l n with
  | none =>
    have := aget_none.mp h
    simp [this]
  | some x =>
    have : n ∈ keys l := List.mem_map.mpr ⟨(n, x), aget_some_mem h, rfl⟩
    simp [this]
theorem aget_of_mem {l : List (Str × α)} {n : Str} {x : α} (nd : (keys l).Nodup) (h : (n, x) ∈ l) : aget l n = some x := by
  induction l with
  | nil => cases h
  | cons p r ih =>
    have nd' := List.nodup_cons.mp nd
    rcases List.mem_cons.mp h with e | h
    · rw [aget_pos (by rw [← e])]; rw [← e]
    · rw [aget_neg, ih nd'.2 h]
      intro e
      exact nd'.1 (List.mem_map.mpr ⟨(n, x), h, e.symm⟩)
theorem aget_map (f : α → β) (l : List (Str × α)) (n : Str) : aget (l.map fun p => (p.1, f p.2)) n = (aget l n).map f := by
  induction l with
  | nil => rfl
  | cons p r ih =>
    by_cases e : p.1 = n
    · rw [List.map_cons, aget_pos (by exact e), aget_pos e]; rfl
    · rw [List.map_cons, aget_neg (by exact e), aget_neg e, ih]
theorem any_key {l : List (Str × α)} {n : Str} : (l.any fun p => decide (p.1 = n)) = true ↔ n ∈ keys l := by
  rw [List.any_eq_true]
  constructor
  · rintro ⟨p, hp, e⟩
    exact List.mem_map.mpr ⟨p, hp, of_decide_eq_true e⟩
  · intro h
    obtain ⟨p, hp, e⟩ := List.mem_map.mp h
    exact ⟨p, hp, decide_eq_true e⟩
theorem aput_new {l : List (Str × α)} {n : Str} {x : α} (h : n ∉ keys l) : aput l n x = l ++ [(n, x)] := by
  unfold aput
  rw [if_neg fun q => h (any_key.mp q)]
theorem aput_old {l : List (Str × α)} {n : Str} {x : α} (h : n ∈ keys l) : aput l n x = l.map (fun p => if p.1 = n then (p.1, x) else p) := by
  unfold aput
  rw [if_pos (any_key.mpr h)]
theorem keys_aput_old {l : List (Str × α)} {n : Str} {x : α} (h : n ∈ keys l) : keys (aput l n x) = keys l := by
  rw [aput_old h]
  unfold keys
  rw [List.map_map]
  apply List.map_congr_left
  intro p _
  show (if p.1 = n then (p.1, x) else p).1 = p.1
  split <;> rfl
theorem keys_aput_new {l : List (Str × α)} {n : Str} {x : α} (h : n ∉ keys l) : keys (aput l n x) = keys l ++ [n] := by
  rw [aput_new h]
  simp [keys]
theorem nodup_aput {l : List (Str × α)} {n : Str} {x : α} (nd : (keys l).Nodup) : (keys (aput l n x)).Nodup := by
  by_cases h : n ∈ keys l
  · rw [keys_aput_old h]; exact nd
  · rw [keys_aput_new h]
    rw [List.nodup_append]
    refine ⟨nd, by simp, fun a ha b hb e => h ?_⟩
    have : b = n := by simpa using hb
    rw [← this, ← e]
    exact ha
theorem mem_keys_aput {l : List (Str × α)} {n m : Str} {x : α} : m ∈ keys (aput l n x) ↔ m = n ∨ m ∈ keys l := by
  by_cases h : n ∈ keys l
  · rw [keys_aput_old h]
    exact ⟨.inr, fun q => q.elim (fun e => by rw [e]; exact h) id⟩
  · rw [keys_aput_new h]
    simp only [List.mem_append, List.mem_singleton]
    exact ⟨fun q => q.elim .inr .inl, fun q => q.elim .inr .inl⟩
theorem aget_append (l k : List (Str × α)) (n : Str) : aget (l ++ k) n = (aget l n).or (aget k n) := by
  induction l with
  | nil => simp [aget]
  | cons p r ih =>
    by_cases e : p.1 = n
    · rw [List.cons_append, aget_pos e, aget_pos e]; rfl
    · rw [List.cons_append, aget_neg e, aget_neg e, ih]
theorem aget_repl (l : List (Str × α)) (n m : Str) (x : α) : aget (l.map fun p => if p.1 = n then (p.1, x) else p) m = (aget l m).map fun y => if m = n then x else y := by
  induction l with
  | nil => rfl
  | cons p r ih =>
    rw [List.map_cons]
    by_cases e : p.1 = m
    · rw [aget_pos e]
      by_cases q : p.1 = n
      · rw [if_pos q, aget_pos (by exact e)]
        show some x = some (if m = n then x else p.2)
        rw [if_pos (e.symm.trans q)]
      · rw [if_neg q, aget_pos e]
        show some p.2 = some (if m = n then x else p.2)
        rw [if_neg fun z => q (e.trans z)]
    · rw [aget_neg e, ← ih]
      apply aget_neg
      split
      · exact e
      · exact e
theorem aget_aput (l : List (Str × α)) (n m : Str) (x : α) : aget (aput l n x) m = if m = n then some x else aget l m := by
  by_cases h : n ∈ keys l
  · rw [aput_old h, aget_repl]
    by_cases e : m = n
    · subst e
      obtain ⟨y, hy⟩ := Option.isSome_iff_exists.mp (aget_isSome.mpr h)
      rw [hy]
      simp
    · simp only [e, if_false]
      cases aget l m <;> rfl
  · rw [aput_new h, aget_append]
    by_cases e : m = n
    · subst e
      rw [aget_none.mpr h, aget_pos rfl]
      simp
    · rw [aget_neg (fun q => e q.symm), aget_nil]
      simp [e]
theorem aget_adrop (l : List (Str × α)) (n m : Str) : aget (adrop l n) m = if m = n then none else aget l m := by
  induction l with
  | nil => simp [adrop, aget]
  | cons p r ih =>
    unfold adrop at ih ⊢
    by_cases q : p.1 = n
    · rw [List.filter_cons, if_neg (by simp [q]), ih]
      by_cases e : m = n
      · simp [e]
      · rw [if_neg e, if_neg e, aget_neg (fun z => e (z.symm.trans q))]
    · rw [List.filter_cons, if_pos (by simp [q])]
      by_cases z : p.1 = m
      · rw [aget_pos z, aget_pos z, if_neg fun e => q (z.trans e)]
      · rw [aget_neg z, ih, aget_neg z]
theorem keys_adrop (l : List (Str × α)) (n : Str) : keys (adrop l n) = (keys l).filter fun m => decide (m ≠ n) := by
  unfold keys adrop
  rw [List.filter_map]
  rfl
theorem nodup_adrop {l : List (Str × α)} {n : Str} (nd : (keys l).Nodup) : (keys (adrop l n)).Nodup := by
  rw [keys_adrop]
  exact nd.sublist List.filter_sublist
theorem mem_keys_adrop {l : List (Str × α)} {n m : Str} : m ∈ keys (adrop l n) ↔ m ∈ keys l ∧ m ≠ n := by
  rw [keys_adrop, List.mem_filter]
  simp
theorem length_aput_le (l : List (Str × α)) (n : Str) (x : α) : (aput l n x).length ≤ l.length + 1 := by
  unfold aput
  split
  · simp
  · simp
theorem length_adrop_le (l : List (Str × α)) (n : Str) : (adrop l n).length ≤ l.length := List.length_filter_le _ _
theorem length_aput_old {l : List (Str × α)} {n : Str} {x : α} (h : n ∈ keys l) : (aput l n x).length = l.length := by rw [aput_old h]; simp
theorem length_adrop_mem {l : List (Str × α)} {n : Str} (nd : (keys l).Nodup) (h : n ∈ keys l) : (adrop l n).length + 1 = l.length := by
  induction l with
  | nil => cases h
  | cons p r ih =>
    have nd' := List.nodup_cons.mp nd
    unfold adrop at ih ⊢
    by_cases q : p.1 = n
    · rw [List.filter_cons, if_neg (by simp [q])]
      have : r.filter (fun p => decide (p.1 ≠ n)) = r := by
        apply List.filter_eq_self.mpr
        intro y hy
        apply decide_eq_true
        intro e
        exact nd'.1 (List.mem_map.mpr ⟨y, hy, e.trans q.symm⟩)
      rw [this]; rfl
    · rw [List.filter_cons, if_pos (by simp [q])]
      have hm : n ∈ keys r := by
        rcases List.mem_cons.mp h with e | e
        · exact absurd e.symm q
        · exact e
      have := ih nd'.2 hm
      rw [List.length_cons, List.length_cons, this]
/-- == of two dicts -/
def deq (e : α → β → Bool) (a : List (Str × α)) (b : List (Str × β)) : Bool := a.length == b.length && a.all fun p => match aget b p.1 with
  | some y => e p.2 y
  | none => false
theorem nodup_subset_length {l k : List Str} (nd : l.Nodup) (h : ∀ x ∈ l, x ∈ k) : l.length ≤ k.length := by
  induction l generalizing k with
  | nil => simp
  | cons x r ih =>
    have nd' := List.nodup_cons.mp nd
    have hx := h x List.mem_cons_self
    have hr : ∀ y ∈ r, y ∈ k.erase x := fun y hy => by
      have : y ≠ x := fun e => nd'.1 (e ▸ hy)
      exact (List.mem_erase_of_ne this).mpr (h y (List.mem_cons_of_mem _ hy))
    have := ih nd'.2 hr
    rw [List.length_erase_of_mem hx] at this
    have hk : 0 < k.length := List.length_pos_of_mem hx
    rw [List.length_cons]
    omega
theorem deq_iff {e : α → β → Bool} {a : List (Str × α)} {b : List (Str × β)} (na : (keys a).Nodup) (nb : (keys b).Nodup) :
    deq e a b = true ↔ ∀ n, match aget a n, aget b n with
      | some x, some y => e x y = true
      | none, none => True
      | _, _ => False := by
  unfold deq
  rw [Bool.and_eq_true, List.all_eq_true, beq_iff_eq]
  have la : (keys a).length = a.length := List.length_map _
  have lb : (keys b).length = b.length := List.length_map _
  constructor
  · rintro ⟨hl, hall⟩ n
    have sub : ∀ x ∈ keys a, x ∈ keys b := fun x hx => by
      obtain ⟨p, hp, rfl⟩ := List.mem_map.mp hx
      have := hall p hp
      cases h : aget b p.1 with
      | none => rw [h] at this; cases this
      | some y => exact aget_isSome.mp (by rw [h]; rfl)
    cases h1 : aget a n with
    | some x =>
      have hm := aget_some_mem h1
      have q := hall _ hm
      cases h2 : aget b n with
      | none => simp only [h2] at q; cases q
      | some y => simp only [h2] at q; exact q
    | none =>
      cases h2 : aget b n with
      | none => trivial
      | some y =>
        exfalso
        have nb' : n ∈ keys b := aget_isSome.mp (by rw [h2]; rfl)
        have na' : n ∉ keys a := aget_none.mp h1
        have q : (n :: keys a).length ≤ (keys b).length := nodup_subset_length (List.nodup_cons.mpr ⟨na', na⟩) fun x hx => by
          rcases List.mem_cons.mp hx with e | hx
          · rw [e]; exact nb'
          · exact sub x hx
        rw [List.length_cons, la, lb] at q
        omega
  · intro h
    have sub1 : ∀ x ∈ keys a, x ∈ keys b := fun x hx => by
      have := h x
      obtain ⟨y, hy⟩ := Option.isSome_iff_exists.mp (aget_isSome.mpr hx)
      rw [hy] at this
      cases q : aget b x with
      | none => rw [q] at this; exact this.elim
      | some z => exact aget_isSome.mp (by rw [q]; rfl)
    have sub2 : ∀ x ∈ keys b, x ∈ keys a := fun x hx => by
      have := h x
      obtain ⟨y, hy⟩ := Option.isSome_iff_exists.mp (aget_isSome.mpr hx)
      rw [hy] at this
      cases q : aget a x with
      | none => rw [q] at this; exact this.elim
      | some z => exact aget_isSome.mp (by rw [q]; rfl)
    refine ⟨?_, fun p hp => ?_⟩
    · have q1 := nodup_subset_length na sub1
      have q2 := nodup_subset_length nb sub2
      omega
    · have hg := aget_of_mem (n := p.1) (x := p.2) na hp
      have := h p.1
      rw [hg] at this
      cases q : aget b p.1 with
      | none => rw [q] at this; exact this.elim
      | some z => rw [q] at this; exact this
end
end KB
/-! part KM2 -/
/-! The model of a bank: what stands in it, what it tells, what its deeds do. -/
namespace KB
open PySem PyProof.Rows

def letters : Str := "abcdefghijklmnopqrstuvwxyz"
def signs : Str := " !\"#$&'()*+,-./0123456789:;<=>?@ABCDEFGHIJKLMNOPQRSTUVWXYZ[\\]^_`abcdefghijklmnopqrstuvwxyz{|}~"
def NameOk (z : Str) : Prop := 1 ≤ z.length ∧ z.length ≤ 8 ∧ ∀ c ∈ z.cps.toList, c ∈ letters.cps.toList
def TextOk (z : Str) : Prop := 1 ≤ z.length ∧ z.length ≤ 30 ∧ (∀ c ∈ z.cps.toList, c ∈ signs.cps.toList) ∧ Txt.stripChars z " " = z
instance (z : Str) : Decidable (NameOk z) := inferInstanceAs (Decidable (_ ∧ _ ∧ _))
instance (z : Str) : Decidable (TextOk z) := inferInstanceAs (Decidable (_ ∧ _ ∧ _ ∧ _))
def AnsOk (a : List Str) : Prop := 2 ≤ a.length ∧ a.length ≤ 6 ∧ a.Nodup ∧ ∀ z ∈ a, TextOk z
structure Qn where
  name : Str
  matter : Str
  ans : List Str
  right : Int
  toil : Int
  marks : Int
  kin : Str
  deriving DecidableEq
structure QOk (d : Qn) : Prop where
  name : NameOk d.name
  matter : NameOk d.matter
  ans : AnsOk d.ans
  right0 : 0 ≤ d.right
  right1 : d.right ≤ (d.ans.length : Int) - 1
  toil0 : 1 ≤ d.toil
  toil1 : d.toil ≤ 9
  marks0 : 1 ≤ d.marks
  marks1 : d.marks ≤ 9
  kin : d.kin = "" ∨ NameOk d.kin
structure Bk where
  kept : List (Str × Addr × Qn)
  out : List (Str × Str)
  days : List (Str × Addr × List Int)
namespace Bk
def q (m : Bk) (n : Str) : Option Qn := (aget m.kept n).map (·.2)
def r (m : Bk) (n : Str) : Option Str := aget m.out n
def d (m : Bk) (n : Str) : Option (List Int) := (aget m.days n).map (·.2)
def names (m : Bk) : List Str := srt (keys m.kept)
def namesIn (m : Bk) : List Str := m.names.filter fun n => (m.r n).isNone
def outsL (m : Bk) : List (Str × Str) := (srt (keys m.out)).map fun n => (n, (m.r n).getD Str.empty)
end Bk
def lastDay (ds : List Int) (day : Int) : Option Int := match ds.filter fun x => decide (x ≤ day) with
  | [] => none
  | n :: r => some (r.foldl max n)
def restsB (ds : List Int) (day rest : Int) : Bool := match lastDay ds day with
  | none => false
  | some l => decide (day - l < rest)
/-- whether a question is as asked -/
def asked (matter : Str) (least most : Int) (kin : Str) (q : Qn) : Bool := (decide (matter = "") || decide (matter = q.matter)) && (decide (kin = "") || decide (kin = q.kin)) && decide (least ≤ q.toil) && decide (q.toil ≤ most)
def Bk.foundL (m : Bk) (matter : Str) (least most : Int) (kin : Str) (day : Option Int) (rest : Int) : List Str := m.namesIn.filter fun n => (match m.q n with
  | none => false
  | some q => asked matter least most kin q) && (match day with
  | none => true
  | some dy => !restsB ((m.d n).getD []) dy rest)
def Bk.mattersL (m : Bk) : List Str := m.namesIn.map fun n => match m.q n with
  | none => Str.empty
  | some q => q.matter
/-- how many of each, by rising ones -/
def uniq : List Str → List Str
  | [] => []
  | x :: r => x :: (uniq r).filter fun y => decide (y ≠ x)
def countsOf (l : List Str) : List (Str × Int) := (srt (uniq l)).map fun x => (x, (l.count x : Int))

structure Bk.Ok (m : Bk) : Prop where
  kk : (keys m.kept).Nodup
  kout : (keys m.out).Nodup
  kd : (keys m.days).Nodup
  same : ∀ n, n ∈ keys m.days ↔ n ∈ keys m.kept
  sub : ∀ n, n ∈ keys m.out → n ∈ keys m.kept
  nm : ∀ n q, m.q n = some q → q.name = n ∧ QOk q
  ds : ∀ n l, m.d n = some l → l.Pairwise (· < ·) ∧ ∀ x ∈ l, 0 ≤ x ∧ x < 14
  txt : ∀ n t, m.r n = some t → TextOk t
  len : m.kept.length ≤ 8
/-- the same stands in both -/
def Same (m m' : Bk) : Prop := (∀ n, m.q n = m'.q n) ∧ (∀ n, m.r n = m'.r n) ∧ ∀ n, m.d n = m'.d n
theorem Same.symm {m m' : Bk} (h : Same m m') : Same m' m := ⟨fun n => (h.1 n).symm, fun n => (h.2.1 n).symm, fun n => (h.2.2 n).symm⟩
theorem Same.trans {m m' m2 : Bk} (h : Same m m') (g : Same m' m2) : Same m m2 := ⟨fun n => (h.1 n).trans (g.1 n), fun n => (h.2.1 n).trans (g.2.1 n), fun n => (h.2.2 n).trans (g.2.2 n)⟩
def Bk.beq (m m' : Bk) : Bool := deq (fun x y => decide (x.2 = y.2)) m.kept m'.kept && (deq (fun x y => decide (x = y)) m.out m'.out && deq (fun x y => decide (x.2 = y.2)) m.days m'.days)
theorem deq_map {α β γ : Type} [DecidableEq γ] {a : List (Str × α)} {b : List (Str × β)} (f : α → γ) (g : β → γ) (na : (keys a).Nodup) (nb : (keys b).Nodup) :
    deq (fun x y => decide (f x = g y)) a b = true ↔ ∀ n, (aget a n).map f = (aget b n).map g := by
  rw [deq_iff na nb]
  constructor
  · intro h n
    have := h n
    cases h1 : aget a n <;> cases h2 : aget b n <;> rw [h1, h2] at this
    · rfl
    · exact this.elim
    · exact this.elim
    · have e : f _ = g _ := of_decide_eq_true this
      rw [Option.map_some, Option.map_some, e]
  · intro h n
    have := h n
    cases h1 : aget a n <;> cases h2 : aget b n <;> rw [h1, h2] at this
    · trivial
    · cases this
    · cases this
    · exact decide_eq_true (Option.some.inj this)
theorem beq_iff {m m' : Bk} (h : m.Ok) (h' : m'.Ok) : m.beq m' = true ↔ Same m m' := by
  unfold Bk.beq Same Bk.q Bk.r Bk.d
  rw [Bool.and_eq_true, Bool.and_eq_true, deq_map (·.2) (·.2) h.kk h'.kk, deq_map (·.2) (·.2) h.kd h'.kd]
  have e := deq_map (a := m.out) (b := m'.out) id id h.kout h'.kout
  simp only [id, Option.map_id] at e
  rw [e]
theorem names_SS {m : Bk} (h : m.Ok) : SS m.names := srt_SS h.kk
theorem namesIn_SS {m : Bk} (h : m.Ok) : SS m.namesIn := SS_filter _ (names_SS h)
theorem mem_names {m : Bk} {n : Str} : n ∈ m.names ↔ n ∈ keys m.kept := mem_srt
theorem q_isSome {m : Bk} {n : Str} : (m.q n).isSome = true ↔ n ∈ keys m.kept := by
  unfold Bk.q
  rw [Option.isSome_map]
  exact aget_isSome
theorem d_isSome {m : Bk} {n : Str} : (m.d n).isSome = true ↔ n ∈ keys m.days := by
  unfold Bk.d
  rw [Option.isSome_map]
  exact aget_isSome
theorem r_isSome {m : Bk} {n : Str} : (m.r n).isSome = true ↔ n ∈ keys m.out := aget_isSome
theorem mem_namesIn {m : Bk} {n : Str} : n ∈ m.namesIn ↔ n ∈ keys m.kept ∧ m.r n = none := by
  unfold Bk.namesIn
  rw [List.mem_filter, mem_names, Option.isNone_iff_eq_none]
theorem names_len {m : Bk} : m.names.length = m.kept.length := by
  unfold Bk.names keys
  rw [(srt_perm _).length_eq, List.length_map]
end KB
/-! part KR1 -/
/-! == with both answers: over data, instances with an own __eq__, dicts that are locked, tuples of such. -/
namespace KB
open PySem PySem.Spec PyProof.Rows L2

/-- how two values compare -/
abbrev Cmp := V → V → Bool → Hp → Prop
def CMon (D : Cmp) : Prop := ∀ x y b H H', Ext H H' → D x y b H → D x y b H'
def Grown (X : Cx) (pins : List (Addr × Obj)) (σ : L2.St) (H : Hp) (s' : Shared) : Prop := ∃ H', Inv X pins σ H' s' ∧ Ext H H'
def EqB (X : Cx) (n : Nat) (D : Cmp) : Prop :=
  ∀ (A : Around) (pins : List (Addr × Obj)) (s : Shared) (σ : L2.St) (H : Hp) (x y : V) (u v : Value) (b : Bool), L2.Sub X n A → Inv X pins σ H s → RelV x u → RelV y v → D x y b H →
    wpAny (model X.prog X.w) A (eqBool u v) (fun r s' => r = b ∧ Grown X pins σ H s') X.xe s
def RcB (X : Cx) (n : Nat) (D : Cmp) : Prop :=
  ∀ (A : Around) (pins : List (Addr × Obj)) (s : Shared) (σ : L2.St) (H : Hp) (x y : V) (u v : Value) (b : Bool), L2.Sub X n A → Inv X pins σ H s → RelV x u → RelV y v → D x y b H →
    wpAny (model X.prog X.w) A (richCompare .Eq u v) (fun r s' => r = .bool b ∧ Grown X pins σ H s') X.xe s

section
variable {X : Cx} {n m : Nat} {D D' : Cmp}
theorem EqB.mono (h : EqB X n D) (hn : n ≤ m) : EqB X m D := fun A pins s σ H x y u v b sb => h A pins s σ H x y u v b (sb.mono hn)
theorem EqB.or (h : EqB X n D) (h' : EqB X n D') : EqB X n (fun x y b H => D x y b H ∨ D' x y b H) := fun A pins s σ H x y u v b sb I rx ry d =>
  d.elim (fun d => h A pins s σ H x y u v b sb I rx ry d) fun d => h' A pins s σ H x y u v b sb I rx ry d
theorem CMon.or (h : CMon D) (h' : CMon D') : CMon (fun x y b H => D x y b H ∨ D' x y b H) := fun x y b H H' e d => d.elim (fun d => .inl (h x y b H H' e d)) fun d => .inr (h' x y b H H' e d)

/-! ### data -/
def DData (K : PySem.W.Frag) : Cmp := fun x y b H => ∃ d e, Dp K H x d ∧ Dp K H y e ∧ SeqAt.shaped d = true ∧ SeqAt.shaped e = true ∧ b = PyData.eqv d e
theorem eqB_data : EqB X n (DData X.K) := by
  intro A pins s σ H x y u v b sb I rx ry h
  obtain ⟨d, e, hd, he, sd, se, rfl⟩ := h
  obtain ⟨as, r1⟩ := Dp.reads I d x u hd rx
  obtain ⟨bs, r2⟩ := Dp.reads I e y v he ry
  exact SeqAt.eqAt_reads d e A s u v as bs r1 r2 (SeqAt.canLay_of_shaped sd) (SeqAt.canLay_of_shaped se) (SeqAt.room_of_shaped sd sb.room.units) X.prog X.w X.xe _ ⟨rfl, H, I, Ext.rfl'⟩

/-! ### instances with an own == -/
def spEqB (R : Addr → Addr → Bool → Hp → Prop) : Sp := fun vs H Q _ => ∃ a c b, vs = [.ref a, .ref c] ∧ R a c b H ∧ ∀ H', Ext H H' → Q (.bl b) H'
def DInsB (C : Addr) (R : Addr → Addr → Bool → Hp → Prop) : Cmp := fun x y b H => ∃ a c dx dy fs gs, x = .ref a ∧ y = .ref c ∧ H a = some (.ins C dx fs) ∧ H c = some (.ins C dy gs) ∧ R a c b H
theorem mon_insB {C : Addr} {R : Addr → Addr → Bool → Hp → Prop} (hR : ∀ a c b H H', Ext H H' → R a c b H → R a c b H') : CMon (DInsB C R) := fun x y b H H' e d => by
  obtain ⟨a, c, dx, dy, fs, gs, hx, hy, h1, h2, r⟩ := d
  exact ⟨a, c, dx, dy, fs, gs, hx, hy, e _ _ h1, e _ _ h2, hR a c b H H' e r⟩
/-- the own == is called -/
theorem call_eqB {CX : CXT} {f a c : Addr} {b : Bool} {fd : FuncData} {ps : List Str} {R : Addr → Addr → Bool → Hp → Prop} {E : XK} (F : FnOk X.prog X.w X.K X.mg X.base CX n f fd ps (spEqB R))
    (hb : Binds X.K fd ps []) (hx : Passes CX X E) {A : Around} {pins : List (Addr × Obj)} {s : Shared} {σ : L2.St} {H : Hp} (sb : L2.Sub X n A) (I : Inv X pins σ H s) (hr : R a c b H) :
    wpAny (model X.prog X.w) A (call (.ref f) [.ref a, .ref c]) (fun r s' => r = .bool b ∧ Grown X pins σ H s') X.xe s := by
  have hsp : spEqB R [.ref a, .ref c] H (fun v H' => v = .bl b ∧ Ext H H') E := ⟨a, c, b, rfl, hr, fun H' e => ⟨rfl, e⟩⟩
  have i0 := I.env0
  have e0 : Env0 X.prog X.w X.K X.mg X.base A X.stack s H := ⟨sb.fr.trans i0.frames, i0.mod, i0.bs, i0.bsz, i0.funs, i0.frf, i0.hok, i0.bare⟩
  have hl : ([Value.ref a, Value.ref c] ++ []).length = ps.length := F.len _ _ _ _ hsp
  have bd := hb s [.ref a, .ref c] I.kIn hl
  rw [List.append_nil] at bd
  refine wpAny_call (codeAny_mono (F.run A X.stack s H ⟨[.ref a, .ref c], []⟩ [.ref a, .ref c] [.ref a, .ref c] _ E sb.room e0 bd (.cons rfl (.cons rfl .nil)) hsp) fun r s' q => ?_)
  match r, q with
  | .error e, q => exact hx pins σ H s e s' I q
  | .ok (.ret w), q =>
    obtain ⟨z, H', I', rz, ez, ex⟩ := I.after q
    subst ez
    cases rz
    exact ⟨rfl, H', I', ex⟩
theorem rcB_ins {CX : CXT} {C f : Addr} {fd : FuncData} {ps : List Str} {R : Addr → Addr → Bool → Hp → Prop} {E : XK} (F : FnOk X.prog X.w X.K X.mg X.base CX n f fd ps (spEqB R))
    (hs : PySem.W.findIn X.K (.ref C) "__eq__" = some (some (.ref f))) (hf : PySem.W.isFn X.K (.ref f) = true) (hb : Binds X.K fd ps []) (hx : Passes CX X E) : RcB X n (DInsB C R) := by
  intro A pins s σ H x y u v b sb I rx ry d
  obtain ⟨a, c, dx, dy, fs, gs, rfl, rfl, ha, hc, hr⟩ := d
  cases rx
  cases ry
  obtain ⟨_, J, _⟩ := ins_get I.hok ha
  obtain ⟨_, J', _⟩ := ins_get I.hok hc
  obtain ⟨od, J, _⟩ := J.look
  obtain ⟨od', J', _⟩ := J'.look
  obtain ⟨m, hF⟩ := I.fr
  refine PySem.W.cmp_K (op := .Eq) (tb := .ref C) sb.room.units0 hF I.ok.mod.kin J J'.type (by simp [PySem.W.notFirst]) hs hf ?_
  refine wpAny_mono (call_eqB F hb hx sb I hr) (fun r s' q => ?_) fun _ _ x => x
  obtain ⟨rfl, q⟩ := q
  exact ⟨rfl, q⟩
theorem RcB.eqB (h : RcB X n D) (hr : ∀ x y b H, D x y b H → ∃ a c, x = .ref a ∧ y = .ref c ∧ (a = c → b = true)) : EqB X n D := by
  intro A pins s σ H x y u v b sb I rx ry d
  obtain ⟨a, c, rfl, rfl, same⟩ := hr _ _ _ _ d
  cases rx
  cases ry
  by_cases hac : a = c
  · subst hac
    have e := same rfl
    subst e
    exact SeqAt.EqAt.same (A := A) (s := s) (.ref a) X.prog X.w X.xe _ ⟨rfl, H, I, Ext.rfl'⟩
  · refine GQ.eqBool_refG hac (wpAny_mono (h A pins s σ H (.ref a) (.ref c) _ _ b sb I rfl rfl d) (fun r s' q => ?_) fun _ _ x => x)
    obtain ⟨e, q⟩ := q
    exact ⟨b, e, rfl, q⟩

/-! ### locked dicts -/
/-- what the pairs of one dict give against the other -/
def hits (ms : List (Key × V)) (e : Key → Bool) (kvs : List (Key × V)) : Bool := kvs.all fun p => (valV ms p.1).isSome && e p.1
def DDictB (D : Cmp) : Cmp := fun x y b H => ∃ a c oa oc kvs ms, x = .ref a ∧ y = .ref c ∧ a ≠ c ∧ H a = some (.frz oa (.dK kvs)) ∧ H c = some (.frz oc (.dK ms)) ∧
  ∃ e : Key → Bool, (∀ k v w, (k, v) ∈ kvs → valV ms k = some w → D v w (e k) H) ∧ b = (kvs.length == ms.length && hits ms e kvs)
theorem mon_dictB (hD : CMon D) : CMon (DDictB D) := fun x y b H H' ex d => by
  obtain ⟨a, c, oa, oc, kvs, ms, hx, hy, hac, h1, h2, e, he, hb⟩ := d
  exact ⟨a, c, oa, oc, kvs, ms, hx, hy, hac, ex _ _ h1, ex _ _ h2, e, fun k v w hm hv => hD _ _ _ _ _ ex (he k v w hm hv), hb⟩
theorem frz_dict {pins : List (Addr × Obj)} {s : Shared} {σ : L2.St} {H : Hp} {a : Addr} {oa : Obj} {kvs : List (Key × V)} (I : Inv X pins σ H s) (h : H a = some (.frz oa (.dK kvs))) :
    s.heap.get? a = some oa ∧ (a == sysModules) = false ∧ ∃ vs, KV kvs vs ∧ s.heap.DictOf (mixKind X.prog X.w) a vs := by
  obtain ⟨e, _, lo, vs, r, d⟩ := I.hok a _ h
  exact ⟨e, lo, vs, r, d⟩
theorem samePairsB (hD : CMon D) (h : EqB X n D) {nm : String} {A : Around} (sb : L2.Sub X n A) {pins : List (Addr × Obj)} {σ : L2.St} {H : Hp} {a c : Addr} {oa oc : Obj} {kvs ms : List (Key × V)} {e : Key → Bool}
    (ha : H a = some (.frz oa (.dK kvs))) (hc : H c = some (.frz oc (.dK ms))) (he : ∀ k v w, (k, v) ∈ kvs → valV ms k = some w → D v w (e k) H) {s : Shared} (I : Inv X pins σ H s) :
    wpAny (model X.prog X.w) A (Builtin.Dict.samePairs nm a c) (fun r s' => r = (kvs.length == ms.length && hits ms e kvs) ∧ Grown X pins σ H s') X.xe s := by
  obtain ⟨hga, la, va, ra, da⟩ := frz_dict I ha
  obtain ⟨hgc, lc, vc, rc, dc⟩ := frz_dict I hc
  obtain ⟨o1, es, ep, ho1, x1, hd1, k1, p1, _⟩ := id da
  obtain ⟨o2, es', ep', ho2, x2, hd2, k2, p2, _⟩ := id dc
  rw [hga] at ho1
  cases ho1
  rw [hgc] at ho2
  cases ho2
  have sz1 : kvs.length = es.size := by rw [ra.length, ← p1.length]; exact Array.length_toList
  have sz2 : ms.length = es'.size := by rw [rc.length, ← p2.length]; exact Array.length_toList
  have look : ∀ k, findBy keyIs es' k = valueAt vc k := fun k => by
    rw [← p2.find k]
    cases es'
    simp [findBy, mixKind]
  -- both objects stand in every later state
  have at1 : ∀ {s' : Shared}, Grown X pins σ H s' → s'.heap.get? a = some oa := fun {s'} ⟨H', I', ex⟩ => (frz_dict I' (ex _ _ ha)).1
  have at2 : ∀ {s' : Shared}, Grown X pins σ H s' → s'.heap.get? c = some oc := fun {s'} ⟨H', I', ex⟩ => (frz_dict I' (ex _ _ hc)).1
  rw [sz1, sz2]
  unfold Builtin.Dict.samePairs Builtin.Dict.showsAll
  rw [if_neg (by rw [la]; exact Bool.false_ne_true), if_neg (by rw [lc]; exact Bool.false_ne_true)]
  refine wpAny_bind (wpAny_pure (wpAny_bind (wpAny_pure (wpAny_bind (wpAny_dictEntries hga hd1 ?_)))))
  dsimp only
  refine wpAny_bind (wpAny_dictEntries hgc hd2 ?_)
  by_cases same : es.size = es'.size
  · rw [if_neg (by rw [same]; simp)]
    have eb : (es.size == es'.size && hits ms e kvs) = hits ms e kvs := by rw [same]; simp
    rw [eb]
    refine wpAny_bind (wpAny_dictEpoch hga hd1 (wpAny_bind ?_))
    rw [Std.Legacy.Range.forIn_eq_forIn_range']
    simp only [Std.Legacy.Range.size, Nat.sub_zero, Nat.add_sub_cancel, Nat.div_one]
    refine wpAny_forIn_list _
      (fun todo q s' => Grown X pins σ H s' ∧ q = (none, ()) ∧ ∃ i, todo = List.range' i (es.size - i) ∧ i ≤ es.size ∧ hits ms e kvs = hits ms e (kvs.drop i))
      _ ?_ ?_ _ _ ⟨⟨H, I, Ext.rfl'⟩, rfl, 0, by simp, Nat.zero_le _, rfl⟩
    · rintro j todo q s' ⟨G, rfl, i, htodo, hi, hpre⟩
      have hlt : i < es.size := by
        rcases Nat.lt_or_ge i es.size with z | z
        · exact z
        · rw [Nat.sub_eq_zero_of_le z] at htodo
          cases htodo
      have hstep : es.size - i = (es.size - (i + 1)) + 1 := by omega
      rw [hstep, List.range'_succ] at htodo
      obtain ⟨rfl, rfl⟩ := List.cons.inj htodo
      refine wpAny_bind (wpAny_dictEntries (at1 G) hd1 ?_)
      rw [Array.getElem?_eq_getElem hlt]
      have hk : j < kvs.length := by omega
      have hv : j < va.length := by rw [← ra.length]; exact hk
      obtain ⟨hkey, hval⟩ := p1.get? (i := j) (e := es[j]) (k := va[j].1) (v := va[j].2) (by rw [Array.getElem?_toList]; exact Array.getElem?_eq_getElem hlt) (List.getElem?_eq_getElem hv)
      obtain ⟨k', hk', hh⟩ := k1 es[j] (Array.getElem_mem hlt)
      have ekk : k' = va[j].1 := (mixKind X.prog X.w).inj _ _ _ hk' hkey
      rw [ekk] at hh
      have rel : kvs[j].1 = va[j].1 ∧ RelV kvs[j].2 va[j].2 := by
        have z : ∀ {l1 : List (Key × V)} {l2 : List (Key × Value)} (j : Nat) (h1 : j < l1.length) (h2 : j < l2.length), KV l1 l2 → l1[j].1 = l2[j].1 ∧ RelV l1[j].2 l2[j].2 := by
          intro l1
          induction l1 with
          | nil => intro l2 j h1; exact absurd h1 (Nat.not_lt_zero _)
          | cons p1 t1 ih =>
            intro l2 j h1 h2 r
            cases r with
            | cons r1 r2 =>
              cases j with
              | zero => exact r1
              | succ j => exact ih j (Nat.lt_of_succ_lt_succ h1) (Nat.lt_of_succ_lt_succ h2) r2
        exact z j hk hv ra
      have hdrop : kvs.drop j = kvs[j] :: kvs.drop (j + 1) := List.drop_eq_getElem_cons hk
      have hone : hits ms e (kvs.drop j) = ((valV ms kvs[j].1).isSome && e kvs[j].1 && hits ms e (kvs.drop (j + 1))) := by rw [hdrop]; rfl
      show wpAny _ _ (holding [es[j].key, es[j].val] _ >>= _) _ _ _
      rw [hh]
      refine wpAny_bind (wpAny_holding (wpAny_bind (wpAny_dictFind_of hkey (at2 G) hd2 k2 ?_)))
      have hr2 := rc.val va[j].1
      rw [← look, findBy_of_findIdx?] at hr2
      cases hj : es'.findIdx? fun x => (mixKind X.prog X.w).is va[j].1 x.key with
      | none =>
        have hj' : (es'.findIdx? fun x => keyIs va[j].1 x.key) = none := hj
        rw [hj'] at hr2
        have none' : valV ms va[j].1 = none := by
          cases q : valV ms va[j].1 with
          | none => rfl
          | some w => rw [q] at hr2; exact hr2.elim
        refine wpAny_pure ?_
        show wpAny _ _ (if (!false) = true then _ else _) _ _ _
        rw [if_pos (by decide)]
        refine wpAny_pure (wpAny_pure ⟨?_, G⟩)
        rw [hpre, hone, rel.1, none']
        rfl
      | some z =>
        obtain ⟨zlt, _, _⟩ := Array.findIdx?_eq_some_iff_getElem.mp hj
        have hj' : (es'.findIdx? fun x => keyIs va[j].1 x.key) = some z := hj
        rw [hj'] at hr2
        have hr3 : RelO (valV ms va[j].1) (some es'[z].val) := by
          have : (Option.map (fun x => x.val) (es'[z]?)) = some es'[z].val := by rw [Array.getElem?_eq_getElem zlt]; rfl
          simpa [this] using hr2
        refine wpAny_bind (wpAny_dictEntries (at2 G) hd2 ?_)
        rw [Array.getElem?_eq_getElem zlt]
        cases q : valV ms va[j].1 with
        | none => rw [q] at hr3; exact hr3.elim
        | some w =>
          rw [q] at hr3
          have rw' : RelV w es'[z].val := hr3
          obtain ⟨H', I', ex⟩ := G
          have rv : RelV kvs[j].2 es[j].val := by rw [hval]; exact rel.2
          have hd : D kvs[j].2 w (e kvs[j].1) H' := hD _ _ _ _ _ ex (he kvs[j].1 kvs[j].2 w (List.getElem_mem hk) (by rw [rel.1]; exact q))
          refine wpAny_holding (wpAny_mono (h A pins s' σ H' _ _ es[j].val es'[z].val (e kvs[j].1) sb I' rv rw' hd) (fun r s2 hr => ?_) fun _ _ x => x)
          obtain ⟨rfl, H2, I2, ex2⟩ := hr
          have G2 : Grown X pins σ H s2 := ⟨H2, I2, ex.trans ex2⟩
          cases hb : e kvs[j].1 with
          | false =>
            show wpAny _ _ (if (!false) = true then _ else _) _ _ _
            rw [if_pos (by decide)]
            refine wpAny_pure (wpAny_pure ⟨?_, G2⟩)
            rw [hpre, hone, hb, Bool.and_false, Bool.false_and]
          | true =>
            show wpAny _ _ (if (!true) = true then _ else _) _ _ _
            rw [if_neg (by decide)]
            refine wpAny_bind (wpAny_dictEpoch (at1 G2) hd1 ?_)
            rw [if_neg (by simp)]
            refine wpAny_pure ⟨G2, rfl, j + 1, rfl, hlt, ?_⟩
            rw [hpre, hone, hb, rel.1, q]
            rfl
    · rintro q s' ⟨G, rfl, i, htodo, hi, hpre⟩
      have hin : i = es.size := by
        rcases Nat.lt_or_ge i es.size with z | z
        · have hstep : es.size - i = (es.size - (i + 1)) + 1 := by omega
          rw [hstep, List.range'_succ] at htodo
          cases htodo
        · omega
      refine wpAny_pure ⟨?_, G⟩
      rw [hpre, hin, ← sz1, List.drop_length]
      rfl
  · rw [if_pos (by simpa using same)]
    refine wpAny_bind (wpAny_rule (wpAny_pure ⟨?_, H, I, Ext.rfl'⟩))
    have eb : (es.size == es'.size) = false := by simpa using same
    rw [eb, Bool.false_and]
theorem rcB_dict (hD : CMon D) (h : EqB X n D) : RcB X (n + 1) (DDictB D) := by
  intro A pins s σ H x y u v b sb I rx ry d
  obtain ⟨a, c, oa, oc, kvs, ms, rfl, rfl, hac, ha, hc, e, he, hb⟩ := d
  cases rx
  cases ry
  obtain ⟨hga, la, va, ra, da⟩ := frz_dict I ha
  obtain ⟨hgc, lc, vc, rc, dc⟩ := frz_dict I hc
  refine wpAny_richCompare_same_room (op := .Eq) da.typeIs dc.typeIs PySem.F.slot_dict_eq (wpAny_call_entry PySem.F.slot_dict_eq da.typeIs PySem.F.entry_dict_eq ?_ (PySem.F.args_dict_eq_2 _ _)) sb.room.units0
  show wpAny _ _ (Builtin.Dict.dictSlotArgs "__eq__" ⟨[.ref a, .ref c], []⟩ >>= _) _ _ s
  refine wpAny_bind ?_
  unfold Builtin.Dict.dictSlotArgs
  refine wpAny_bind (wpAny_notOrdered_dict da.typeIs ?_)
  show wpAny _ _ (pure (Value.ref a, Value.ref c)) _ _ s
  refine wpAny_pure (wpAny_bind (wpAny_isInstance (T := "dict") dc.typeIs PySem.F.sub_dict_dict ?_))
  simp only [Bool.not_true, Bool.false_eq_true, if_false]
  refine wpAny_bind (wpAny_pure (wpAny_bind (wpAny_pure (wpAny_bind (wpAny_mono (samePairsB hD h sb.in1 ha hc he I) (fun r s' q => ?_) fun _ _ x => x)))))
  obtain ⟨er, q⟩ := q
  refine wpAny_pure ⟨_, rfl, ?_, ?_⟩
  · exact fun x => nomatch x
  · exact ⟨by rw [er, hb]; cases (kvs.length == ms.length && hits ms e kvs) <;> rfl, q⟩
theorem eqB_dict (hD : CMon D) (h : EqB X n D) : EqB X (n + 1) (DDictB D) := (rcB_dict hD h).eqB fun _ _ _ _ d => let ⟨a, c, _, _, _, _, hx, hy, hac, _⟩ := d; ⟨a, c, hx, hy, fun e => absurd e hac⟩

/-! ### tuples of one length -/
def DTupB (K : PySem.W.Frag) (D : Cmp) : Cmp := fun x y b H => ∃ a c xs ys, x = .ref a ∧ y = .ref c ∧ a ≠ c ∧ SqT K H a xs ∧ SqT K H c ys ∧ xs.length = ys.length ∧
  ∃ e : Nat → Bool, (∀ (i : Nat) p q, xs[i]? = some p → ys[i]? = some q → D p q (e i) H) ∧ b = (List.range xs.length).all e
theorem mon_tupB {K : PySem.W.Frag} (hD : CMon D) : CMon (DTupB K D) := fun x y b H H' ex d => by
  obtain ⟨a, c, xs, ys, hx, hy, hac, h1, h2, hl, e, he, hb⟩ := d
  exact ⟨a, c, xs, ys, hx, hy, hac, h1.ext ex, h2.ext ex, hl, e, fun i p q hp hq => hD _ _ _ _ _ ex (he i p q hp hq), hb⟩
theorem tuple_eqB {A : Around} {R : Result → Shared → Prop} {E : Value → Shared → Prop} (l c : Addr) (items items2 : Array Value) (n n2 : Nat) (dd dd2 : Option Addr) (sl sl2 : Array (Option Value)) (hsz : items.size = items2.size)
    (e : Nat → Bool) (I : Shared → Prop) (hE : ∀ x s', E x s' → R (.error x) s')
    (turn : ∀ i (h1 : i < items.size) (h2 : i < items2.size) s, I s → wpAny (model X.prog X.w) A.in1 (eqBool items[i] items2[i]) (fun r s' => r = e i ∧ I s') E s)
    (fin : ∀ s, I s → R (.ok (.ret (.bool ((List.range items.size).all e)))) s) {s : Shared} (hl1 : s.heap.get? l = some { cls := .type "tuple", dict := dd, data := .seq items n, slots := sl })
    (hb1 : s.heap.get? c = some { cls := .type "tuple", dict := dd2, data := .seq items2 n2, slots := sl2 }) (h : I s) :
    wpAny (model X.prog X.w) A.in1 (Builtin.«tuple.__eq__» ⟨[.ref l, .ref c], []⟩) (GQ.FinOf X.prog X.w A R) (fun x s' => R (.error x) s') s := by
  have f2 := AutoSeq1.sub_tuple_tuple
  have zl : (items.toList.zip items2.toList).length = items.size := by simp [hsz]
  have h0 := h
  obtain ⟨hp, g, d, tk, os⟩ := s
  wp_walk using AutoSeq1.wpAny_loadPart' hl1, AutoSeq1.wpAny_loadPart' hb1, wpAny_forIn_list _ (fun todo b s' => b.1 = none ∧ I s' ∧ ∃ i, todo = (items.toList.zip items2.toList).drop i ∧ i ≤ items.size ∧
    (List.range items.size).all e = ((List.range items.size).drop i).all e) _
  case turn =>
    rintro ⟨y, x⟩ todo b s' ⟨hb', hI, i, hz, hi, hr⟩
    have hlt : i < (items.toList.zip items2.toList).length := by
      rcases Nat.lt_or_ge i (items.toList.zip items2.toList).length with q | q
      · exact q
      · rw [List.drop_of_length_le q] at hz
        cases hz
    have h1 : i < items.size := zl ▸ hlt
    have h2 : i < items2.size := hsz ▸ h1
    rw [List.drop_eq_getElem_cons hlt] at hz
    obtain ⟨hyx, htodo⟩ := List.cons.inj hz
    have hy : y = items[i] := by simpa using congrArg Prod.fst hyx
    have hx : x = items2[i] := by simpa using congrArg Prod.snd hyx
    subst hy hx
    have hd : (List.range items.size).drop i = i :: (List.range items.size).drop (i + 1) := by simp [List.drop_eq_getElem_cons, h1]
    rw [hd, List.all_cons] at hr
    refine wpAny_bind (wpAny_mono (turn i h1 h2 s' hI) (fun r s2 q => ?_) hE)
    obtain ⟨rfl, q⟩ := q
    have hf := fin s2 q
    cases hv : e i with
    | true =>
      rw [hv, Bool.true_and] at hr
      wp_walk
      exact ⟨rfl, q, i + 1, htodo, h1, hr⟩
    | false =>
      rw [hv, Bool.false_and] at hr
      rw [hr] at hf
      wp_walk
      simpa using hf
  case fin =>
    rintro ⟨b1, b2⟩ s' ⟨hb', hI, i, hz, hi, hr⟩
    simp only at hb'
    subst hb'
    have hge : items.size ≤ i := by
      rcases Nat.lt_or_ge i (items.toList.zip items2.toList).length with q | q
      · rw [List.drop_eq_getElem_cons q] at hz
        cases hz
      · exact zl ▸ q
    have hf := fin s' hI
    rw [hr, List.drop_of_length_le (by simpa using hge)] at hf
    wp_walk
    simpa [Builtin.Tuple.tupleCompareSizes, hsz] using hf
  case h =>
    exact ⟨rfl, h0, 0, rfl, Nat.zero_le _, rfl⟩
theorem rcB_tup (hD : CMon D) (h : EqB X n D) : RcB X (n + 1) (DTupB X.K D) := by
  intro A pins s σ H x y u v b sb I rx ry d
  obtain ⟨a, c, xs, ys, rfl, rfl, hac, ha, hc, hl, e, he, hb⟩ := d
  cases rx
  cases ry
  obtain ⟨its, r, t1, _⟩ := I.tuple ha
  obtain ⟨its2, r2, t2, _⟩ := I.tuple hc
  obtain ⟨⟨cls, dd, data, sl⟩, ho, hcl, k, hd⟩ := id t1
  obtain ⟨⟨cls2, dd2, data2, sl2⟩, ho2, hcl2, k2, hd2⟩ := id t2
  simp only at hcl hd hcl2 hd2
  subst hcl hd hcl2 hd2
  have hsz : its.toArray.size = its2.toArray.size := by rw [List.size_toArray, List.size_toArray, ← r.length, ← r2.length]; exact hl
  refine wpAny_richCompare_same_room (op := .Eq) ⟨_, ho, rfl⟩ ⟨_, ho2, rfl⟩ F.slot_tuple_eq (GQ.call_here F.slot_tuple_eq ⟨_, ho, rfl⟩ F.entry_tuple_eq (F.args_tuple_eq_2 _ _) ?_) sb.room.units0
  refine tuple_eqB (R := wants (fun v s' => v ≠ .notImplemented ∧ v = .bool b ∧ Grown X pins σ H s') X.xe) (E := X.xe) a c its.toArray its2.toArray k k2 dd dd2 sl sl2 hsz e (fun s' => Grown X pins σ H s') (fun _ _ z => z) (fun i h1 h2 s' G => ?_) (fun s' G => ?_) ho ho2 ⟨H, I, Ext.rfl'⟩
  · obtain ⟨H1, I1, e1⟩ := G
    have k1 : i < xs.length := by rw [r.length]; simpa using h1
    have k2 : i < ys.length := by rw [r2.length]; simpa using h2
    obtain ⟨u, hu, ru⟩ := r.get (List.getElem?_eq_getElem k1)
    obtain ⟨v, hv, rv⟩ := r2.get (List.getElem?_eq_getElem k2)
    have eu : its.toArray[i] = u := by
      have z : its[i]? = some its.toArray[i] := by simp [show i < its.length by simpa using h1]
      exact Option.some.inj (z.symm.trans hu)
    have ev : its2.toArray[i] = v := by
      have z : its2[i]? = some its2.toArray[i] := by simp [show i < its2.length by simpa using h2]
      exact Option.some.inj (z.symm.trans hv)
    rw [eu, ev]
    refine wpAny_mono (h A.in1 pins s' σ H1 _ _ u v (e i) sb.in1 I1 ru rv (hD _ _ _ _ _ e1 (he i _ _ (List.getElem?_eq_getElem k1) (List.getElem?_eq_getElem k2)))) (fun r s2 q => ?_) fun _ _ z => z
    obtain ⟨er, H2, I2, e2⟩ := q
    exact ⟨er, H2, I2, e1.trans e2⟩
  · have el : its.toArray.size = xs.length := by rw [List.size_toArray, r.length]
    exact ⟨(fun z => nomatch z), by rw [hb, el], G⟩

/-! ### as operators -/
def rEqB (D : Cmp) : R2 := fun x y H Q => ∃ b, D x y b H ∧ ∀ H', Ext H H' → Q (.bl b) H'
def rNeB (D : Cmp) : R2 := fun x y H Q => ∃ b, D x y b H ∧ ∀ H', Ext H H' → Q (.bl (!b)) H'
theorem op_eqB (h : RcB X n D) (hr : Room n X.A) : OpR X (compareOp .Eq) (rEqB D) := by
  intro pins s σ H x y v u Q I rx ry q
  obtain ⟨b, d, q⟩ := q
  show wpAny (model X.prog X.w) X.A (richCompare .Eq v u) (EP X pins σ Q) X.xe s
  refine wpAny_mono (h X.A pins s σ H x y v u b ⟨hr, rfl⟩ I rx ry d) (fun r s' z => ?_) fun _ _ z => z
  obtain ⟨er, H', I', e⟩ := z
  subst er
  exact ⟨.bl b, H', I', rfl, q H' e⟩
/-- what the class at C has where == is its own and != is not -/
structure NoNe (K : PySem.W.Frag) (C f : Addr) : Prop where
  is : ∀ (h : Heap) (x : Addr) (o : Obj), K.In h → h.get? x = some o → o.cls = .ref C → h.OwnEqNoNe x C f "object" [.type "object"]
theorem op_neB {CX : CXT} {C f : Addr} {fd : FuncData} {ps : List Str} {R : Addr → Addr → Bool → Hp → Prop} {E : XK} (F : FnOk X.prog X.w X.K X.mg X.base CX n f fd ps (spEqB R))
    (hs : NoNe X.K C f) (hb : Binds X.K fd ps []) (hx : Passes CX X E) (hr : Room (n + 1) X.A) : OpR X (compareOp .NotEq) (rNeB (DInsB C R)) := by
  intro pins s σ H x y v u Q I rx ry q
  obtain ⟨b, d, q⟩ := q
  obtain ⟨a, c, dx, dy, fs, gs, rfl, rfl, ha, hc, hR⟩ := d
  cases rx
  cases ry
  have sb : L2.Sub X n X.A.in1 := L2.Sub.in1 ⟨hr, rfl⟩
  have oa := (I.hok a _ ha).2.2.2.1
  have oc := (I.hok c _ hc).2.2.2.1
  show wpAny (model X.prog X.w) X.A (richCompare .NotEq (.ref a) (.ref c)) (EP X pins σ Q) X.xe s
  have own := hs.is s.heap a _ I.kIn oa rfl
  have cl := call_eqB F hb hx sb I hR
  obtain ⟨hp, g, dr, tk, os⟩ := s
  refine richCompare_ne_ownEq PySem.F.cmp_object own oc rfl (by have := hr.un; omega) (wpAny_mono cl (fun r s' z => ?_) fun _ _ z => z)
  obtain ⟨er, H', I', e⟩ := z
  exact ⟨b, er, .bl (!b), H', I', rfl, q H' e⟩
end
end KB
/-! part KR2 -/
/-! Further rules: methods called by keywords, len by an own __len__, max with a default, dicts copied and zipped, repr of a dict, enumerate of a tuple. -/
namespace KB
open PySem PySem.Spec PyProof.Rows L2

/-! ### o.m(e, .., k = v, ..) -/
def tMethN (C : Addr) (m : Str) (n j : Nat) (sp : Sp) (gV : List V → List V → List V) (E : XK) (ta : TE) (t tk : TA) : TE := fun σ H Q => ta σ H fun x H1 => ∃ a dx fs, x = .ref a ∧ H1 a = some (.ins C dx fs) ∧ fs.lookup m = none ∧
  t σ H1 fun vs H2 => tk σ H2 fun zs H3 => vs.length = n ∧ zs.length = j ∧ sp (gV (x :: vs) zs) H3 Q E
section
variable {X : Cx} {CX : CXT} {k n : Nat} {f C : Addr} {fd : FuncData} {ps ks : List Str} {sp : Sp} {E : XK} {x m : Str} {p pos apos : Pos} {e o : Expr} {es : List Expr} {kws : List Keyword} {ta : TE} {t tk : TA}
  {g : List Value → List Value → List Value} {gV : List V → List V → List V}
theorem pe_methN {pl : Sem Bool} (ho : PE X o ta) (c : Cls X.K C) (hm : Meth X.K C m f) (F : FnOk X.prog X.w X.K X.mg X.base CX k f fd ps sp) (hr : Room k X.A) (hb : KBn X.K fd ps (n + 1) ks g gV) (hx : Passes CX X E)
    (ha : PA X (e :: es) t) (hkw : PK X kws tk) (hall : (backToKw pos (keywordEach kws X.env)).all (·.1.isSome) = true := by rfl) (hks : (backToKw pos (keywordEach kws X.env)).filterMap (·.1) = ks := by rfl)
    (hst : starEach (e :: es) X.env = (false, eval e X.env) :: starEach es X.env := by rfl)
    (hpl : ((backTo pos (starEach (e :: es) X.env)).any (·.1) || (backToKw pos (keywordEach kws X.env)).any (·.1.isNone)) = false := by rfl)
    (ht : eval (.Call (.Attribute o m apos) (e :: es) kws pos) X.env = (do
      let ov ← eval o X.env
      standAt apos.atName
      let (f, first) ← holding [ov] (getMethod ov m pl)
      callWith pos f first (backTo pos (starEach (e :: es) X.env)) (backToKw pos (keywordEach kws X.env))) := by rfl) :
    PE X (.Call (.Attribute o m apos) (e :: es) kws pos) (tMethN C m n ks.length sp gV E ta t tk) := by
  refine ⟨fun pins s σ H Q I h => ?_⟩
  refine PySem.W.methodCall_KW (pl := pl) (thn (ho.run pins s σ H _ I h) fun u s1 ⟨y, H1, I1, ry, a, dx, fs, ey, ea, l, q⟩ => ?_) ht
  subst ey
  obtain rfl : u = Value.ref a := ry
  refine getmeth_ok I1 ea c hm l ?_
  refine PySem.W.callWith_KW (h₀ := X.base) I.ok.mod.kin hm.kp hall (thn (ha.run pos pins s1 σ H1 _ I1 q) fun us s2 ⟨vs, H2, I2, r, q2⟩ => thn (hkw.run pos pins s2 σ H2 _ I2 q2) fun ws s3 ⟨zs, H3, I3, rz, l1, l2, q3⟩ => ⟨I3.kIn, ?_⟩) hpl hst
  rw [hks]
  exact run_fnN (n := n + 1) (us := .ref a :: us) (vs := .ref a :: vs) F hr hb hx I3 (.cons rfl r) rz (congrArg Nat.succ l1) l2 q3
theorem pe_methN0 {pl : Sem Bool} (ho : PE X o ta) (c : Cls X.K C) (hm : Meth X.K C m f) (F : FnOk X.prog X.w X.K X.mg X.base CX k f fd ps sp) (hr : Room k X.A) (hb : KBn X.K fd ps 1 ks g gV) (hx : Passes CX X E)
    (hkw : PK X kws tk) (hall : (backToKw pos (keywordEach kws X.env)).all (·.1.isSome) = true := by rfl) (hks : (backToKw pos (keywordEach kws X.env)).filterMap (·.1) = ks := by rfl)
    (hpl : ((backTo pos (starEach [] X.env)).any (·.1) || (backToKw pos (keywordEach kws X.env)).any (·.1.isNone)) = false := by rfl)
    (ht : eval (.Call (.Attribute o m apos) [] kws pos) X.env = (do
      let ov ← eval o X.env
      standAt apos.atName
      let (f, first) ← holding [ov] (getMethod ov m pl)
      callWith pos f first (backTo pos (starEach [] X.env)) (backToKw pos (keywordEach kws X.env))) := by rfl) :
    PE X (.Call (.Attribute o m apos) [] kws pos) (tMethN C m 0 ks.length sp gV E ta tNil tk) := by
  refine ⟨fun pins s σ H Q I h => ?_⟩
  refine PySem.W.methodCall_KW (pl := pl) (thn (ho.run pins s σ H _ I h) fun u s1 ⟨y, H1, I1, ry, a, dx, fs, ey, ea, l, q⟩ => ?_) ht
  subst ey
  obtain rfl : u = Value.ref a := ry
  refine getmeth_ok I1 ea c hm l ?_
  refine PySem.W.callWith_KW0 (h₀ := X.base) I.ok.mod.kin hm.kp hall (thn (hkw.run pos pins s1 σ H1 _ I1 q) fun ws s3 ⟨zs, H3, I3, rz, l1, l2, q3⟩ => ⟨I3.kIn, ?_⟩) hpl
  rw [hks]
  exact run_fnN (n := 1) (us := [.ref a]) (vs := [.ref a]) F hr hb hx I3 (.cons rfl .nil) rz rfl l2 q3
end

/-! ### len(o), the class with a __len__ of its own -/
section
variable {X : Cx} {CX : CXT} {k : Nat} {f C : Addr} {fd : FuncData} {ps : List Str} {sp : Sp} {E : XK}
theorem call_lenOwn (F : FnOk X.prog X.w X.K X.mg X.base CX k f fd ps sp) (hs : PySem.W.findIn X.K (.ref C) "__len__" = some (some (.ref f))) (hf : PySem.W.isFn X.K (.ref f) = true) (hb : Binds X.K fd ps []) (hx : Passes CX X E) (hr : Room (k + 1) X.A) :
    CallR X (.builtin "len") (fun xs H Q => ∃ a dx fs, xs = [.ref a] ∧ H a = some (.ins C dx fs) ∧ sp [.ref a] H (fun v H' => ∃ n : Nat, v = .int n ∧ n < 2 ^ 63 ∧ Q (.int n) H') E) := by
  intro pins s σ H xs us Q I r q
  obtain ⟨a, dx, fs, rfl, ha, q⟩ := q
  obtain ⟨u, rfl, ru⟩ := vals1 r
  cases ru
  obtain ⟨_, J, _⟩ := ins_get I.hok ha
  obtain ⟨od, J, _⟩ := J.look
  obtain ⟨m, hF⟩ := I.fr
  refine PySem.W.len_K hF I.ok.mod.kin J hs hf ?_
  have e0 : Env0 X.prog X.w X.K X.mg X.base X.A.in1 X.stack s H := I.env0.in1
  have hl : ([Value.ref a] ++ []).length = ps.length := F.len _ _ _ _ q
  have bd := hb s [.ref a] I.kIn hl
  rw [List.append_nil] at bd
  refine wpAny_call (codeAny_mono (F.run X.A.in1 X.stack s H ⟨[.ref a], []⟩ [.ref a] [.ref a] _ E hr.in1 e0 bd (.cons rfl .nil) q) fun r s' z => ?_)
  match r, z with
  | .error e, z => exact hx pins σ H s e s' I z
  | .ok (.ret w), z =>
    obtain ⟨v, H', I', rv, n, rfl, hn, q⟩ := I.after z
    obtain ⟨t, rfl⟩ := rv
    refine ⟨⟨Int.natCast_nonneg n, by have : (n : Int) < ((2 ^ 63 : Nat) : Int) := Int.ofNat_lt.mpr hn; exact this⟩, .int n, H', I'.tok _, ⟨_, rfl⟩, q⟩
end

/-! ### max(xs, default=None) of whole numbers -/
section
variable {X : Cx}
theorem reads_ints {h : Heap} : ∀ {ns : List Int} {us : List Value}, Vals (ns.map V.int) us → ReadsAll h us (ns.map PyData.int) []
  | [], _, r => by
    cases r
    exact .nil
  | n :: ns, _, r => by
    cases r with
    | cons r1 r2 =>
      obtain ⟨t, rfl⟩ := r1
      exact .cons (as := []) (bs := []) (.int n t) (reads_ints r2)
theorem alike_ints (ns : List Int) : PySem.W.AlikeAll (ns.map PyData.int) := by
  refine ⟨fun x hx y hy => ?_, fun x hx => ?_⟩
  · obtain ⟨a, _, rfl⟩ := List.mem_map.mp hx
    obtain ⟨b, _, rfl⟩ := List.mem_map.mp hy
    rfl
  · obtain ⟨a, _, rfl⟩ := List.mem_map.mp hx
    exact fun z => nomatch z
theorem depth_ints (ns : List Int) : PyData.depthAll (ns.map PyData.int) = 0 := by
  induction ns with
  | nil => rfl
  | cons n r ih =>
    rw [List.map_cons]
    simp [PyData.depthAll, PyData.depth, ih]
theorem call_maxD (hcalm : X.calm = true) (hu : X.A.units + 1 < cLine) : CallRK X (.builtin "max") [("default" : Str)] (fun xs zs H Q => ∃ (a : Addr) (ns : List Int) (z : V), xs = [.ref a] ∧ zs = [z] ∧ SqL X.K H a (ns.map V.int) ∧ (ns = [] → Q z H) ∧
    ∀ n r, ns = n :: r → Q (.int (r.foldl max n)) H) := by
  intro pins s σ H xs zs us ws Q I r rz q
  obtain ⟨a, ns, z, rfl, rfl, hq, q0, q1⟩ := q
  obtain ⟨u, rfl, ru⟩ := vals1 r
  obtain ⟨y, rfl, ry⟩ := vals1 rz
  cases ru
  obtain ⟨its, rv, pl, _⟩ := I.list hq
  refine PySem.W.max_list_default (I.ok.hd hcalm) pl.isList (by simpa using reads_ints rv) (alike_ints ns) (by rw [depth_ints]; omega) (fun e h' tk k => ?_) fun y' ys i v h' tk bs e hv rd k => ?_
  · have e' : ns = [] := List.map_eq_nil_iff.mp e
    exact ⟨z, H, I.kept k, ry, q0 e'⟩
  · cases ns with
    | nil => cases e
    | cons n r =>
      rw [List.map_cons] at e
      obtain ⟨rfl, rfl⟩ := List.cons.inj e
      rw [PySem.W.maxD_ints] at rd
      cases rd with
      | int _ t => exact ⟨.int (r.foldl max n), H, I.kept k, ⟨t, rfl⟩, q1 n r rfl⟩
end

/-! ### dict(d) -/
section
variable {X : Cx}
theorem call_dictD : CallR X (.type "dict") (fun xs H Q => ∃ (a : Addr) (kvs : List (Key × V)), xs = [.ref a] ∧ Rd H a (.dK kvs) ∧ ∀ p, H p = none → Q (.ref p) (upd H p (.dK kvs))) := by
  intro pins s σ H xs us Q I r q
  obtain ⟨a, kvs, rfl, ha, q⟩ := q
  obtain ⟨u, rfl, ru⟩ := vals1 r
  cases ru
  obtain ⟨z, lo, vs, rel, d⟩ := dk_rd I.hok ha
  refine PySem.kt_call_dict lo d (by rw [← rel.length]; exact z) fun h' hd' sb => ?_
  have big : (s.heap.objs.size == sysModules) = false := beq_eq_false_iff_ne.mpr (Nat.ne_of_gt I.big)
  refine ⟨.ref s.heap.objs.size, upd H s.heap.objs.size (.dK kvs), I.laid (t' := s.toks) (fun b o e => ?_) (Nat.le_refl _) (show ObjOk X.prog X.w _ _ _ (.dK kvs) from ⟨z, big, vs, rel, hd'⟩), rfl, q _ (I.hok.fresh (Nat.le_refl _))⟩
  exact (sb.2 b (Nat.ne_of_lt (Heap.lt_size e))).trans (Heap.get?_push_of_some _ e)
end

/-! ### dict(zip(xs, ys)), texts as keys -/
def tDictZip (K : PySem.W.Frag) (ta : TA) : TE := fun σ H Q => ta σ H fun vs H1 => ∃ (a b : Addr) (ks : List Str) (ys : List V), vs = [.ref a, .ref b] ∧ SqL K H1 a (ks.map V.str) ∧ SqL K H1 b ys ∧
  ∀ p, H1 p = none → Q (.ref p) (upd H1 p (.dK (mergeK [] ((ks.zip ys).map fun q => (Sum.inr q.1, q.2)))))
theorem zip_at : ∀ {ks : List Str} {us : List Value} {ys : List V} {ws : List Value}, Vals (ks.map V.str) us → Vals ys ws →
    ∃ prs : List (Key × Value), KV ((ks.zip ys).map fun q => ((Sum.inr q.1 : Key), q.2)) prs ∧ prs.length = min us.length ws.length ∧ ∀ (i : Nat) (u w : Value), us[i]? = some u → ws[i]? = some w → ∃ k, prs[i]? = some (k, w) ∧ keyIs k u = true
  | [], _, ys, ws, r, _ => by
    cases r
    exact ⟨[], .nil, by simp, fun i u w e => by simp at e⟩
  | k :: ks, _, [], _, .cons r1 r2, r' => by
    cases r'
    exact ⟨[], .nil, by simp, fun i u w _ e => by simp at e⟩
  | k :: ks, _, y :: ys, _, .cons r1 r2, r' => by
    cases r' with
    | cons q1 q2 =>
      obtain ⟨t, rfl⟩ := r1
      obtain ⟨prs, kv, hl, h⟩ := zip_at r2 q2
      refine ⟨(Sum.inr k, _) :: prs, .cons ⟨rfl, q1⟩ kv, by simp [hl, Nat.succ_min_succ], fun i u w e1 e2 => ?_⟩
      cases i with
      | zero =>
        simp at e1 e2
        subst e1 e2
        exact ⟨Sum.inr k, rfl, keyIs_str k t⟩
      | succ i =>
        simp at e1 e2
        obtain ⟨k', a, b⟩ := h i u w e1 e2
        exact ⟨k', by simpa using a, b⟩
theorem off_ne {c n k : Nat} (h : c < n) : c ≠ n + k := by omega
theorem pe_dictZip {X : Cx} {e1 e2 : Expr} {ta : TA} {p p2 pos pos2 : Pos} (hc : X.calm = true) (hgd : Gl X "dict") (hmd : X.mg "dict" = none) (hgz : Gl X "zip") (hmz : X.mg "zip" = none) (ha : PA X [e1, e2] ta)
    (hs : starEach [e1, e2] X.env = (false, eval e1 X.env) :: starEach [e2] X.env := by rfl) (hpl : (backTo pos2 (starEach [e2] X.env)).any (·.1) = false := by rfl)
    (hs2 : starEach [.Call (.Name "zip" p2) [e1, e2] [] pos2] X.env = [(false, eval (.Call (.Name "zip" p2) [e1, e2] [] pos2) X.env)] := by rfl) :
    PE X (.Call (.Name "dict" p) [.Call (.Name "zip" p2) [e1, e2] [] pos2] [] pos) (tDictZip X.K ta) := by
  refine ⟨fun pins s σ H Q I h => ?_⟩
  refine Call_ (ld_blt I hgd hmd (show bootBuiltins "dict" = some (.type "dict") by decide +kernel) (PyProof.Rows.callWith_type1 ?_ hs2 rfl))
  refine Calls.spliced_cons (Call_ (ld_blt I hgz hmz PyProof.Rows.boot_zip (PyProof.Rows.callWith_type1 (thn (ha.run pos2 pins s σ H _ I h) fun us s1 ⟨vs, H1, I1, r1, q1⟩ => ?_) hs hpl)))
  obtain ⟨a, b, ks, ys, rfl, hqx, hqy, q⟩ := q1
  cases r1 with
  | cons r rr =>
    cases rr with
    | cons r' rr =>
      cases rr
      cases r
      cases r'
      obtain ⟨its, rv, p1, z1⟩ := I1.list hqx
      obtain ⟨its2, rv2, p3, z2⟩ := I1.list hqy
      have la : a < s1.heap.objs.size := p1.lt
      have lb : b < s1.heap.objs.size := p3.lt
      refine call_zip_2 p1.isList p3.isList fun h' hz hTI hTO h1 h2 hsz hk => Calls.spliced_nil ?_
      obtain ⟨prs, kv, hl, hp⟩ := zip_at rv rv2
      have lenK : its.length ≤ sizeLine := by rw [← rv.length]; exact z1
      have hmin : min its.toArray.size its2.toArray.size ≤ sizeLine := by simp only [List.size_toArray]; omega
      refine PySem.call_dict_pairs (knd := mixKind X.prog X.w) (kvs := prs) (PairArg.zip _ _ _ _ _ a b (PySem.W.ktu_apart s1.heap.objs.size a b la lb) its.toArray its2.toArray) (I.ok.hd hc)
        ⟨hz, hTI, ⟨_, _, hTO⟩, h1, h2, p1.isList.at fun o e => hk a o e, p3.isList.at fun o e => hk b o e⟩ ⟨by simpa using hl, fun i u w hr => ?_⟩ hmin fun h'' tk hd' k => ?_
      · obtain ⟨k, e1, e2⟩ := hp i u w (by simpa using hr.1) (by simpa using hr.2)
        exact ⟨k, e1, e2⟩
      · have hp0 : h'.objs.size = s1.heap.objs.size + 5 := hsz
        have le0 : s1.heap.objs.size ≤ h'.objs.size := by rw [hp0]; exact Nat.le_add_right _ _
        have keep : ∀ c o, s1.heap.get? c = some o → h''.get? c = some o := fun c o e => by
          have lt := Heap.lt_size e
          refine k c o (fun hm => ?_) (hk c o e)
          simp only [List.mem_cons, List.not_mem_nil, or_false] at hm
          rcases hm with z | z | z | z
          · exact off_ne lt z
          · exact off_ne lt z
          · exact off_ne (k := 0) lt z
          · exact off_ne lt z
        have hbig : (h'.objs.size == sysModules) = false := beq_eq_false_iff_ne.mpr (Nat.ne_of_gt (Nat.lt_of_lt_of_le I1.big le0))
        have fresh : H1 h'.objs.size = none := I1.hok.fresh le0
        have hlen : (mergeK [] ((ks.zip ys).map fun q => ((Sum.inr q.1 : Key), q.2))).length ≤ sizeLine := by
          refine Nat.le_trans (length_mergeK _ []) ?_
          rw [List.length_nil, Nat.zero_add, List.length_map, List.length_zip]
          have : ks.length = its.length := by have := rv.length; rw [List.length_map] at this; exact this
          omega
        exact ⟨.ref h'.objs.size, upd H1 h'.objs.size (.dK _), I1.laid (t' := tk) keep le0 (show ObjOk X.prog X.w _ _ _ (.dK _) from ⟨hlen, hbig, merged [] prs, KV.merge kv .nil, hd'⟩), rfl, q _ fresh⟩

/-! ### repr of a dict of texts and whole numbers -/
def showD (kvs : List (Str × Int)) : PyData := .dict (kvs.map fun p => (.str p.1, .int p.2))
theorem reads_kv {P : Program} {w : World} {h : Heap} : ∀ {kvs : List (Str × Int)} {vs : List (Key × Value)} {es : List DictEntry}, KV (kvs.map fun p => ((Sum.inr p.1 : Key), V.int p.2)) vs → Pairs (mixKind P w) es vs →
    ReadsAll h (es.map (·.key)) (kvs.map fun p => PyData.str p.1) [] ∧ ReadsAll h (es.map (·.val)) (kvs.map fun p => PyData.int p.2) []
  | [], _, _, r, q => by
    cases r
    cases q
    exact ⟨.nil, .nil⟩
  | p :: kvs, _, _, .cons r1 r2, .cons q1 q2 q3 => by
    obtain ⟨h1, h2⟩ := reads_kv r2 q3
    obtain ⟨e1, t, e2⟩ := r1
    rw [← e1] at q1
    obtain ⟨t', e3⟩ := Value.isStrOf_shape (show Value.isStrOf p.1 _ = true from q1)
    rw [e2] at q2
    rw [List.map_cons, List.map_cons, List.map_cons, List.map_cons, e3, q2]
    exact ⟨.cons (as := []) (bs := []) (.str _ _) h1, .cons (as := []) (bs := []) (.int _ _) h2⟩
section
variable {X : Cx}
theorem call_reprD (hg : X.A.guards = some []) (hu : X.A.units + 10 < cLine) : CallR X (.builtin "repr") (fun xs H Q => ∃ (a : Addr) (kvs : List (Str × Int)), xs = [.ref a] ∧ H a = some (.dK (kvs.map fun p => ((Sum.inr p.1 : Key), V.int p.2))) ∧ (showD kvs).showable = true ∧
    (showD kvs).depth ≤ 5 ∧ (showD kvs).shown.length ≤ sizeLine ∧ Q (.str (showD kvs).shown) H) := by
  intro pins s σ H xs us Q I r q
  obtain ⟨a, kvs, rfl, ha, hs, hdp, hz, q⟩ := q
  obtain ⟨u, rfl, ru⟩ := vals1 r
  cases ru
  obtain ⟨z, lo, vs, rel, o, es, ep, ho, hx, hd, hk, hp, _⟩ := dk_of I.hok ha
  obtain ⟨r1, r2⟩ := reads_kv (h := s.heap) rel hp
  have rd : Reads s.heap (.ref a) (showD kvs) (a :: [] ++ []) := by
    refine Reads.dict ho hx.1 hd ?_ ?_
    · rw [List.map_map]
      exact r1
    · rw [List.map_map]
      exact r2
  refine PySem.repr_of_reads' rd hs (fun _ hm => ?_) hg (by omega) (fun _ _ e => e) (fun h' u tk k => ⟨.str (showD kvs).shown, H, I.kept k, ⟨u, rfl⟩, q⟩) hz
  have e : sysModules = a := by simpa using hm
  rw [← e] at lo
  simp at lo
end
end KB
/-! part KR3 -/
/-! enumerate of a tuple. -/
namespace KB
open PySem PySem.Spec PyProof.Rows L2

theorem meets_enum_tup (t : Addr) (items : Array Value) : Meets (Builtin.«enumerate.__new__» ⟨[.type "enumerate", .ref t], []⟩) (fun _ R s => s.heap.IsTuple t items ∧
      R (.ok (.ret (.ref (s.heap.push { cls := .type "tuple_iterator", data := .fields #[.ref t, .int 0 0] }).objs.size)))
        { s with heap := (s.heap.push { cls := .type "tuple_iterator", data := .fields #[.ref t, .int 0 0] }).push { cls := .type "enumerate", data := .fields #[.none, .bool false, .ref s.heap.objs.size, rawInt 0, .none, .none] } }) :=
  .of_wp fun prog w A R s h => by
    obtain ⟨hp, g, d, tk, os⟩ := s
    obtain ⟨h1, h⟩ := h
    have hsub := sub_enumerate
    have q1 : ∀ {A' : Around} {E : Value → Shared → Prop} {Q : Value → Shared → Prop}, Q (.ref hp.objs.size) ⟨hp.push { cls := .type "tuple_iterator", data := .fields #[.ref t, .int 0 0] }, g, d, tk, os⟩ → wpAny (model prog w) A' (pyIter (.ref t)) Q E ⟨hp, g, d, tk, os⟩ :=
      fun q => wpAny_pyIter_tuple h1 q
    wp_walk using q1
    refine wpAny_stack_any fun st => wpAny_pure ?_
    split
    · rename_i c _ _ _ _ _
      cases (c == Value.type "enumerate")
      · wp_walk using q1
        exact ⟨_, rfl, h⟩
      · wp_walk using q1
        exact ⟨_, rfl, h⟩
    · wp_walk using q1
      exact ⟨_, rfl, h⟩
theorem call_enum_tup {prog : Program} {w : World} {A : Around} {E : Value → Shared → Prop} {s : Shared} {t : Addr} {items : Array Value} {Q : Value → Shared → Prop} (ht : s.heap.IsTuple t items)
    (h : ∀ h', IsEnum h' (s.heap.objs.size + 1) s.heap.objs.size 0 .none → h'.IsTupleIter s.heap.objs.size t 0 → (∀ b o, s.heap.get? b = some o → h'.get? b = some o) → Q (.ref (s.heap.objs.size + 1)) { s with heap := h' }) :
    wpAny (model prog w) A (call (.type "enumerate") [.ref t]) Q E s := by
  refine callType_new F.called_enumerate (by decide) (F.typeCall_enumerate_1 _) (F.newCall_enumerate_1 _) (fun obj => F.args_object_init_2 obj _) F.entry_enumerate_new (meets_enum_tup t items) ⟨ht, ?_⟩
  have z1 := Heap.size_push s.heap { cls := .type "tuple_iterator", data := .fields #[.ref t, .int 0 0] }
  show _ ∧ _
  rw [z1]
  have he := Heap.get?_push_size (s.heap.push { cls := .type "tuple_iterator", data := .fields #[.ref t, .int 0 0] }) (o := { cls := .type "enumerate", data := .fields #[.none, .bool false, .ref s.heap.objs.size, rawInt 0, .none, .none] }) rfl
  rw [z1] at he
  exact ⟨⟨_, he, rfl⟩, h _ he ⟨_, Heap.get?_push_of_some _ (Heap.get?_push_size _ rfl), rfl, rfl⟩ fun b o x => Heap.get?_push_of_some _ (Heap.get?_push_of_some _ x)⟩

/-- the items of the tuple at a, each in a new pair behind its place -/
def IteT (K : PySem.W.Frag) (a : Addr) : It :=
  ⟨fun i H => ∃ (xs : List V) (x : V), SqT K H a xs ∧ xs[i]? = some x, fun i H v H' => ∃ T x, v = .ref T ∧ H T = none ∧ H' = upd H T (.tup [.int (i : Nat), x]) ∧ ∀ xs, SqT K H a xs → xs[i]? = some x, fun i H => ∃ xs : List V, SqT K H a xs ∧ xs.length ≤ i⟩
theorem turn_enumT {P : Program} {w : World} {K : PySem.W.Frag} {elts : List Expr} {kk : Nat} {tpos : Pos} (a e it : Addr) (hai : a ≠ it) (hae : a ≠ e) :
    Turn P w K (.Tuple elts kk tpos) (IteT K a) [e, it] e (fun i h => (∃ old, IsEnum h e it ((i : Nat) : Int) old) ∧ h.IsTupleIter it a i ∧ e ≠ it) where
  mem := by simp
  obj := fun i h st b hb => by
    obtain ⟨⟨old, he⟩, ⟨o, ho, hc, hd⟩, _⟩ := st
    have hb' : b = e ∨ b = it := by simpa using hb
    rcases hb' with rfl | rfl
    · exact ⟨_, he, fun v q => nomatch q⟩
    · exact ⟨o, ho, fun v q => by rw [hd] at q; cases q⟩
  keep := fun i h h' st k => let ⟨⟨old, he⟩, hi, hne⟩ := st; ⟨⟨old, k e (by simp) _ he⟩, hi.at fun o q => k it (by simp) o q, hne⟩
  item := by
    intro X hP hw hK hc i pins s σ H E I hf st hg
    subst hP hw hK
    obtain ⟨⟨old, he⟩, hit, hne⟩ := st
    obtain ⟨xs, x, hq, hx⟩ := hg
    obtain ⟨its, rv, p, hz⟩ := I.tuple hq
    have hel : e < s.heap.objs.size := Heap.lt_size he
    have hil : it < s.heap.objs.size := by obtain ⟨_, q, _⟩ := hit; exact Heap.lt_size q
    have hix : i < its.toArray.size := by rw [List.size_toArray, ← rv.length]; exact (List.getElem?_eq_some_iff.mp hx).1
    have hef : e ∉ [it, a] := by simp [hne, Ne.symm hae]
    refine wpAny_pyNext_enum_itemC (Draws.tuple (A := X.A.in1) (I.ok.hd hc) it a hai its.toArray) he ⟨hit, p⟩ hix hne hef fun u h' tk hu ho hit' hT hsz hk => ?_
    refine ⟨_, rfl, wpAny_letOwnedTupleGo_enum (s := { s with heap := h', toks := tk + 1 }) ho fun h'' he' sb => ?_⟩
    obtain ⟨u', hu', ru⟩ := rv.get hx
    have eu : u = u' := by
      have z : its[i]? = some u := by simpa using hu
      exact Option.some.inj (z.symm.trans hu')
    subst eu
    have hT2 : h''.get? s.heap.objs.size = some { cls := .type "tuple", data := .seq #[.int i tk, u] } := (sb.2 _ (Nat.ne_of_gt hel)).trans hT
    have new : ObjOk X.prog X.w (upd H s.heap.objs.size (.tup [.int (i : Nat), x])) h'' s.heap.objs.size (.tup [.int (i : Nat), x]) :=
      ⟨by show 2 ≤ sizeLine; decide, [.int i tk, u], .cons ⟨_, rfl⟩ (.cons ru .nil), ⟨_, hT2, rfl, _, rfl⟩⟩
    have I1 : Inv X pins σ (upd H s.heap.objs.size (.tup [.int (i : Nat), x])) { s with heap := h'', toks := tk + 1 } :=
      I.turnedNew (ch := [e, it]) (fun b ob hb q => (sb.2 b (fun z => hb (by simp [z]))).trans (hk b ob (fun z => hb (by simp [z])) (fun z => hb (by simp [z])) q)) hf (Nat.le_refl _) new
    refine ⟨.ref s.heap.objs.size, _, I1, rfl, ⟨_, x, rfl, I.hok.fresh (Nat.le_refl _), rfl, fun ys hy => by rw [I.tuple_inj hy hq]; exact hx⟩, ⟨⟨u, ?_⟩, hit'.1.at fun o q => (sb.2 it (Ne.symm hne)).trans q, hne⟩, fun b hb => ?_⟩
    · have e1 : ((i + 1 : Nat) : Int) = (i : Int) + 1 := by omega
      rw [e1]
      exact he'
    · have hb2 : b = e ∨ b = it := by simpa using hb
      have hb' : b < s.heap.objs.size := by
        rcases hb2 with rfl | rfl
        · exact hel
        · exact hil
      rw [upd_ne (Nat.ne_of_lt hb')]
      exact (hf b hb).1
  done := by
    intro X hP hw hK hc i pins s σ H E I hf st hg
    subst hP hw hK
    obtain ⟨⟨old, he⟩, hit, hne⟩ := st
    obtain ⟨xs, hq, hx⟩ := hg
    obtain ⟨its, rv, p, hz⟩ := I.tuple hq
    obtain ⟨f0, f1, f2, f3, f4, f5⟩ := hf it (by simp)
    have hT : s.TypeIs (.ref e) "enumerate" := ⟨_, he, rfl⟩
    have hend : its.toArray[i]? = none := by
      have := rv.length
      simp
      omega
    unfold pyNext
    refine wpAny_bind (wpAny_attempt (wpAny_callSpecial?_slot (name := Str.ofString "__next__") hT F.slot_enumerate_next (wpAny_call_entry F.slot_enumerate_next hT F.entry_enumerate_next ?_ (F.args_enumerate_next_1 _))))
    show wpAny _ _ (field (.ref e) 2 >>= _) _ _ _
    refine wpAny_bind (wpAny_field he rfl (x := .ref it) rfl ?_)
    refine wpAny_bind (wpAny_nextOf_tuple_end (I.ok.hd hc) hit p hend fun h' x eb hx' => ?_)
    obtain ⟨o, ho, hcl⟩ := hx'
    refine wpAny_bind (wpAny_isInstance (T := "StopIteration") (b := true) ⟨o, ho, hcl⟩ isSubtype_stop ?_)
    exact wpAny_pure ⟨rfl, I.turned (t' := s.toks) (fun b o hb q => eb b o hb q) f0 f1 f3 f4 f5⟩
  self := fun A i s Q E st h => let ⟨⟨_, he⟩, _⟩ := st; wpAny_pyIter_enum he h
def iEnumT (K : PySem.W.Frag) (ta : TA) : TI := fun σ H R => ta σ H fun vs H1 => ∃ a xs, vs = [.ref a] ∧ SqT K H1 a xs ∧ R (IteT K a) H1
theorem pi_enumT {X : Cx} {e : Expr} {ta : TA} {p pos tpos : Pos} {elts : List Expr} {kk : Nat} (hg : Gl X "enumerate") (hm : X.mg "enumerate" = none) (ha : PA X [e] ta) (hs : starEach [e] X.env = [(false, eval e X.env)] := by rfl) :
    PI X (.Tuple elts kk tpos) (.Call (.Name "enumerate" p) [e] [] pos) (iEnumT X.K ta) := by
  refine ⟨fun pins s σ H R I h => ?_⟩
  refine Call_ (ld_blt I hg hm boot_enumerate (PyProof.Rows.callWith_type1 (thn (ha.run pos pins s σ H _ I h) fun us s1 ⟨vs, H1, I1, r1, q1⟩ => ?_) hs rfl))
  obtain ⟨a, xs, rfl, hq, q⟩ := q1
  cases r1 with
  | cons r rr =>
    cases rr
    cases r
    obtain ⟨its, rv, p', hz⟩ := I1.tuple hq
    have la : a < s1.heap.objs.size := p'.lt
    refine call_enum_tup (show s1.heap.IsTuple a its.toArray from p') fun h' he hit hk => wpAny_pyIter_enum he ?_
    have I2 : Inv X pins σ H1 { s1 with heap := h' } := I1.kept (t' := s1.toks) hk
    refine ⟨s1.heap.objs.size + 1, [s1.heap.objs.size + 1, s1.heap.objs.size], _, _, H1, rfl, I2, turn_enumT a (s1.heap.objs.size + 1) s1.heap.objs.size (Nat.ne_of_lt la) (Nat.ne_of_lt (Nat.lt_succ_of_lt la)), ⟨⟨.none, he⟩, hit, Nat.succ_ne_self _⟩, fun b hb => ?_, q⟩
    have hb2 : b = s1.heap.objs.size + 1 ∨ b = s1.heap.objs.size := by simpa using hb
    have hle : s1.heap.objs.size ≤ b := by
      rcases hb2 with rfl | rfl
      · exact Nat.le_add_right _ _
      · exact Nat.le_refl _
    exact I1.fpOk hle (I1.hok.fresh hle)
/-- the reading of a comprehension over it -/
theorem lc_enumT {K : PySem.W.Frag} {a : Addr} {xs : List V} {g : TG} {tt : TT} {te : TE} {vs : List Nat} {σ : L2.St} {H1 : Hp} {D : Addr} {Qd : Hp → Prop} (Pv : Nat → Hp → Prop) (h0 : Pv 0 (upd H1 D (.lst []))) (hl : ∀ i H, i ≤ xs.length → Pv i H → SqT K H a xs)
    (hs : ∀ i x H T, xs[i]? = some x → Pv i H → H T = none → g (.ref T) (wipe σ vs) (upd H T (.tup [.int (i : Nat), x])) fun σ2 H2 => wipe σ2 vs = wipe σ vs ∧ tt σ2 H2 fun b H3 =>
      if b = true then te σ2 H3 fun y H4 => ∃ acc, H4 D = some (.lst acc) ∧ acc.length < sizeLine ∧ Pv (i + 1) (upd H4 D (.lst (acc ++ [y]))) else Pv (i + 1) H3) (hd : ∀ H, Pv xs.length H → Qd H) :
    ∃ W : Nat → Nat → Hp → Prop, (∃ m, W 0 m (upd H1 D (.lst []))) ∧ ∀ i m H, W i m H →
      ((IteT K a).stop i H ∧ Qd H) ∨ ((IteT K a).go i H ∧ ∃ Nx : Hp → Prop, (∀ H', Nx H' → ∃ m', m' < m ∧ W (i + 1) m' H') ∧ ∀ x H', (IteT K a).yld i H x H' → g x (wipe σ vs) H' fun σ2 H2 => wipe σ2 vs = wipe σ vs ∧ tt σ2 H2 fun b H3 =>
        if b = true then te σ2 H3 fun y H4 => ∃ acc, H4 D = some (.lst acc) ∧ acc.length < sizeLine ∧ Nx (upd H4 D (.lst (acc ++ [y]))) else Nx H3) := by
  refine ⟨fun i m H => m = xs.length - i ∧ i ≤ xs.length ∧ Pv i H, ⟨xs.length, by simp, Nat.zero_le _, h0⟩, ?_⟩
  rintro i m H ⟨rfl, hi, p⟩
  have q := hl i H hi p
  by_cases hlt : i < xs.length
  · refine .inr ⟨⟨xs, xs[i], q, by simp [hlt]⟩, Pv (i + 1), fun H' p' => ⟨xs.length - (i + 1), by omega, rfl, hlt, p'⟩, fun v H' y => ?_⟩
    obtain ⟨T, x, rfl, hT, rfl, hx⟩ := y
    exact hs i x H T (hx xs q) p hT
  · have e : i = xs.length := by omega
    subst e
    exact .inl ⟨⟨xs, q, Nat.le_refl _⟩, hd H p⟩
end KB
/-! part KR4 -/
/-! Defs that are called where no repr is under way: what they promise there, and the end of a law's row by such a promise. -/
namespace KB
open PySem PySem.Spec PyProof.Rows L2

/-- a promise that holds where no repr runs -/
structure FnG (P : Program) (w : World) (K : PySem.W.Frag) (mg : Str → Option Value) (base : Heap) (k : Nat) (f : Addr) (fd : FuncData) (ps : List Str) (sp : Sp) : Prop where
  len : ∀ vs H Q E, sp vs H Q E → vs.length = ps.length
  run : ∀ (A : Around) (outer : List Env) (s : Shared) (H : Hp) (args : Args) (us : List Value) (vs : List V) (Q : VK), A.guards = some [] → Room k A → Env0 P w K mg base A outer s H → BindsTo s fd args (ps.zip us) → Vals vs us → sp vs H Q E0 →
    codeAny (model P w) A (.call (.ref f) args) (CR CX0 outer P w H s Q E0) s
theorem FnG.of {P : Program} {w : World} {K : PySem.W.Frag} {mg : Str → Option Value} {base : Heap} {k : Nat} {f : Addr} {fd : FuncData} {ps : List Str} {sp : Sp} (F : FnOk P w K mg base CX0 k f fd ps sp) : FnG P w K mg base k f fd ps sp :=
  ⟨F.len, fun A outer s H args us vs Q _ hr => F.run A outer s H args us vs Q E0 hr⟩
section
variable {P : Program} {w : World} {K : PySem.W.Frag} {mg : Str → Option Value} {base : Heap} {k : Nat} {f : Addr} {fd : FuncData} {N ps : List Str} {sp : Sp} {x qual : Str} {st : Stmt}
/-- from the body, the surroundings told -/
theorem fnG_of {dvs : List V} (F : FunD K x qual (defArgs st) (defBody st) (defScope st) dvs [] f fd) (S : FnScope N ps (defScope st)) (len : ∀ vs H Q E, sp vs H Q E → vs.length = ps.length)
    (hbody : ∀ (cdv : Value) (A : Around) (outer : List Env) (s : Shared) (H : Hp) (vs : List V) (Q : VK), (A.deeper (envOfC qual (defScope st) s.heap.objs.size f cdv)).guards = some [] → Room k (A.deeper (envOfC qual (defScope st) s.heap.objs.size f cdv)) → sp vs H Q E0 →
      ∃ t, PSs (cxOf CX0 P w K mg base N qual (defScope st) f cdv A outer s H E0).nox (defBody st) t ∧ t { nx := fun _ H' => Q .non H', rt := Q } (start N vs) H) : FnG P w K mg base (k + 1) f fd ps sp := by
  obtain ⟨oc, od, dV, kV, doc, pm, an, cdv, ct, osl, rfl, lk, hcd, _, _⟩ := F.ex
  refine ⟨len, fun A outer s H args us vs Q hg hr e0 hb r hsp => ?_⟩
  have hin : K.In s.heap := e0.mod.kin.keeps fun b o z => (e0.bs b o z).1
  have hlim : s.heap.NoLimit := e0.mod.nolimit.keeps fun b o z => (e0.bs b o z).1
  have kinds : ∀ y ∈ ps.zip us, (defScope st).names.lookup y.1 = some .local ∨ ((defScope st).names.lookup y.1 = some .cell ∧ ((cellsFrom (s.heap.objs.size + 1) (defScope st).names []).lookup y.1).isSome = true) := fun y hy =>
    (S.par y.1 (List.of_mem_zip (a := y.1) (b := y.2) hy).1).elim .inl fun z => .inr ⟨z, PySem.W.cellsFrom_some _ _ _ (.inl z)⟩
  refine codeAny_call_function hr.depth (hin _ _ lk) rfl S.co S.gen rfl (PySem.W.codeRec_of hin hcd) (hb _ _ _ _ (wpAny_newFunctionEnv_cells S.kind kinds fun env he s1 xx => ?_))
  subst he
  refine ⟨hlim.keeps xx.toInCall.keep, codeAny_func ?_⟩
  obtain ⟨t, ht, hq⟩ := hbody cdv A outer s H vs Q hg (hr.deeper _) hsp
  have J := inv_start (E := E0) (CX := CX0) S hr.hd e0 (len _ _ _ _ hsp) r xx
  refine wpAny_mono (ht.nox.run [] s1 (start N vs) H _ J hq) (fun fl s' z => ?_) fun _ _ z => z
  match fl, z with
  | .ret u, ⟨v, σ', H', J', rv, q⟩ => exact ⟨v, H', J'.os, J'.bare, J'.base, J'.hok, rv, q⟩
  | .next, ⟨σ', H', J', q⟩ => exact ⟨.non, H', J'.os, J'.bare, J'.base, J'.hok, rfl, q⟩
  | .brk, ⟨_, _, _, q⟩ => exact q.elim
  | .cont, ⟨_, _, _, q⟩ => exact q.elim
end
section
variable {X : Cx} {k : Nat} {f : Addr} {fd : FuncData} {ps : List Str} {sp : Sp} {x : Str} {p pos : Pos} {e : Expr} {es : List Expr} {t : TA}
theorem pe_callG (F : FnG X.prog X.w X.K X.mg X.base k f fd ps sp) (hgu : X.A.guards = some []) (hr : Room k X.A) (hg : Gl X x) (hm : X.mg x = some (.ref f)) (hk : PySem.W.keepIn X.K (.ref f) = true) (hb : Binds X.K fd ps [])
    (ha : PA X (e :: es) t) (hdb : (x == ("__debug__" : Str)) = false := by decide) (he : starEach (e :: es) X.env = (false, eval e X.env) :: starEach es X.env := by rfl) (hpl : (backTo pos (starEach es X.env)).any (·.1) = false := by rfl) :
    PE X (.Call (.Name x p) (e :: es) [] pos) (tCall sp [] E0 t) := by
  refine ⟨fun pins s σ H Q I h => ?_⟩
  refine Call_ (ld_glob I hg hm (PySem.W.callWith_K (first := []) (h₀ := X.base) I.ok.mod.kin hk (thn (ha.run pos pins s σ H _ I h) fun us s1 ⟨vs, H1, I1, r, q⟩ => ⟨I1.kIn, ?_⟩) he hpl) hdb)
  have q : sp (vs ++ []) H1 Q E0 := q
  rw [List.append_nil] at q
  have hl : (us ++ []).length = ps.length := by rw [List.append_nil, ← r.length]; exact F.len _ _ _ _ q
  have bd := hb s1 us I1.kIn hl
  rw [List.append_nil] at bd
  refine wpAny_call (codeAny_mono (F.run X.A X.stack s1 H1 ⟨us, []⟩ us vs Q hgu hr I1.env0 bd r q) fun r s' z => ?_)
  match r, z with
  | .error _, z => exact z.elim
  | .ok (.ret u), z => exact I1.after z
end

/-! ### the end -/
theorem law_callG {P : Program} {w : World} {K : PySem.W.Frag} {mg mb : Str → Option Value} {k : Nat} {fa a : Addr} {fd : FuncData} {x : Str} {sp : Sp} {s₁ : Shared} {vs : List Value} {ns : List Int}
    (KX : K.In s₁.heap) (hns : s₁.heap.Ns mainGlobals mg) (hb : s₁.heap.Ns builtinsNs mb) (hbb : ∀ x : Str, x ≠ "__name__" → mb x = bootBuiltins x) (hlim : s₁.heap.NoLimit) (hg : s₁.gens = #[])
    (ha : s₁.heap.get? a = some { cls := .type "list", data := .seq vs.toArray }) (hi : IntsAre vs ns) (hl : ns.length ≤ sizeLine) (hr : Room k callerA)
    (F : ∀ base : Heap, K.In base → base.Ns mainGlobals mg → FnG P w K mg base k fa fd [x] sp) (hbind : ∀ (s : Shared) (u : Value), BindsTo s fd ⟨[u], []⟩ [(x, u)])
    (hsp : ∀ H : Hp, SqL K H a (ns.map V.int) → sp [.ref a] H (fun v _ => v = .bl true) E0) :
    codeAny (model P w) callerA (.call (.ref fa) ⟨[.ref a], []⟩) (fun r s' => r = .ok (.ret (.bool true)) ∧ OldK s₁.heap s'.heap ∧ s'.os = s₁.os ∧ AllBare s'.gens) s₁ := by
  have rv := vals_ints hi
  -- the script's object, and what is tracked at the start: it alone, unless the module holds it
  let ob : Obj := { cls := .type "list", data := .seq vs.toArray }
  have main : ∀ H : Hp, (∀ b u, H b = some u → b = a ∧ K.lookup a = none ∧ u = .frz ob (.lst (ns.map V.int))) → SqL K H a (ns.map V.int) →
      codeAny (model P w) callerA (.call (.ref fa) ⟨[.ref a], []⟩) (fun r s' => r = .ok (.ret (.bool true)) ∧ OldK s₁.heap s'.heap ∧ s'.os = s₁.os ∧ AllBare s'.gens) s₁ := by
    intro H only hS
    have hok : HOk P w H s₁.heap := fun b u z => by
      obtain ⟨rfl, _, rfl⟩ := only b u z
      exact ⟨ha, by rw [List.length_map]; exact hl, vs, _, rv, ha⟩
    have noDict : ∀ {b : Addr} {o : Obj} {es : Array DictEntry} {ep : Nat}, s₁.heap.get? b = some o → o.data = .dict es ep → H b = none := fun {b o es ep} e d => by
      cases q : H b with
      | none => rfl
      | some u =>
        obtain ⟨rfl, _, _⟩ := only b u q
        rw [ha] at e
        cases e
        cases d
    have ns1 : ∀ {b : Addr} {m : Str → Option Value}, s₁.heap.Ns b m → (hidT s₁.heap H).Ns b m := fun {b m} z => by
      obtain ⟨o, es, ep, e, d, rest⟩ := z
      exact ⟨o, es, ep, hidT_get e (noDict e d), d, rest⟩
    have kin : K.In (hidT s₁.heap H) := fun b o e => hidT_get (KX b o e) (by
      cases q : H b with
      | none => rfl
      | some u =>
        obtain ⟨rfl, n, _⟩ := only b u q
        rw [n] at e
        cases e)
    obtain ⟨mc, lim1, lim2⟩ := hlim
    have hM : Mod K mg (hidT s₁.heap H) := ⟨kin, ns1 hns, ⟨mb, ns1 hb, hbb⟩, ⟨mc, ns1 lim1, lim2⟩⟩
    have nil' : ∀ b ∈ frs [], H b = none := fun b z => nomatch z
    have e0 : Env0 P w K mg (hidT s₁.heap H) callerA [] s₁ H := ⟨rfl, hM, fun b o e => of_hidT e, Nat.le_of_eq (hidT_size _ _), trivial, nil', hok, .of_eq hg⟩
    refine codeAny_mono ((F _ kin (ns1 hns)).run callerA [] s₁ H ⟨[.ref a], []⟩ [.ref a] [.ref a] _ rfl hr e0 (hbind s₁ (.ref a)) (.cons rfl .nil) (hsp H hS)) fun r s' z => ?_
    match r, z with
    | .error _, z => exact z.elim
    | .ok (.ret u), ⟨v, H', os, bare, un, hok', rv', q⟩ =>
      have q' : v = .bl true := q
      subst q'
      cases rv'
      refine ⟨rfl, OldK.of_keep fun b o e => ?_, os, bare⟩
      cases z : H b with
      | none => exact un.keep b o e z (fun m => nomatch m) (fun m => nomatch m)
      | some u =>
        obtain ⟨rfl, _, rfl⟩ := only b u z
        rw [ha] at e
        cases e
        exact (hok' _ _ (un.frzs _ _ _ z)).1
  cases hk : K.lookup a with
  | some o =>
    have e := KX a o hk
    rw [ha] at e
    cases e
    exact main (fun _ => none) (fun b u z => nomatch z) (.inr ⟨ob, vs.toArray, _, hk, rfl, rfl, rfl, by rw [List.size_toArray, hi.length]; exact hl, by simpa using rv⟩)
  | none =>
    refine main (fun b => if b = a then some (.frz ob (.lst (ns.map V.int))) else none) (fun b u z => ?_) (.inl (.inr ⟨ob, if_pos rfl⟩))
    by_cases hb' : b = a
    · have z' := (if_pos hb').symm.trans z
      cases z'
      exact ⟨hb', hk, rfl⟩
    · have z' := (if_neg hb').symm.trans z
      cases z'
theorem walk_ofG {l : PySem.W.OpenLaw} {n k : Nat} {q : Program} {loose : List Str} {XP : (Str → Option Value) → Heap → Prop} {YP : World → Heap → Prop} {d : DefRec} {K : Params → PySem.W.Frag} {sp : PySem.W.Frag → Sp} {x : Str}
    (hn : l.most = some n) (hn2 : n ≤ sizeLine) (hdf : d.params.defaults = []) (hr : Room k callerA)
    (hY : ∀ (w : World) (h : Heap), YP w h → (K w.params).In h)
    (F : ∀ (w : World) (mg : Str → Option Value) (fa : Addr) (h : Heap), (K w.params).In h → h.Ns mainGlobals mg → mg d.name = some (.ref fa) →
      ∃ fd : FuncData, (∀ (s : Shared) (u : Value), BindsTo s fd ⟨[u], []⟩ [(x, u)]) ∧
        ∀ base : Heap, (K w.params).In base → base.Ns mainGlobals mg → FnG l.prog w (K w.params) mg base k fa fd [x] (sp (K w.params)))
    (hsp : ∀ (K : PySem.W.Frag) (H : Hp) (a : Addr) (ns : List Int), ns.length ≤ n → SqL K H a (ns.map V.int) → sp K [.ref a] H (fun v _ => v = .bl true) E0) :
    PySem.W.WalkO q loose XP YP l.row.toRowW d [] (fun f vs => PySem.call f vs) := by
  refine Att.attach_call hn hdf fun w s₀ s₁ mg mb fa o pm cd doc a vs ns G Y ho hd hcd hmg hobj hints hlen hg => ?_
  obtain ⟨fd, hb, hF⟩ := F w mg fa _ (hY w _ Y) G.T.g hmg
  exact law_callG (hY w _ Y) G.T.g G.T.b G.T.builtins G.T.nolimit hg hobj hints (Nat.le_trans hlen hn2) hr hF hb fun H hS => hsp _ H a ns hlen hS
end KB
/-! part KR5 -/
/-! Tuples whose object is known: what `tuple(xs)` makes; methods of such. -/
namespace KB
open PySem L2 PyProof.Rows
/-- a tuple, nothing beside it in its object -/
def TupA (H : Hp) (t : Addr) (xs : List V) : Prop := ∃ o, H t = some (.frz o (.tup xs)) ∧ o.cls = .type "tuple" ∧ o.dict = none
theorem TupA.sqT {K : PySem.W.Frag} {H : Hp} {t : Addr} {xs : List V} (h : TupA H t xs) : SqT K H t xs := by
  obtain ⟨o, h, _⟩ := h
  exact .inl (.inr ⟨o, h⟩)
section
variable {X : Cx}
theorem call_tuple_ofF : CallR X (.type "tuple") (fun xs H Q => ∃ p ys, xs = [.ref p] ∧ SqL X.K H p ys ∧ ∀ l (o : Obj), H l = none → o.cls = .type "tuple" → o.dict = none → Q (.ref l) (upd H l (.frz o (.tup ys)))) := by
  intro pins s σ H xs us Q I r h
  obtain ⟨p, ys, rfl, hq, q⟩ := h
  obtain ⟨u, rfl, rx⟩ := vals1 r
  cases rx
  obtain ⟨its, r', pl, hz⟩ := I.list hq
  have hlen := r'.length
  refine call_tuple_list pl.isList (fun h' kp => ?_) (by simp only [List.size_toArray] <;> omega)
  have I1 : Inv X pins σ H { s with heap := h' } := I.kept (t' := s.toks) kp
  have I2 : Inv X pins σ (upd H h'.objs.size (.frz { cls := .type "tuple", data := .seq its.toArray } (.tup ys))) { s with heap := h'.push { cls := .type "tuple", data := .seq its.toArray } } :=
    I1.laid (t' := s.toks) (fun b o e => Heap.get?_push_of_some _ e) (Nat.le_refl _) (show ObjOk X.prog X.w _ _ _ (.frz _ (.tup ys)) from ⟨Heap.get?_push_size _ rfl, hz, its, r', IsTup.new _ _⟩)
  exact ⟨.ref h'.objs.size, _, I2, rfl, q _ _ (I1.hok.fresh (Nat.le_refl _)) rfl rfl⟩
def rTupIx (K : PySem.W.Frag) : V → List V → Hp → VK → Prop := fun x xs H Q => ∃ p, ∃ ys : List Str, ∃ z j, x = .ref p ∧ xs = [.str z] ∧ SqT K H p (ys.map V.str) ∧ ys[j]? = some z ∧ (∀ m, m < j → ys[m]? ≠ some z) ∧ Q (.int (j : Nat)) H
theorem mt_tup_ixK : MtR X "tuple.index" (rTupIx X.K) := mt_tup_index
def tBMT (r : V → List V → Hp → VK → Prop) (to : TE) (t : TA) : TE := fun σ H Q => to σ H fun x H1 => ∃ p xs, x = .ref p ∧ TupA H1 p xs ∧ t σ H1 fun ys H2 => r x ys H2 Q
variable {o e : Expr} {es : List Expr} {to : TE} {t : TA} {name : Str} {apos cpos : Pos} {id : String} {r : V → List V → Hp → VK → Prop}
theorem pe_bmT (pa : PlainAttrs "tuple") (slot : Slot "tuple" name id) (hty : typeOf (.builtin id) = pure (.type "method_descriptor")) (hm : MtR X id r) (ho : PE X o to) (ha : PA X (e :: es) t)
    (hbase : attributeBase o name X.env (eval o X.env) = eval o X.env := by rfl)
    (hfew : ((backTo cpos (starEach (e :: es) X.env)).all (fun x => !x.1) && (backToKw cpos (keywordEach [] X.env)).all (fun x => x.1.isSome)
      && decide ((e :: es).length + ([] : List Keyword).length + (if ([] : List Keyword).isEmpty then 0 else 1) < 30)) = true := by rfl)
    (hline : (apos.endLine == cpos.line) = true := by rfl) (hs : starEach (e :: es) X.env = (false, eval e X.env) :: starEach es X.env := by rfl) (hplain : (backTo cpos (starEach es X.env)).any (·.1) = false := by rfl) :
    PE X (.Call (.Attribute o name apos) (e :: es) [] cpos) (tBMT r to t) := by
  refine ⟨fun pins s σ H Q I h => ?_⟩
  refine wpAny_Call_method_late hbase hfew hline rfl (thn (ho.run pins s σ H _ I h) fun v s1 ⟨x, H1, I1, r1, p, xs, e1, ⟨ob, hp, hc, hd⟩, q1⟩ => ?_)
  subst e1
  cases r1
  have hob : s1.heap.get? p = some ob := (I1.hok p _ hp).1
  refine ⟨"tuple", id, pa, slot, hty, ⟨ob, hob, hc⟩, fun a e2 => (by cases e2; exact ⟨ob, hob, hd⟩), ?_⟩
  have hA := ha.run cpos pins s1 σ H1 _ I1 q1
  rw [hs] at hA ⊢
  refine Calls.callWith_builtin (by show (false || (backTo cpos (starEach es X.env)).any (·.1)) = false; rw [hplain] <;> rfl) (Calls.evalArgs_plain ?_)
  exact thn hA fun us s2 ⟨vs, H2, I2, r2, q2⟩ => hm pins s2 σ H2 (.ref p) vs (.ref p) us Q I2 rfl r2 q2
end
end KB
/-! part KT -/
/-! The text by places, what the top leaves of it, how its defs bind. Printed by genT.py. -/
namespace KB
open PySem L2
def signsOf (s : Stmt) : Str := match s with
  | .Assign _ (.Constant (.str x) _ _) _ => x
  | _ => Str.empty
def top (i : Nat) : Stmt := PySem.Challenge.pw_paperkin_k72_whole_banks.main.body.getD i (.Pass ⟨0, 0, 0, 0⟩)
abbrev s_is_whole : Stmt := top 16
abbrev N_is_whole : List Str := ["thing", "least", "most"]
abbrev P_is_whole : List Str := ["thing", "least", "most"]
theorem sc_is_whole : FnScope N_is_whole P_is_whole (defScope s_is_whole) := ⟨rfl, rfl, rfl, by decide +kernel, rfl, by decide +kernel, by decide +kernel⟩
abbrev s_is_name : Stmt := top 17
abbrev N_is_name : List Str := ["thing", "sign"]
abbrev P_is_name : List Str := ["thing"]
theorem sc_is_name : FnScope N_is_name P_is_name (defScope s_is_name) := ⟨rfl, rfl, rfl, by decide +kernel, rfl, by decide +kernel, by decide +kernel⟩
abbrev s_is_text : Stmt := top 18
abbrev N_is_text : List Str := ["thing", "sign"]
abbrev P_is_text : List Str := ["thing"]
theorem sc_is_text : FnScope N_is_text P_is_text (defScope s_is_text) := ⟨rfl, rfl, rfl, by decide +kernel, rfl, by decide +kernel, by decide +kernel⟩
abbrev s_need_day : Stmt := top 19
abbrev N_need_day : List Str := ["thing"]
abbrev P_need_day : List Str := ["thing"]
theorem sc_need_day : FnScope N_need_day P_need_day (defScope s_need_day) := ⟨rfl, rfl, rfl, by decide +kernel, rfl, by decide +kernel, by decide +kernel⟩
abbrev s_are_answers : Stmt := top 24
abbrev N_are_answers : List Str := ["thing", "at", "one"]
abbrev P_are_answers : List Str := ["thing"]
theorem sc_are_answers : FnScope N_are_answers P_are_answers (defScope s_are_answers) := ⟨rfl, rfl, rfl, by decide +kernel, rfl, by decide +kernel, by decide +kernel⟩
abbrev s_is_of : Stmt := top 25
abbrev N_is_of : List Str := ["kin"]
abbrev P_is_of : List Str := ["kin"]
theorem sc_is_of : FnScope N_is_of P_is_of (defScope s_is_of) := ⟨rfl, rfl, rfl, by decide +kernel, rfl, by decide +kernel, by decide +kernel⟩
abbrev s_Q_init : Stmt := inClass (top 26) 0
abbrev N_Q_init : List Str := ["self", "name", "matter", "answers", "right", "toil", "marks", "kin"]
abbrev P_Q_init : List Str := ["self", "name", "matter", "answers", "right", "toil", "marks", "kin"]
theorem sc_Q_init : FnScope N_Q_init P_Q_init (defScope s_Q_init) := ⟨rfl, rfl, rfl, by decide +kernel, rfl, by decide +kernel, by decide +kernel⟩
abbrev s_Q_parts : Stmt := inClass (top 26) 1
abbrev N_Q_parts : List Str := ["self"]
abbrev P_Q_parts : List Str := ["self"]
theorem sc_Q_parts : FnScope N_Q_parts P_Q_parts (defScope s_Q_parts) := ⟨rfl, rfl, rfl, by decide +kernel, rfl, by decide +kernel, by decide +kernel⟩
abbrev s_Q_eq : Stmt := inClass (top 26) 2
abbrev N_Q_eq : List Str := ["self", "other"]
abbrev P_Q_eq : List Str := ["self", "other"]
theorem sc_Q_eq : FnScope N_Q_eq P_Q_eq (defScope s_Q_eq) := ⟨rfl, rfl, rfl, by decide +kernel, rfl, by decide +kernel, by decide +kernel⟩
abbrev s_need_question : Stmt := top 27
abbrev N_need_question : List Str := ["thing"]
abbrev P_need_question : List Str := ["thing"]
theorem sc_need_question : FnScope N_need_question P_need_question (defScope s_need_question) := ⟨rfl, rfl, rfl, by decide +kernel, rfl, by decide +kernel, by decide +kernel⟩
abbrev s_B_init : Stmt := inClass (top 30) 0
abbrev N_B_init : List Str := ["self", "questions", "question"]
abbrev P_B_init : List Str := ["self", "questions"]
theorem sc_B_init : FnScope N_B_init P_B_init (defScope s_B_init) := ⟨rfl, rfl, rfl, by decide +kernel, rfl, by decide +kernel, by decide +kernel⟩
abbrev s_B_need_there : Stmt := inClass (top 30) 1
abbrev N_B_need_there : List Str := ["self", "name"]
abbrev P_B_need_there : List Str := ["self", "name"]
theorem sc_B_need_there : FnScope N_B_need_there P_B_need_there (defScope s_B_need_there) := ⟨rfl, rfl, rfl, by decide +kernel, rfl, by decide +kernel, by decide +kernel⟩
abbrev s_B_added : Stmt := inClass (top 30) 2
abbrev N_B_added : List Str := ["self", "question"]
abbrev P_B_added : List Str := ["self", "question"]
theorem sc_B_added : FnScope N_B_added P_B_added (defScope s_B_added) := ⟨rfl, rfl, rfl, by decide +kernel, rfl, by decide +kernel, by decide +kernel⟩
abbrev s_B_put : Stmt := inClass (top 30) 3
abbrev N_B_put : List Str := ["self", "question"]
abbrev P_B_put : List Str := ["self", "question"]
theorem sc_B_put : FnScope N_B_put P_B_put (defScope s_B_put) := ⟨rfl, rfl, rfl, by decide +kernel, rfl, by decide +kernel, by decide +kernel⟩
abbrev s_B_taken_out : Stmt := inClass (top 30) 4
abbrev N_B_taken_out : List Str := ["self", "name", "why"]
abbrev P_B_taken_out : List Str := ["self", "name", "why"]
theorem sc_B_taken_out : FnScope N_B_taken_out P_B_taken_out (defScope s_B_taken_out) := ⟨rfl, rfl, rfl, by decide +kernel, rfl, by decide +kernel, by decide +kernel⟩
abbrev s_B_put_back : Stmt := inClass (top 30) 5
abbrev N_B_put_back : List Str := ["self", "name"]
abbrev P_B_put_back : List Str := ["self", "name"]
theorem sc_B_put_back : FnScope N_B_put_back P_B_put_back (defScope s_B_put_back) := ⟨rfl, rfl, rfl, by decide +kernel, rfl, by decide +kernel, by decide +kernel⟩
abbrev s_B_dropped : Stmt := inClass (top 30) 6
abbrev N_B_dropped : List Str := ["self", "name"]
abbrev P_B_dropped : List Str := ["self", "name"]
theorem sc_B_dropped : FnScope N_B_dropped P_B_dropped (defScope s_B_dropped) := ⟨rfl, rfl, rfl, by decide +kernel, rfl, by decide +kernel, by decide +kernel⟩
abbrev s_B_used_on : Stmt := inClass (top 30) 7
abbrev N_B_used_on : List Str := ["self", "name", "day"]
abbrev P_B_used_on : List Str := ["self", "name", "day"]
theorem sc_B_used_on : FnScope N_B_used_on P_B_used_on (defScope s_B_used_on) := ⟨rfl, rfl, rfl, by decide +kernel, rfl, by decide +kernel, by decide +kernel⟩
abbrev s_B_unused_on : Stmt := inClass (top 30) 8
abbrev N_B_unused_on : List Str := ["self", "name", "day", "one"]
abbrev P_B_unused_on : List Str := ["self", "name", "day"]
theorem sc_B_unused_on : FnScope N_B_unused_on P_B_unused_on (defScope s_B_unused_on) := ⟨rfl, rfl, rfl, by decide +kernel, rfl, by decide +kernel, by decide +kernel⟩
abbrev s_B_names : Stmt := inClass (top 30) 9
abbrev N_B_names : List Str := ["self"]
abbrev P_B_names : List Str := ["self"]
theorem sc_B_names : FnScope N_B_names P_B_names (defScope s_B_names) := ⟨rfl, rfl, rfl, by decide +kernel, rfl, by decide +kernel, by decide +kernel⟩
abbrev s_B_names_in : Stmt := inClass (top 30) 10
abbrev N_B_names_in : List Str := ["self", "name"]
abbrev P_B_names_in : List Str := ["self"]
theorem sc_B_names_in : FnScope N_B_names_in P_B_names_in (defScope s_B_names_in) := ⟨rfl, rfl, rfl, by decide +kernel, rfl, by decide +kernel, by decide +kernel⟩
abbrev s_B_outs : Stmt := inClass (top 30) 11
abbrev N_B_outs : List Str := ["self", "name"]
abbrev P_B_outs : List Str := ["self"]
theorem sc_B_outs : FnScope N_B_outs P_B_outs (defScope s_B_outs) := ⟨rfl, rfl, rfl, by decide +kernel, rfl, by decide +kernel, by decide +kernel⟩
abbrev s_B_question : Stmt := inClass (top 30) 12
abbrev N_B_question : List Str := ["self", "name"]
abbrev P_B_question : List Str := ["self", "name"]
theorem sc_B_question : FnScope N_B_question P_B_question (defScope s_B_question) := ⟨rfl, rfl, rfl, by decide +kernel, rfl, by decide +kernel, by decide +kernel⟩
abbrev s_B_days_of : Stmt := inClass (top 30) 13
abbrev N_B_days_of : List Str := ["self", "name"]
abbrev P_B_days_of : List Str := ["self", "name"]
theorem sc_B_days_of : FnScope N_B_days_of P_B_days_of (defScope s_B_days_of) := ⟨rfl, rfl, rfl, by decide +kernel, rfl, by decide +kernel, by decide +kernel⟩
abbrev s_B_last_day : Stmt := inClass (top 30) 14
abbrev N_B_last_day : List Str := ["self", "name", "day", "one"]
abbrev P_B_last_day : List Str := ["self", "name", "day"]
theorem sc_B_last_day : FnScope N_B_last_day P_B_last_day (defScope s_B_last_day) := ⟨rfl, rfl, rfl, by decide +kernel, rfl, by decide +kernel, by decide +kernel⟩
abbrev s_B_matters : Stmt := inClass (top 30) 15
abbrev N_B_matters : List Str := ["self", "many", "name", "matter"]
abbrev P_B_matters : List Str := ["self"]
theorem sc_B_matters : FnScope N_B_matters P_B_matters (defScope s_B_matters) := ⟨rfl, rfl, rfl, by decide +kernel, rfl, by decide +kernel, by decide +kernel⟩
abbrev s_B_rests : Stmt := inClass (top 30) 16
abbrev N_B_rests : List Str := ["self", "name", "day", "rest", "last"]
abbrev P_B_rests : List Str := ["self", "name", "day", "rest"]
theorem sc_B_rests : FnScope N_B_rests P_B_rests (defScope s_B_rests) := ⟨rfl, rfl, rfl, by decide +kernel, rfl, by decide +kernel, by decide +kernel⟩
abbrev s_B_found : Stmt := inClass (top 30) 17
abbrev N_B_found : List Str := ["self", "matter", "least", "most", "kin", "day", "rest", "told", "name", "one", "is_so"]
abbrev P_B_found : List Str := ["self", "matter", "least", "most", "kin", "day", "rest"]
theorem sc_B_found : FnScope N_B_found P_B_found (defScope s_B_found) := ⟨rfl, rfl, rfl, by decide +kernel, rfl, by decide +kernel, by decide +kernel⟩
abbrev s_B_standing : Stmt := inClass (top 30) 18
abbrev N_B_standing : List Str := ["self"]
abbrev P_B_standing : List Str := ["self"]
theorem sc_B_standing : FnScope N_B_standing P_B_standing (defScope s_B_standing) := ⟨rfl, rfl, rfl, by decide +kernel, rfl, by decide +kernel, by decide +kernel⟩
abbrev s_B_twin : Stmt := inClass (top 30) 19
abbrev N_B_twin : List Str := ["self", "found", "name"]
abbrev P_B_twin : List Str := ["self"]
theorem sc_B_twin : FnScope N_B_twin P_B_twin (defScope s_B_twin) := ⟨rfl, rfl, rfl, by decide +kernel, rfl, by decide +kernel, by decide +kernel⟩
abbrev s_B_eq : Stmt := inClass (top 30) 20
abbrev N_B_eq : List Str := ["self", "other"]
abbrev P_B_eq : List Str := ["self", "other"]
theorem sc_B_eq : FnScope N_B_eq P_B_eq (defScope s_B_eq) := ⟨rfl, rfl, rfl, by decide +kernel, rfl, by decide +kernel, by decide +kernel⟩
abbrev s_B_len : Stmt := inClass (top 30) 21
abbrev N_B_len : List Str := ["self"]
abbrev P_B_len : List Str := ["self"]
theorem sc_B_len : FnScope N_B_len P_B_len (defScope s_B_len) := ⟨rfl, rfl, rfl, by decide +kernel, rfl, by decide +kernel, by decide +kernel⟩
abbrev s_need_bank : Stmt := top 31
abbrev N_need_bank : List Str := ["thing"]
abbrev P_need_bank : List Str := ["thing"]
theorem sc_need_bank : FnScope N_need_bank P_need_bank (defScope s_need_bank) := ⟨rfl, rfl, rfl, by decide +kernel, rfl, by decide +kernel, by decide +kernel⟩
abbrev s_resting : Stmt := top 32
abbrev N_resting : List Str := ["bank", "day", "rest", "name"]
abbrev P_resting : List Str := ["bank", "day", "rest"]
theorem sc_resting : FnScope N_resting P_resting (defScope s_resting) := ⟨rfl, rfl, rfl, by decide +kernel, rfl, by decide +kernel, by decide +kernel⟩
abbrev s_w_mixed : Stmt := top 34
abbrev N_w_mixed : List Str := ["_law_cell", "_law_k", "_law_number"]
abbrev P_w_mixed : List Str := ["_law_cell", "_law_k"]
theorem sc_w_mixed : FnScope N_w_mixed P_w_mixed (defScope s_w_mixed) := ⟨rfl, rfl, rfl, by decide +kernel, rfl, by decide +kernel, by decide +kernel⟩
abbrev s_w_begun : Stmt := top 35
abbrev N_w_begun : List Str := ["_law_script", "_law_k", "_law_cell", "_law_other"]
abbrev P_w_begun : List Str := ["_law_script", "_law_k"]
theorem sc_w_begun : FnScope N_w_begun P_w_begun (defScope s_w_begun) := ⟨rfl, rfl, rfl, by decide +kernel, rfl, by decide +kernel, by decide +kernel⟩
abbrev s_w_take : Stmt := top 36
abbrev N_w_take : List Str := ["_law_state", "_law_many", "_law_found", "_law_number"]
abbrev P_w_take : List Str := ["_law_state", "_law_many"]
theorem sc_w_take : FnScope N_w_take P_w_take (defScope s_w_take) := ⟨rfl, rfl, rfl, by decide +kernel, rfl, by decide +kernel, by decide +kernel⟩
abbrev s_w_names : Stmt := top 37
abbrev N_w_names : List Str := ["_law_state", "_law_many", "_law_letters", "_law_own", "_law_way", "_law_first", "_law_size", "_law_word", "_law_found", "_law_k", "_law_alike"]
abbrev P_w_names : List Str := ["_law_state", "_law_many"]
theorem sc_w_names : FnScope N_w_names P_w_names (defScope s_w_names) := ⟨rfl, rfl, rfl, by decide +kernel, rfl, by decide +kernel, by decide +kernel⟩
abbrev s_w_row : Stmt := top 38
abbrev N_w_row : List Str := ["_law_state", "_law_label", "_law_kinds", "_law_some", "_law_many", "_law_first", "_law_stride", "_law_texts", "_law_clan", "_law_field", "_law_hit", "_law_k"]
abbrev P_w_row : List Str := ["_law_state", "_law_label", "_law_kinds"]
theorem sc_w_row : FnScope N_w_row P_w_row (defScope s_w_row) := ⟨rfl, rfl, rfl, by decide +kernel, rfl, by decide +kernel, by decide +kernel⟩
abbrev s_w_made : Stmt := top 39
abbrev N_w_made : List Str := ["_law_row_here"]
abbrev P_w_made : List Str := ["_law_row_here"]
theorem sc_w_made : FnScope N_w_made P_w_made (defScope s_w_made) := ⟨rfl, rfl, rfl, by decide +kernel, rfl, by decide +kernel, by decide +kernel⟩
abbrev s_w_parts : Stmt := top 40
abbrev N_w_parts : List Str := ["_law_one"]
abbrev P_w_parts : List Str := ["_law_one"]
theorem sc_w_parts : FnScope N_w_parts P_w_parts (defScope s_w_parts) := ⟨rfl, rfl, rfl, by decide +kernel, rfl, by decide +kernel, by decide +kernel⟩
abbrev s_w_led : Stmt := top 41
abbrev N_w_led : List Str := ["_law_state", "_law_kinds", "_law_labels", "_law_turns", "_law_bank", "_law_turn", "_law_way", "_law_label", "_law_when", "_law_one", "_law_reason"]
abbrev P_w_led : List Str := ["_law_state", "_law_kinds", "_law_labels", "_law_turns"]
theorem sc_w_led : FnScope N_w_led P_w_led (defScope s_w_led) := ⟨rfl, rfl, rfl, by decide +kernel, rfl, by decide +kernel, by decide +kernel⟩
abbrev s_w_back_right : Stmt := top 42
abbrev N_w_back_right : List Str := ["_law_bank", "_law_label", "_law_when", "_law_row_here", "_law_kept", "_law_days", "_law_is_in", "_law_one"]
abbrev P_w_back_right : List Str := ["_law_bank", "_law_label", "_law_when", "_law_row_here"]
theorem sc_w_back_right : FnScope N_w_back_right P_w_back_right (defScope s_w_back_right) := ⟨rfl, rfl, rfl, by decide +kernel, rfl, by decide +kernel, by decide +kernel⟩
abbrev s_w_parts_right : Stmt := top 43
abbrev N_w_parts_right : List Str := ["_law_bank", "_law_kinds", "_law_when", "_law_span", "_law_here", "_law_by_field", "_law_told", "_law_field", "_law_mark", "_law_some", "_law_clan", "_law_still", "_law_one", "_law_days"]
abbrev P_w_parts_right : List Str := ["_law_bank", "_law_kinds", "_law_when", "_law_span"]
theorem sc_w_parts_right : FnScope N_w_parts_right P_w_parts_right (defScope s_w_parts_right) := ⟨rfl, rfl, rfl, by decide +kernel, rfl, by decide +kernel, by decide +kernel⟩
abbrev s_w_called : Stmt := top 44
abbrev N_w_called : List Str := ["_law_bank", "_law_calls", "_law_other", "_law_one", "_law_row_here", "_law_when", "_law_reason"]
abbrev P_w_called : List Str := ["_law_bank", "_law_calls"]
theorem sc_w_called : FnScope N_w_called P_w_called (defScope s_w_called) := ⟨rfl, rfl, rfl, by decide +kernel, rfl, by decide +kernel, by decide +kernel⟩
abbrev s_w_calls_right : Stmt := top 45
abbrev N_w_calls_right : List Str := ["_law_bank", "_law_when", "_law_span", "_law_words", "_law_calls", "_law_other", "_law_rows", "_law_back", "_law_some", "_law_others", "_law_one", "_law_reason"]
abbrev P_w_calls_right : List Str := ["_law_bank", "_law_when", "_law_span"]
theorem sc_w_calls_right : FnScope N_w_calls_right P_w_calls_right (defScope s_w_calls_right) := ⟨rfl, rfl, rfl, by decide +kernel, rfl, by decide +kernel, by decide +kernel⟩
abbrev s_law : Stmt := top 46
abbrev N_law : List Str := ["_law_script", "_law_k", "_law_state", "_law_many", "_law_turns", "_law_kinds", "_law_labels", "_law_bank", "_law_turn", "_law_label", "_law_when", "_law_span"]
abbrev P_law : List Str := ["_law_script"]
theorem sc_law : FnScope N_law P_law (defScope s_law) := ⟨rfl, rfl, rfl, by decide +kernel, rfl, by decide +kernel, by decide +kernel⟩
/-- where things stand -/
structure Ads where
  cQ : Addr
  cB : Addr
  a_is_whole : Addr
  d_is_whole : FuncData
  a_is_name : Addr
  d_is_name : FuncData
  a_is_text : Addr
  d_is_text : FuncData
  a_need_day : Addr
  d_need_day : FuncData
  a_are_answers : Addr
  d_are_answers : FuncData
  a_is_of : Addr
  d_is_of : FuncData
  a_Q_init : Addr
  d_Q_init : FuncData
  a_Q_parts : Addr
  d_Q_parts : FuncData
  a_Q_eq : Addr
  d_Q_eq : FuncData
  a_need_question : Addr
  d_need_question : FuncData
  a_B_init : Addr
  d_B_init : FuncData
  a_B_need_there : Addr
  d_B_need_there : FuncData
  a_B_added : Addr
  d_B_added : FuncData
  a_B_put : Addr
  d_B_put : FuncData
  a_B_taken_out : Addr
  d_B_taken_out : FuncData
  a_B_put_back : Addr
  d_B_put_back : FuncData
  a_B_dropped : Addr
  d_B_dropped : FuncData
  a_B_used_on : Addr
  d_B_used_on : FuncData
  a_B_unused_on : Addr
  d_B_unused_on : FuncData
  a_B_names : Addr
  d_B_names : FuncData
  a_B_names_in : Addr
  d_B_names_in : FuncData
  a_B_outs : Addr
  d_B_outs : FuncData
  a_B_question : Addr
  d_B_question : FuncData
  a_B_days_of : Addr
  d_B_days_of : FuncData
  a_B_last_day : Addr
  d_B_last_day : FuncData
  a_B_matters : Addr
  d_B_matters : FuncData
  a_B_rests : Addr
  d_B_rests : FuncData
  a_B_found : Addr
  d_B_found : FuncData
  a_B_standing : Addr
  d_B_standing : FuncData
  a_B_twin : Addr
  d_B_twin : FuncData
  a_B_eq : Addr
  d_B_eq : FuncData
  a_B_len : Addr
  d_B_len : FuncData
  a_need_bank : Addr
  d_need_bank : FuncData
  a_resting : Addr
  d_resting : FuncData
  a_w_mixed : Addr
  d_w_mixed : FuncData
  a_w_begun : Addr
  d_w_begun : FuncData
  a_w_take : Addr
  d_w_take : FuncData
  a_w_names : Addr
  d_w_names : FuncData
  a_w_row : Addr
  d_w_row : FuncData
  a_w_made : Addr
  d_w_made : FuncData
  a_w_parts : Addr
  d_w_parts : FuncData
  a_w_led : Addr
  d_w_led : FuncData
  a_w_back_right : Addr
  d_w_back_right : FuncData
  a_w_parts_right : Addr
  d_w_parts_right : FuncData
  a_w_called : Addr
  d_w_called : FuncData
  a_w_calls_right : Addr
  d_w_calls_right : FuncData
  a_law : Addr
  d_law : FuncData
abbrev FD (K : PySem.W.Frag) (x qual : Str) (st : Stmt) (dvs : List V) (f : Addr) (fd : FuncData) : Prop := FunD K x qual (defArgs st) (defBody st) (defScope st) dvs [] f fd
structure Txt (K : PySem.W.Frag) (mg : Str → Option Value) (A : Ads) : Prop where
  F_is_whole : FD K "is_whole" "is_whole" s_is_whole [.int 0, .int 9999] A.a_is_whole A.d_is_whole
  m_is_whole : mg "is_whole" = some (.ref A.a_is_whole)
  F_is_name : FD K "is_name" "is_name" s_is_name [] A.a_is_name A.d_is_name
  m_is_name : mg "is_name" = some (.ref A.a_is_name)
  F_is_text : FD K "is_text" "is_text" s_is_text [] A.a_is_text A.d_is_text
  m_is_text : mg "is_text" = some (.ref A.a_is_text)
  F_need_day : FD K "need_day" "need_day" s_need_day [] A.a_need_day A.d_need_day
  m_need_day : mg "need_day" = some (.ref A.a_need_day)
  F_are_answers : FD K "are_answers" "are_answers" s_are_answers [] A.a_are_answers A.d_are_answers
  m_are_answers : mg "are_answers" = some (.ref A.a_are_answers)
  F_is_of : FD K "is_of" "is_of" s_is_of [] A.a_is_of A.d_is_of
  m_is_of : mg "is_of" = some (.ref A.a_is_of)
  F_Q_init : FD K "__init__" "Question.__init__" s_Q_init [.int 0, .int 5, .int 1, .str ""] A.a_Q_init A.d_Q_init
  F_Q_parts : FD K "parts" "Question.parts" s_Q_parts [] A.a_Q_parts A.d_Q_parts
  M_Q_parts : Meth K A.cQ "parts" A.a_Q_parts
  F_Q_eq : FD K "__eq__" "Question.__eq__" s_Q_eq [] A.a_Q_eq A.d_Q_eq
  F_need_question : FD K "need_question" "need_question" s_need_question [] A.a_need_question A.d_need_question
  m_need_question : mg "need_question" = some (.ref A.a_need_question)
  F_B_init : FD K "__init__" "Bank.__init__" s_B_init [.non] A.a_B_init A.d_B_init
  F_B_need_there : FD K "need_there" "Bank.need_there" s_B_need_there [] A.a_B_need_there A.d_B_need_there
  M_B_need_there : Meth K A.cB "need_there" A.a_B_need_there
  F_B_added : FD K "added" "Bank.added" s_B_added [] A.a_B_added A.d_B_added
  M_B_added : Meth K A.cB "added" A.a_B_added
  F_B_put : FD K "put" "Bank.put" s_B_put [] A.a_B_put A.d_B_put
  M_B_put : Meth K A.cB "put" A.a_B_put
  F_B_taken_out : FD K "taken_out" "Bank.taken_out" s_B_taken_out [.str "wrong"] A.a_B_taken_out A.d_B_taken_out
  M_B_taken_out : Meth K A.cB "taken_out" A.a_B_taken_out
  F_B_put_back : FD K "put_back" "Bank.put_back" s_B_put_back [] A.a_B_put_back A.d_B_put_back
  M_B_put_back : Meth K A.cB "put_back" A.a_B_put_back
  F_B_dropped : FD K "dropped" "Bank.dropped" s_B_dropped [] A.a_B_dropped A.d_B_dropped
  M_B_dropped : Meth K A.cB "dropped" A.a_B_dropped
  F_B_used_on : FD K "used_on" "Bank.used_on" s_B_used_on [] A.a_B_used_on A.d_B_used_on
  M_B_used_on : Meth K A.cB "used_on" A.a_B_used_on
  F_B_unused_on : FD K "unused_on" "Bank.unused_on" s_B_unused_on [] A.a_B_unused_on A.d_B_unused_on
  M_B_unused_on : Meth K A.cB "unused_on" A.a_B_unused_on
  F_B_names : FD K "names" "Bank.names" s_B_names [] A.a_B_names A.d_B_names
  M_B_names : Meth K A.cB "names" A.a_B_names
  F_B_names_in : FD K "names_in" "Bank.names_in" s_B_names_in [] A.a_B_names_in A.d_B_names_in
  M_B_names_in : Meth K A.cB "names_in" A.a_B_names_in
  F_B_outs : FD K "outs" "Bank.outs" s_B_outs [] A.a_B_outs A.d_B_outs
  M_B_outs : Meth K A.cB "outs" A.a_B_outs
  F_B_question : FD K "question" "Bank.question" s_B_question [] A.a_B_question A.d_B_question
  M_B_question : Meth K A.cB "question" A.a_B_question
  F_B_days_of : FD K "days_of" "Bank.days_of" s_B_days_of [] A.a_B_days_of A.d_B_days_of
  M_B_days_of : Meth K A.cB "days_of" A.a_B_days_of
  F_B_last_day : FD K "last_day" "Bank.last_day" s_B_last_day [.int 9999] A.a_B_last_day A.d_B_last_day
  M_B_last_day : Meth K A.cB "last_day" A.a_B_last_day
  F_B_matters : FD K "matters" "Bank.matters" s_B_matters [] A.a_B_matters A.d_B_matters
  M_B_matters : Meth K A.cB "matters" A.a_B_matters
  F_B_rests : FD K "rests" "Bank.rests" s_B_rests [] A.a_B_rests A.d_B_rests
  M_B_rests : Meth K A.cB "rests" A.a_B_rests
  F_B_found : FD K "found" "Bank.found" s_B_found [.str "", .int 1, .int 9, .str "", .non, .int 0] A.a_B_found A.d_B_found
  M_B_found : Meth K A.cB "found" A.a_B_found
  F_B_standing : FD K "standing" "Bank.standing" s_B_standing [] A.a_B_standing A.d_B_standing
  M_B_standing : Meth K A.cB "standing" A.a_B_standing
  F_B_twin : FD K "twin" "Bank.twin" s_B_twin [] A.a_B_twin A.d_B_twin
  M_B_twin : Meth K A.cB "twin" A.a_B_twin
  F_B_eq : FD K "__eq__" "Bank.__eq__" s_B_eq [] A.a_B_eq A.d_B_eq
  F_B_len : FD K "__len__" "Bank.__len__" s_B_len [] A.a_B_len A.d_B_len
  F_need_bank : FD K "need_bank" "need_bank" s_need_bank [] A.a_need_bank A.d_need_bank
  m_need_bank : mg "need_bank" = some (.ref A.a_need_bank)
  F_resting : FD K "resting" "resting" s_resting [] A.a_resting A.d_resting
  m_resting : mg "resting" = some (.ref A.a_resting)
  F_w_mixed : FD K "_law_mixed" "_law_mixed" s_w_mixed [] A.a_w_mixed A.d_w_mixed
  m_w_mixed : mg "_law_mixed" = some (.ref A.a_w_mixed)
  F_w_begun : FD K "_law_begun" "_law_begun" s_w_begun [] A.a_w_begun A.d_w_begun
  m_w_begun : mg "_law_begun" = some (.ref A.a_w_begun)
  F_w_take : FD K "_law_take" "_law_take" s_w_take [] A.a_w_take A.d_w_take
  m_w_take : mg "_law_take" = some (.ref A.a_w_take)
  F_w_names : FD K "_law_names" "_law_names" s_w_names [] A.a_w_names A.d_w_names
  m_w_names : mg "_law_names" = some (.ref A.a_w_names)
  F_w_row : FD K "_law_row" "_law_row" s_w_row [] A.a_w_row A.d_w_row
  m_w_row : mg "_law_row" = some (.ref A.a_w_row)
  F_w_made : FD K "_law_made" "_law_made" s_w_made [] A.a_w_made A.d_w_made
  m_w_made : mg "_law_made" = some (.ref A.a_w_made)
  F_w_parts : FD K "_law_parts" "_law_parts" s_w_parts [] A.a_w_parts A.d_w_parts
  m_w_parts : mg "_law_parts" = some (.ref A.a_w_parts)
  F_w_led : FD K "_law_led" "_law_led" s_w_led [] A.a_w_led A.d_w_led
  m_w_led : mg "_law_led" = some (.ref A.a_w_led)
  F_w_back_right : FD K "_law_back_right" "_law_back_right" s_w_back_right [] A.a_w_back_right A.d_w_back_right
  m_w_back_right : mg "_law_back_right" = some (.ref A.a_w_back_right)
  F_w_parts_right : FD K "_law_parts_right" "_law_parts_right" s_w_parts_right [] A.a_w_parts_right A.d_w_parts_right
  m_w_parts_right : mg "_law_parts_right" = some (.ref A.a_w_parts_right)
  F_w_called : FD K "_law_called" "_law_called" s_w_called [] A.a_w_called A.d_w_called
  m_w_called : mg "_law_called" = some (.ref A.a_w_called)
  F_w_calls_right : FD K "_law_calls_right" "_law_calls_right" s_w_calls_right [] A.a_w_calls_right A.d_w_calls_right
  m_w_calls_right : mg "_law_calls_right" = some (.ref A.a_w_calls_right)
  F_law : FD K "law" "law" s_law [] A.a_law A.d_law
  m_law : mg "law" = some (.ref A.a_law)
  clQ : Cls K A.cQ
  clB : Cls K A.cB
  mkQ : Mk K A.cQ A.a_Q_init
  mkB : Mk K A.cB A.a_B_init
  m_Question : mg "Question" = some (.ref A.cQ)
  m_Bank : mg "Bank" = some (.ref A.cB)
  eqQ : PySem.W.findIn K (.ref A.cQ) "__eq__" = some (some (.ref A.a_Q_eq))
  eqQf : PySem.W.isFn K (.ref A.a_Q_eq) = true
  eqB : PySem.W.findIn K (.ref A.cB) "__eq__" = some (some (.ref A.a_B_eq))
  eqBf : PySem.W.isFn K (.ref A.a_B_eq) = true
  neB : NoNe K A.cB A.a_B_eq
  lenB : PySem.W.findIn K (.ref A.cB) "__len__" = some (some (.ref A.a_B_len))
  lenBf : PySem.W.isFn K (.ref A.a_B_len) = true
  clsQ : PySem.W.findIn K (.ref A.cQ) "__class__" = some (some (.builtin "object.__class__"))
  clsB : PySem.W.findIn K (.ref A.cB) "__class__" = some (some (.builtin "object.__class__"))
  getCls : PySem.W.specialIn K (.builtin "object.__class__") "__get__" = some (some (.builtin "getset_descriptor.__get__"))
  takesCls : PySem.W.takesIn K (.builtin "object.__class__") = some true
  mroQ : PySem.W.mroIn K A.cQ (.type "object") = some true
  mroB : PySem.W.mroIn K A.cB (.type "object") = some true
  isQ : PySem.W.kitOne K (.ref A.cQ) (.ref A.cQ) = some true
  isB : PySem.W.kitOne K (.ref A.cB) (.ref A.cB) = some true
  nQ_name : NoAttr K A.cQ "name"
  nQ_matter : NoAttr K A.cQ "matter"
  nQ_answers : NoAttr K A.cQ "answers"
  nQ_right : NoAttr K A.cQ "right"
  nQ_toil : NoAttr K A.cQ "toil"
  nQ_marks : NoAttr K A.cQ "marks"
  nQ_kin : NoAttr K A.cQ "kin"
  nB_kept_here : NoAttr K A.cB "kept_here"
  nB_out_here : NoAttr K A.cB "out_here"
  nB_days_here : NoAttr K A.cB "days_here"
  g_LETTERS : ∃ t, mg "LETTERS" = some (.str (signsOf (top 12)) t)
  g_SIGNS : ∃ t, mg "SIGNS" = some (.str (signsOf (top 13)) t)
  g_LONGEST_NAME : ∃ t, mg "LONGEST_NAME" = some (.int 8 t)
  g_LONGEST_TEXT : ∃ t, mg "LONGEST_TEXT" = some (.int 30 t)
  g_FEWEST : ∃ t, mg "FEWEST" = some (.int 2 t)
  g_MOST : ∃ t, mg "MOST" = some (.int 6 t)
  g_TOP : ∃ t, mg "TOP" = some (.int 9 t)
  g_MOST_QUESTIONS : ∃ t, mg "MOST_QUESTIONS" = some (.int 60 t)
  m_isinstance : mg "isinstance" = none
  m_len : mg "len" = none
  m_all : mg "all" = none
  m_sorted : mg "sorted" = none
  m_max : mg "max" = none
  m_min : mg "min" = none
  m_sum : mg "sum" = none
  m_repr : mg "repr" = none
  m_int : mg "int" = none
  m_bool : mg "bool" = none
  m_str : mg "str" = none
  m_list : mg "list" = none
  m_tuple : mg "tuple" = none
  m_dict : mg "dict" = none
  m_zip : mg "zip" = none
  m_enumerate : mg "enumerate" = none
  m_range : mg "range" = none
section
variable {K : PySem.W.Frag} {mg : Str → Option Value} {A : Ads}
theorem Txt.b_is_name (T : Txt K mg A) : Binds K A.d_is_name P_is_name [] := T.F_is_name.bindsN fun _ _ _ _ _ _ us hl => match us, hl with | [_], _ => rfl
theorem Txt.b_is_text (T : Txt K mg A) : Binds K A.d_is_text P_is_text [] := T.F_is_text.bindsN fun _ _ _ _ _ _ us hl => match us, hl with | [_], _ => rfl
theorem Txt.b_need_day (T : Txt K mg A) : Binds K A.d_need_day P_need_day [] := T.F_need_day.bindsN fun _ _ _ _ _ _ us hl => match us, hl with | [_], _ => rfl
theorem Txt.b_are_answers (T : Txt K mg A) : Binds K A.d_are_answers P_are_answers [] := T.F_are_answers.bindsN fun _ _ _ _ _ _ us hl => match us, hl with | [_], _ => rfl
theorem Txt.b_is_of (T : Txt K mg A) : Binds K A.d_is_of P_is_of [] := T.F_is_of.bindsN fun _ _ _ _ _ _ us hl => match us, hl with | [_], _ => rfl
theorem Txt.b_Q_parts (T : Txt K mg A) : Binds K A.d_Q_parts P_Q_parts [] := T.F_Q_parts.bindsN fun _ _ _ _ _ _ us hl => match us, hl with | [_], _ => rfl
theorem Txt.b_Q_eq (T : Txt K mg A) : Binds K A.d_Q_eq P_Q_eq [] := T.F_Q_eq.bindsN fun _ _ _ _ _ _ us hl => match us, hl with | [_, _], _ => rfl
theorem Txt.b_need_question (T : Txt K mg A) : Binds K A.d_need_question P_need_question [] := T.F_need_question.bindsN fun _ _ _ _ _ _ us hl => match us, hl with | [_], _ => rfl
theorem Txt.b_B_need_there (T : Txt K mg A) : Binds K A.d_B_need_there P_B_need_there [] := T.F_B_need_there.bindsN fun _ _ _ _ _ _ us hl => match us, hl with | [_, _], _ => rfl
theorem Txt.b_B_added (T : Txt K mg A) : Binds K A.d_B_added P_B_added [] := T.F_B_added.bindsN fun _ _ _ _ _ _ us hl => match us, hl with | [_, _], _ => rfl
theorem Txt.b_B_put (T : Txt K mg A) : Binds K A.d_B_put P_B_put [] := T.F_B_put.bindsN fun _ _ _ _ _ _ us hl => match us, hl with | [_, _], _ => rfl
theorem Txt.b_B_put_back (T : Txt K mg A) : Binds K A.d_B_put_back P_B_put_back [] := T.F_B_put_back.bindsN fun _ _ _ _ _ _ us hl => match us, hl with | [_, _], _ => rfl
theorem Txt.b_B_dropped (T : Txt K mg A) : Binds K A.d_B_dropped P_B_dropped [] := T.F_B_dropped.bindsN fun _ _ _ _ _ _ us hl => match us, hl with | [_, _], _ => rfl
theorem Txt.b_B_used_on (T : Txt K mg A) : Binds K A.d_B_used_on P_B_used_on [] := T.F_B_used_on.bindsN fun _ _ _ _ _ _ us hl => match us, hl with | [_, _, _], _ => rfl
theorem Txt.b_B_unused_on (T : Txt K mg A) : Binds K A.d_B_unused_on P_B_unused_on [] := T.F_B_unused_on.bindsN fun _ _ _ _ _ _ us hl => match us, hl with | [_, _, _], _ => rfl
theorem Txt.b_B_names (T : Txt K mg A) : Binds K A.d_B_names P_B_names [] := T.F_B_names.bindsN fun _ _ _ _ _ _ us hl => match us, hl with | [_], _ => rfl
theorem Txt.b_B_names_in (T : Txt K mg A) : Binds K A.d_B_names_in P_B_names_in [] := T.F_B_names_in.bindsN fun _ _ _ _ _ _ us hl => match us, hl with | [_], _ => rfl
theorem Txt.b_B_outs (T : Txt K mg A) : Binds K A.d_B_outs P_B_outs [] := T.F_B_outs.bindsN fun _ _ _ _ _ _ us hl => match us, hl with | [_], _ => rfl
theorem Txt.b_B_question (T : Txt K mg A) : Binds K A.d_B_question P_B_question [] := T.F_B_question.bindsN fun _ _ _ _ _ _ us hl => match us, hl with | [_, _], _ => rfl
theorem Txt.b_B_days_of (T : Txt K mg A) : Binds K A.d_B_days_of P_B_days_of [] := T.F_B_days_of.bindsN fun _ _ _ _ _ _ us hl => match us, hl with | [_, _], _ => rfl
theorem Txt.b_B_matters (T : Txt K mg A) : Binds K A.d_B_matters P_B_matters [] := T.F_B_matters.bindsN fun _ _ _ _ _ _ us hl => match us, hl with | [_], _ => rfl
theorem Txt.b_B_rests (T : Txt K mg A) : Binds K A.d_B_rests P_B_rests [] := T.F_B_rests.bindsN fun _ _ _ _ _ _ us hl => match us, hl with | [_, _, _, _], _ => rfl
theorem Txt.b_B_standing (T : Txt K mg A) : Binds K A.d_B_standing P_B_standing [] := T.F_B_standing.bindsN fun _ _ _ _ _ _ us hl => match us, hl with | [_], _ => rfl
theorem Txt.b_B_twin (T : Txt K mg A) : Binds K A.d_B_twin P_B_twin [] := T.F_B_twin.bindsN fun _ _ _ _ _ _ us hl => match us, hl with | [_], _ => rfl
theorem Txt.b_B_eq (T : Txt K mg A) : Binds K A.d_B_eq P_B_eq [] := T.F_B_eq.bindsN fun _ _ _ _ _ _ us hl => match us, hl with | [_, _], _ => rfl
theorem Txt.b_B_len (T : Txt K mg A) : Binds K A.d_B_len P_B_len [] := T.F_B_len.bindsN fun _ _ _ _ _ _ us hl => match us, hl with | [_], _ => rfl
theorem Txt.b_need_bank (T : Txt K mg A) : Binds K A.d_need_bank P_need_bank [] := T.F_need_bank.bindsN fun _ _ _ _ _ _ us hl => match us, hl with | [_], _ => rfl
theorem Txt.b_resting (T : Txt K mg A) : Binds K A.d_resting P_resting [] := T.F_resting.bindsN fun _ _ _ _ _ _ us hl => match us, hl with | [_, _, _], _ => rfl
theorem Txt.b_w_mixed (T : Txt K mg A) : Binds K A.d_w_mixed P_w_mixed [] := T.F_w_mixed.bindsN fun _ _ _ _ _ _ us hl => match us, hl with | [_, _], _ => rfl
theorem Txt.b_w_begun (T : Txt K mg A) : Binds K A.d_w_begun P_w_begun [] := T.F_w_begun.bindsN fun _ _ _ _ _ _ us hl => match us, hl with | [_, _], _ => rfl
theorem Txt.b_w_take (T : Txt K mg A) : Binds K A.d_w_take P_w_take [] := T.F_w_take.bindsN fun _ _ _ _ _ _ us hl => match us, hl with | [_, _], _ => rfl
theorem Txt.b_w_names (T : Txt K mg A) : Binds K A.d_w_names P_w_names [] := T.F_w_names.bindsN fun _ _ _ _ _ _ us hl => match us, hl with | [_, _], _ => rfl
theorem Txt.b_w_row (T : Txt K mg A) : Binds K A.d_w_row P_w_row [] := T.F_w_row.bindsN fun _ _ _ _ _ _ us hl => match us, hl with | [_, _, _], _ => rfl
theorem Txt.b_w_made (T : Txt K mg A) : Binds K A.d_w_made P_w_made [] := T.F_w_made.bindsN fun _ _ _ _ _ _ us hl => match us, hl with | [_], _ => rfl
theorem Txt.b_w_parts (T : Txt K mg A) : Binds K A.d_w_parts P_w_parts [] := T.F_w_parts.bindsN fun _ _ _ _ _ _ us hl => match us, hl with | [_], _ => rfl
theorem Txt.b_w_led (T : Txt K mg A) : Binds K A.d_w_led P_w_led [] := T.F_w_led.bindsN fun _ _ _ _ _ _ us hl => match us, hl with | [_, _, _, _], _ => rfl
theorem Txt.b_w_back_right (T : Txt K mg A) : Binds K A.d_w_back_right P_w_back_right [] := T.F_w_back_right.bindsN fun _ _ _ _ _ _ us hl => match us, hl with | [_, _, _, _], _ => rfl
theorem Txt.b_w_parts_right (T : Txt K mg A) : Binds K A.d_w_parts_right P_w_parts_right [] := T.F_w_parts_right.bindsN fun _ _ _ _ _ _ us hl => match us, hl with | [_, _, _, _], _ => rfl
theorem Txt.b_w_called (T : Txt K mg A) : Binds K A.d_w_called P_w_called [] := T.F_w_called.bindsN fun _ _ _ _ _ _ us hl => match us, hl with | [_, _], _ => rfl
theorem Txt.b_w_calls_right (T : Txt K mg A) : Binds K A.d_w_calls_right P_w_calls_right [] := T.F_w_calls_right.bindsN fun _ _ _ _ _ _ us hl => match us, hl with | [_, _, _], _ => rfl
theorem Txt.b_law (T : Txt K mg A) : Binds K A.d_law P_law [] := T.F_law.bindsN fun _ _ _ _ _ _ us hl => match us, hl with | [_], _ => rfl
theorem Txt.bd_is_whole1 (T : Txt K mg A) : ∃ ds, Vals [.int 0, .int 9999] ds ∧ Binds K A.d_is_whole P_is_whole ds := T.F_is_whole.binds1 1 0 (fun z => nomatch z) rfl fun _ _ _ _ _ _ _ us its h1 h2 => match us, its, h1, h2 with | [_], [_, _], _, _ => ⟨_, rfl, rfl⟩
theorem Txt.bd_B_found2 (T : Txt K mg A) : ∃ ds, Vals [.int 1, .int 9, .str "", .non, .int 0] ds ∧ Binds K A.d_B_found P_B_found ds := T.F_B_found.binds1 2 1 (fun z => nomatch z) rfl fun _ _ _ _ _ _ _ us its h1 h2 => match us, its, h1, h2 with | [_, _], [_, _, _, _, _, _], _, _ => ⟨_, rfl, rfl⟩
theorem Txt.bd_B_init1 (T : Txt K mg A) : ∃ ds, Vals [.non] ds ∧ Binds K A.d_B_init P_B_init ds := T.F_B_init.binds1 1 0 (fun z => nomatch z) rfl fun _ _ _ _ _ _ _ us its h1 h2 => match us, its, h1, h2 with | [_], [_], _, _ => ⟨_, rfl, rfl⟩
theorem Txt.bd_B_init2 (T : Txt K mg A) : ∃ ds, Vals [] ds ∧ Binds K A.d_B_init P_B_init ds := T.F_B_init.binds1 2 1 (fun z => nomatch z) rfl fun _ _ _ _ _ _ _ us its h1 h2 => match us, its, h1, h2 with | [_, _], [_], _, _ => ⟨_, rfl, rfl⟩
theorem Txt.bd_B_last_day2 (T : Txt K mg A) : ∃ ds, Vals [.int 9999] ds ∧ Binds K A.d_B_last_day P_B_last_day ds := T.F_B_last_day.binds1 2 0 (fun z => nomatch z) rfl fun _ _ _ _ _ _ _ us its h1 h2 => match us, its, h1, h2 with | [_, _], [_], _, _ => ⟨_, rfl, rfl⟩
theorem Txt.bd_B_last_day3 (T : Txt K mg A) : ∃ ds, Vals [] ds ∧ Binds K A.d_B_last_day P_B_last_day ds := T.F_B_last_day.binds1 3 1 (fun z => nomatch z) rfl fun _ _ _ _ _ _ _ us its h1 h2 => match us, its, h1, h2 with | [_, _, _], [_], _, _ => ⟨_, rfl, rfl⟩
theorem Txt.bd_B_taken_out2 (T : Txt K mg A) : ∃ ds, Vals [.str "wrong"] ds ∧ Binds K A.d_B_taken_out P_B_taken_out ds := T.F_B_taken_out.binds1 2 0 (fun z => nomatch z) rfl fun _ _ _ _ _ _ _ us its h1 h2 => match us, its, h1, h2 with | [_, _], [_], _, _ => ⟨_, rfl, rfl⟩
def g_is_whole_1_most {α : Type} (us its ws : List α) : List α := ((us ++ (its.drop 0).take 1) ++ (ws.drop 0).take 1)
theorem Txt.bk_is_whole_1_most (T : Txt K mg A) : ∃ its : List Value, KBn K A.d_is_whole P_is_whole 1 ["most"] (fun us ws => g_is_whole_1_most us its ws) (fun vs zs => g_is_whole_1_most vs [.int 0, .int 9999] zs) :=
  T.F_is_whole.kbindsD 1 ["most"] g_is_whole_1_most (fun z => nomatch z) (fun r1 r2 r3 => (Vals.append (Vals.append r1 ((r2.drop 0).take 1)) ((r3.drop 0).take 1))) fun _ _ _ _ _ _ _ us its ws h1 h2 h3 => match us, its, ws, h1, h2, h3 with | [_], [_, _], [_], _, _, _ => ⟨_, rfl, rfl⟩
def g_is_whole_1_least_most {α : Type} (us its ws : List α) : List α := ((us ++ (ws.drop 0).take 1) ++ (ws.drop 1).take 1)
theorem Txt.bk_is_whole_1_least_most (T : Txt K mg A) : ∃ its : List Value, KBn K A.d_is_whole P_is_whole 1 ["least", "most"] (fun us ws => g_is_whole_1_least_most us its ws) (fun vs zs => g_is_whole_1_least_most vs [.int 0, .int 9999] zs) :=
  T.F_is_whole.kbindsD 1 ["least", "most"] g_is_whole_1_least_most (fun z => nomatch z) (fun r1 r2 r3 => (Vals.append (Vals.append r1 ((r3.drop 0).take 1)) ((r3.drop 1).take 1))) fun _ _ _ _ _ _ _ us its ws h1 h2 h3 => match us, its, ws, h1, h2, h3 with | [_], [_, _], [_, _], _, _, _ => ⟨_, rfl, rfl⟩
def g_Q_init_4_right_toil_marks_kin {α : Type} (us its ws : List α) : List α := ((((us ++ (ws.drop 0).take 1) ++ (ws.drop 1).take 1) ++ (ws.drop 2).take 1) ++ (ws.drop 3).take 1)
theorem Txt.bk_Q_init_4_right_toil_marks_kin (T : Txt K mg A) : ∃ its : List Value, KBn K A.d_Q_init P_Q_init 4 ["right", "toil", "marks", "kin"] (fun us ws => g_Q_init_4_right_toil_marks_kin us its ws) (fun vs zs => g_Q_init_4_right_toil_marks_kin vs [.int 0, .int 5, .int 1, .str ""] zs) :=
  T.F_Q_init.kbindsD 4 ["right", "toil", "marks", "kin"] g_Q_init_4_right_toil_marks_kin (fun z => nomatch z) (fun r1 r2 r3 => (Vals.append (Vals.append (Vals.append (Vals.append r1 ((r3.drop 0).take 1)) ((r3.drop 1).take 1)) ((r3.drop 2).take 1)) ((r3.drop 3).take 1))) fun _ _ _ _ _ _ _ us its ws h1 h2 h3 => match us, its, ws, h1, h2, h3 with | [_, _, _, _], [_, _, _, _], [_, _, _, _], _, _, _ => ⟨_, rfl, rfl⟩
def g_B_taken_out_2_why {α : Type} (us its ws : List α) : List α := (us ++ (ws.drop 0).take 1)
theorem Txt.bk_B_taken_out_2_why (T : Txt K mg A) : ∃ its : List Value, KBn K A.d_B_taken_out P_B_taken_out 2 ["why"] (fun us ws => g_B_taken_out_2_why us its ws) (fun vs zs => g_B_taken_out_2_why vs [.str "wrong"] zs) :=
  T.F_B_taken_out.kbindsD 2 ["why"] g_B_taken_out_2_why (fun z => nomatch z) (fun r1 r2 r3 => (Vals.append r1 ((r3.drop 0).take 1))) fun _ _ _ _ _ _ _ us its ws h1 h2 h3 => match us, its, ws, h1, h2, h3 with | [_, _], [_], [_], _, _, _ => ⟨_, rfl, rfl⟩
def g_B_last_day_2_day {α : Type} (us its ws : List α) : List α := (us ++ (ws.drop 0).take 1)
theorem Txt.bk_B_last_day_2_day (T : Txt K mg A) : ∃ its : List Value, KBn K A.d_B_last_day P_B_last_day 2 ["day"] (fun us ws => g_B_last_day_2_day us its ws) (fun vs zs => g_B_last_day_2_day vs [.int 9999] zs) :=
  T.F_B_last_day.kbindsD 2 ["day"] g_B_last_day_2_day (fun z => nomatch z) (fun r1 r2 r3 => (Vals.append r1 ((r3.drop 0).take 1))) fun _ _ _ _ _ _ _ us its ws h1 h2 h3 => match us, its, ws, h1, h2, h3 with | [_, _], [_], [_], _, _, _ => ⟨_, rfl, rfl⟩
def g_B_found_1_matter {α : Type} (us its ws : List α) : List α := ((((((us ++ (ws.drop 0).take 1) ++ (its.drop 1).take 1) ++ (its.drop 2).take 1) ++ (its.drop 3).take 1) ++ (its.drop 4).take 1) ++ (its.drop 5).take 1)
theorem Txt.bk_B_found_1_matter (T : Txt K mg A) : ∃ its : List Value, KBn K A.d_B_found P_B_found 1 ["matter"] (fun us ws => g_B_found_1_matter us its ws) (fun vs zs => g_B_found_1_matter vs [.str "", .int 1, .int 9, .str "", .non, .int 0] zs) :=
  T.F_B_found.kbindsD 1 ["matter"] g_B_found_1_matter (fun z => nomatch z) (fun r1 r2 r3 => (Vals.append (Vals.append (Vals.append (Vals.append (Vals.append (Vals.append r1 ((r3.drop 0).take 1)) ((r2.drop 1).take 1)) ((r2.drop 2).take 1)) ((r2.drop 3).take 1)) ((r2.drop 4).take 1)) ((r2.drop 5).take 1))) fun _ _ _ _ _ _ _ us its ws h1 h2 h3 => match us, its, ws, h1, h2, h3 with | [_], [_, _, _, _, _, _], [_], _, _, _ => ⟨_, rfl, rfl⟩
def g_B_found_1_least_most {α : Type} (us its ws : List α) : List α := ((((((us ++ (its.drop 0).take 1) ++ (ws.drop 0).take 1) ++ (ws.drop 1).take 1) ++ (its.drop 3).take 1) ++ (its.drop 4).take 1) ++ (its.drop 5).take 1)
theorem Txt.bk_B_found_1_least_most (T : Txt K mg A) : ∃ its : List Value, KBn K A.d_B_found P_B_found 1 ["least", "most"] (fun us ws => g_B_found_1_least_most us its ws) (fun vs zs => g_B_found_1_least_most vs [.str "", .int 1, .int 9, .str "", .non, .int 0] zs) :=
  T.F_B_found.kbindsD 1 ["least", "most"] g_B_found_1_least_most (fun z => nomatch z) (fun r1 r2 r3 => (Vals.append (Vals.append (Vals.append (Vals.append (Vals.append (Vals.append r1 ((r2.drop 0).take 1)) ((r3.drop 0).take 1)) ((r3.drop 1).take 1)) ((r2.drop 3).take 1)) ((r2.drop 4).take 1)) ((r2.drop 5).take 1))) fun _ _ _ _ _ _ _ us its ws h1 h2 h3 => match us, its, ws, h1, h2, h3 with | [_], [_, _, _, _, _, _], [_, _], _, _, _ => ⟨_, rfl, rfl⟩
def g_B_found_1_kin {α : Type} (us its ws : List α) : List α := ((((((us ++ (its.drop 0).take 1) ++ (its.drop 1).take 1) ++ (its.drop 2).take 1) ++ (ws.drop 0).take 1) ++ (its.drop 4).take 1) ++ (its.drop 5).take 1)
theorem Txt.bk_B_found_1_kin (T : Txt K mg A) : ∃ its : List Value, KBn K A.d_B_found P_B_found 1 ["kin"] (fun us ws => g_B_found_1_kin us its ws) (fun vs zs => g_B_found_1_kin vs [.str "", .int 1, .int 9, .str "", .non, .int 0] zs) :=
  T.F_B_found.kbindsD 1 ["kin"] g_B_found_1_kin (fun z => nomatch z) (fun r1 r2 r3 => (Vals.append (Vals.append (Vals.append (Vals.append (Vals.append (Vals.append r1 ((r2.drop 0).take 1)) ((r2.drop 1).take 1)) ((r2.drop 2).take 1)) ((r3.drop 0).take 1)) ((r2.drop 4).take 1)) ((r2.drop 5).take 1))) fun _ _ _ _ _ _ _ us its ws h1 h2 h3 => match us, its, ws, h1, h2, h3 with | [_], [_, _, _, _, _, _], [_], _, _, _ => ⟨_, rfl, rfl⟩
def g_B_found_1_day_rest {α : Type} (us its ws : List α) : List α := ((((((us ++ (its.drop 0).take 1) ++ (its.drop 1).take 1) ++ (its.drop 2).take 1) ++ (its.drop 3).take 1) ++ (ws.drop 0).take 1) ++ (ws.drop 1).take 1)
theorem Txt.bk_B_found_1_day_rest (T : Txt K mg A) : ∃ its : List Value, KBn K A.d_B_found P_B_found 1 ["day", "rest"] (fun us ws => g_B_found_1_day_rest us its ws) (fun vs zs => g_B_found_1_day_rest vs [.str "", .int 1, .int 9, .str "", .non, .int 0] zs) :=
  T.F_B_found.kbindsD 1 ["day", "rest"] g_B_found_1_day_rest (fun z => nomatch z) (fun r1 r2 r3 => (Vals.append (Vals.append (Vals.append (Vals.append (Vals.append (Vals.append r1 ((r2.drop 0).take 1)) ((r2.drop 1).take 1)) ((r2.drop 2).take 1)) ((r2.drop 3).take 1)) ((r3.drop 0).take 1)) ((r3.drop 1).take 1))) fun _ _ _ _ _ _ _ us its ws h1 h2 h3 => match us, its, ws, h1, h2, h3 with | [_], [_, _, _, _, _, _], [_, _], _, _, _ => ⟨_, rfl, rfl⟩
def g_B_found_1_day_rest_least {α : Type} (us its ws : List α) : List α := ((((((us ++ (its.drop 0).take 1) ++ (ws.drop 2).take 1) ++ (its.drop 2).take 1) ++ (its.drop 3).take 1) ++ (ws.drop 0).take 1) ++ (ws.drop 1).take 1)
theorem Txt.bk_B_found_1_day_rest_least (T : Txt K mg A) : ∃ its : List Value, KBn K A.d_B_found P_B_found 1 ["day", "rest", "least"] (fun us ws => g_B_found_1_day_rest_least us its ws) (fun vs zs => g_B_found_1_day_rest_least vs [.str "", .int 1, .int 9, .str "", .non, .int 0] zs) :=
  T.F_B_found.kbindsD 1 ["day", "rest", "least"] g_B_found_1_day_rest_least (fun z => nomatch z) (fun r1 r2 r3 => (Vals.append (Vals.append (Vals.append (Vals.append (Vals.append (Vals.append r1 ((r2.drop 0).take 1)) ((r3.drop 2).take 1)) ((r2.drop 2).take 1)) ((r2.drop 3).take 1)) ((r3.drop 0).take 1)) ((r3.drop 1).take 1))) fun _ _ _ _ _ _ _ us its ws h1 h2 h3 => match us, its, ws, h1, h2, h3 with | [_], [_, _, _, _, _, _], [_, _, _], _, _, _ => ⟨_, rfl, rfl⟩
end
end KB
/-! part KS -/
/-! What stands in the heap, and what each def promises. -/
namespace KB
open PySem L2

/-! ### what a call leaves as it was: all but the dicts at F -/
structure Kd (F : List Addr) (H H' : Hp) : Prop where
  keep : ∀ a o, H a = some o → (∀ kvs, o = HO.dK kvs → a ∉ F) → H' a = some o
  back : ∀ a, H' a = none → H a = none
theorem Kd.refl {F : List Addr} {H : Hp} : Kd F H H := ⟨fun _ _ h _ => h, fun _ h => h⟩
theorem Kd.trans {F : List Addr} {H H1 H2 : Hp} (a : Kd F H H1) (b : Kd F H1 H2) : Kd F H H2 := ⟨fun x o h n => b.keep x o (a.keep x o h n) n, fun x h => a.back x (b.back x h)⟩
theorem Kd.mono {F G : List Addr} {H H' : Hp} (h : Kd F H H') (s : ∀ x, x ∈ F → x ∈ G) : Kd G H H' := ⟨fun a o e n => h.keep a o e fun kvs z m => n kvs z (s a m), h.back⟩
theorem Kd.nil {F : List Addr} {H H' : Hp} (h : Kd [] H H') : Kd F H H' := h.mono fun _ m => nomatch m
theorem Kd.of_ext {F : List Addr} {H H' : Hp} (h : Ext H H') : Kd F H H' := ⟨fun a o e _ => h a o e, fun a n => by
  cases q : H a with
  | none => rfl
  | some o => rw [h a o q] at n; cases n⟩
theorem Kd.ext {H H' : Hp} (h : Kd [] H H') : Ext H H' := fun a o e => h.keep a o e fun _ _ m => nomatch m
/-- a new thing -/
theorem Kd.new {F : List Addr} {H : Hp} {p : Addr} {o : HO} (h : H p = none) : Kd F H (upd H p o) := .of_ext (Ext.upd h)
/-- a thing that stood not at H changes, or comes -/
theorem Kd.mut {F : List Addr} {H H' : Hp} {p : Addr} {o : HO} (k : Kd F H H') (h : H p = none) : Kd F H (upd H' p o) := ⟨fun a u e n => by
  rw [upd_ne (ne_of_none e h)]
  exact k.keep a u e n, fun a e => by
  by_cases z : a = p
  · rw [z]; exact h
  · rw [upd_ne z] at e; exact k.back a e⟩
/-- one of the dicts changes -/
theorem Kd.put {F : List Addr} {H : Hp} {p : Addr} {o : HO} {kvs : List (Key × V)} (h : H p = some (.dK kvs)) (m : p ∈ F) : Kd F H (upd H p o) := ⟨fun a u e n => by
  rw [upd_ne fun z => by
    subst z
    rw [h] at e
    cases e
    exact n _ rfl m]
  exact e, fun a e => by
  by_cases z : a = p
  · rw [z, upd_same] at e; cases e
  · rw [upd_ne z] at e; exact e⟩
/-- what a part of it did, seen from further back: what it changed was new -/
theorem Kd.over {F G : List Addr} {H H1 H2 : Hp} (a : Kd F H H1) (b : Kd G H1 H2) (n : ∀ x, x ∈ G → x ∈ F ∨ H x = none) : Kd F H H2 := by
  refine ⟨fun x o h m => b.keep x o (a.keep x o h m) fun kvs z g => ?_, fun x h => a.back x (b.back x h)⟩
  rcases n x g with q | q
  · exact m kvs z q
  · rw [q] at h
    cases h
section
variable {K : PySem.W.Frag} {F : List Addr} {H H' : Hp} {a : Addr} {xs : List V}
theorem Kd.lst (k : Kd F H H') (h : H a = some (.lst xs)) : H' a = some (.lst xs) := k.keep a _ h fun _ z => nomatch z
theorem Kd.tup (k : Kd F H H') (h : H a = some (.tup xs)) : H' a = some (.tup xs) := k.keep a _ h fun _ z => nomatch z
theorem Kd.ins {C dx : Addr} {fs : List (Str × V)} (k : Kd F H H') (h : H a = some (.ins C dx fs)) : H' a = some (.ins C dx fs) := k.keep a _ h fun _ z => nomatch z
theorem Kd.frz {o : Obj} {u : HO} (k : Kd F H H') (h : H a = some (.frz o u)) : H' a = some (.frz o u) := k.keep a _ h fun _ z => nomatch z
theorem Kd.dK {kvs : List (Key × V)} (k : Kd F H H') (h : H a = some (.dK kvs)) (n : a ∉ F) : H' a = some (.dK kvs) := k.keep a _ h fun _ _ => n
theorem Kd.tupA {t : Addr} (k : Kd F H H') (h : TupA H t xs) : TupA H' t xs := by
  obtain ⟨o, h1, h2⟩ := h
  exact ⟨o, k.frz h1, h2⟩
theorem Kd.sqL (k : Kd F H H') (h : SqL K H a xs) : SqL K H' a xs := by
  rcases h with (h | ⟨o, h⟩) | h
  · exact .inl (.inl (k.lst h))
  · exact .inl (.inr ⟨o, k.frz h⟩)
  · exact .inr h
end

/-! ### dicts by texts -/
section
variable {α : Type}
/-- the pairs as the dict holds them -/
def kvOf (g : α → V) (l : List (Str × α)) : List (Key × V) := l.map fun p => (Sum.inr p.1, g p.2)
theorem valV_kv (g : α → V) (n : Str) : ∀ l : List (Str × α), valV (kvOf g l) (Sum.inr n) = (aget l n).map g
  | [] => rfl
  | p :: r => by
    by_cases e : p.1 = n
    · rw [aget_pos e]
      exact valV_pos (show (Sum.inr p.1 : Key) = Sum.inr n by rw [e])
    · rw [aget_neg e, ← valV_kv g n r]
      exact valV_neg fun z => e (Sum.inr.inj z)
theorem any_kv (g : α → V) (n : Str) (l : List (Str × α)) : ((kvOf g l).any fun kv => decide (kv.1 = (Sum.inr n : Key))) = l.any fun p => decide (p.1 = n) := by
  induction l with
  | nil => rfl
  | cons p r ih =>
    show (decide ((Sum.inr p.1 : Key) = Sum.inr n) || (kvOf g r).any _) = (decide (p.1 = n) || r.any _)
    rw [ih, key_rr]
theorem putK_kv (g : α → V) (n : Str) (x : α) (l : List (Str × α)) : putK (kvOf g l) (Sum.inr n) (g x) = kvOf g (aput l n x) := by
  unfold putK aput
  rw [any_kv]
  by_cases h : (l.any fun p => decide (p.1 = n)) = true
  · rw [if_pos h, if_pos h]
    unfold kvOf
    rw [List.map_map, List.map_map]
    apply List.map_congr_left
    intro p _
    show (if (Sum.inr p.1 : Key) = Sum.inr n then ((Sum.inr p.1 : Key), g x) else (Sum.inr p.1, g p.2)) = (fun p : Str × α => ((Sum.inr p.1 : Key), g p.2)) (if p.1 = n then (p.1, x) else p)
    by_cases e : p.1 = n
    · rw [if_pos (by rw [e]), if_pos e]
    · rw [if_neg fun z => e (Sum.inr.inj z), if_neg e]
  · rw [if_neg h, if_neg h]
    unfold kvOf
    rw [List.map_append]
    rfl
theorem dropK_kv (g : α → V) (n : Str) (l : List (Str × α)) : dropK (kvOf g l) (Sum.inr n) = kvOf g (adrop l n) := by
  induction l with
  | nil => rfl
  | cons p r ih =>
    unfold dropK kvOf adrop at ih ⊢
    rw [List.map_cons, List.filter_cons, List.filter_cons]
    by_cases e : p.1 = n
    · rw [if_neg (by simp [e]), if_neg (by simp [e])]
      exact ih
    · rw [if_pos (by simp [e]), if_pos (by simp [e]), List.map_cons, ih]
theorem kvOf_len (g : α → V) (l : List (Str × α)) : (kvOf g l).length = l.length := by
  unfold kvOf
  rw [List.length_map]
theorem kvOf_keys (g : α → V) (l : List (Str × α)) : (kvOf g l).map (·.1) = (keys l).map Sum.inr := by
  unfold kvOf keys
  rw [List.map_map, List.map_map]
  rfl
end

/-! ### questions, banks, the drawing state -/
def qf (t : Addr) (d : Qn) : List (Str × V) := [("name", .str d.name), ("matter", .str d.matter), ("answers", .ref t), ("right", .int d.right), ("toil", .int d.toil), ("marks", .int d.marks), ("kin", .str d.kin)]
def QAt (A : Ads) (H : Hp) (q : Addr) (d : Qn) : Prop := ∃ dx t, H q = some (.ins A.cQ dx (qf t d)) ∧ TupA H t (d.ans.map V.str)
theorem QAt.keep {A : Ads} {F : List Addr} {H H' : Hp} {q : Addr} {d : Qn} (h : QAt A H q d) (k : Kd F H H') : QAt A H' q d := by
  obtain ⟨dx, t, h1, h2⟩ := h
  exact ⟨dx, t, k.ins h1, k.tupA h2⟩
structure Bh where
  b : Addr
  dx : Addr
  k : Addr
  o : Addr
  d : Addr
def bf (B : Bh) : List (Str × V) := [("kept_here", .ref B.k), ("out_here", .ref B.o), ("days_here", .ref B.d)]
def Bh.F (B : Bh) : List Addr := [B.k, B.o, B.d]
structure BankAt (A : Ads) (H : Hp) (B : Bh) (m : Bk) : Prop where
  ins : H B.b = some (.ins A.cB B.dx (bf B))
  kk : H B.k = some (.dK (kvOf (fun p => .ref p.1) m.kept))
  oo : H B.o = some (.dK (kvOf V.str m.out))
  dd : H B.d = some (.dK (kvOf (fun p => .ref p.1) m.days))
  qs : ∀ p ∈ m.kept, QAt A H p.2.1 p.2.2
  ds : ∀ p ∈ m.days, H p.2.1 = some (.lst (p.2.2.map V.int))
  ko : B.k ≠ B.o
  kd : B.k ≠ B.d
  od : B.o ≠ B.d
theorem BankAt.keep {A : Ads} {F : List Addr} {H H' : Hp} {B : Bh} {m : Bk} (h : BankAt A H B m) (k : Kd F H H') (n : ∀ x, x ∈ B.F → x ∉ F) : BankAt A H' B m :=
  ⟨k.ins h.ins, k.dK h.kk (n _ (by simp [Bh.F])), k.dK h.oo (n _ (by simp [Bh.F])), k.dK h.dd (n _ (by simp [Bh.F])), fun p hp => (h.qs p hp).keep k, fun p hp => k.lst (h.ds p hp), h.ko, h.kd, h.od⟩
theorem BankAt.keep0 {A : Ads} {H H' : Hp} {B : Bh} {m : Bk} (h : BankAt A H B m) (k : Kd [] H H') : BankAt A H' B m := h.keep k fun _ _ z => nomatch z
/-- its three dicts stood not in H -/
def Fresh (H : Hp) (B : Bh) : Prop := ∀ x, x ∈ B.F → H x = none
theorem BankAt.notNew {A : Ads} {H : Hp} {B : Bh} {m : Bk} (h : BankAt A H B m) {x : Addr} (hx : x ∈ B.F) : H x ≠ none := by
  simp only [Bh.F, List.mem_cons, List.not_mem_nil, or_false] at hx
  rcases hx with rfl | rfl | rfl
  · rw [h.kk]; exact fun z => nomatch z
  · rw [h.oo]; exact fun z => nomatch z
  · rw [h.dd]; exact fun z => nomatch z
/-- two banks with no dict in common -/
def Apart (B B2 : Bh) : Prop := ∀ x, x ∈ B.F → x ∉ B2.F
theorem Apart.symm {B B2 : Bh} (h : Apart B B2) : Apart B2 B := fun x h1 h2 => h x h2 h1
theorem BankAt.apart {A : Ads} {H : Hp} {B B2 : Bh} {m : Bk} (h : BankAt A H B m) (f : Fresh H B2) : Apart B B2 := fun x h1 h2 => h.notNew h1 (f x h2)
theorem BankAt.q {A : Ads} {H : Hp} {B : Bh} {m : Bk} (h : BankAt A H B m) {n : Str} {p : Addr × Qn} (e : aget m.kept n = some p) : QAt A H p.1 p.2 := h.qs _ (aget_some_mem e)
theorem BankAt.day {A : Ads} {H : Hp} {B : Bh} {m : Bk} (h : BankAt A H B m) {n : Str} {p : Addr × List Int} (e : aget m.days n = some p) : H p.1 = some (.lst (p.2.map V.int)) := h.ds _ (aget_some_mem e)
/-- what draws are made from -/
def stL (l own other at_ : Int) : List (Key × V) := [(Sum.inr "left", .int l), (Sum.inr "own", .int own), (Sum.inr "other", .int other), (Sum.inr "at", .int at_)]
def StAt (H : Hp) (st : Addr) (n : Nat) : Prop := ∃ l own other at_ : Int, H st = some (.dK (stL l own other at_)) ∧ 0 ≤ at_ ∧ at_ ≤ n
theorem StAt.mono {H : Hp} {st : Addr} {n m : Nat} (h : StAt H st n) (e : n ≤ m) : StAt H st m := by
  obtain ⟨l, own, other, at_, h1, h2, h3⟩ := h
  exact ⟨l, own, other, at_, h1, h2, by omega⟩
theorem StAt.keep {F : List Addr} {H H' : Hp} {st : Addr} {n : Nat} (h : StAt H st n) (k : Kd F H H') (f : st ∉ F) : StAt H' st n := by
  obtain ⟨l, own, other, at_, h1, h2, h3⟩ := h
  exact ⟨l, own, other, at_, k.dK h1 f, h2, h3⟩
/-- a list of tuples -/
def Rows (H : Hp) (p : Addr) (rows : List (List V)) : Prop := ∃ ts : List Addr, H p = some (.lst (ts.map V.ref)) ∧ ts.length = rows.length ∧ ∀ (i : Nat) t r, ts[i]? = some t → rows[i]? = some r → H t = some (.tup r)
theorem Rows.keep {F : List Addr} {H H' : Hp} {p : Addr} {rows : List (List V)} (h : Rows H p rows) (k : Kd F H H') : Rows H' p rows := by
  obtain ⟨ts, h1, h2, h3⟩ := h
  exact ⟨ts, k.lst h1, h2, fun i t r a b => k.tup (h3 i t r a b)⟩
def optV : Option Int → V
  | none => .non
  | some i => .int i
/-- a row of a question -/
def rowV (t : Addr) (d : Qn) : List V := [.str d.name, .str d.matter, .ref t, .int d.right, .int d.toil, .int d.marks, .str d.kin]

/-! ### the deeds -/
namespace Bk
def added (m : Bk) (a : Addr) (d : Qn) (p : Addr) : Bk := { m with kept := aput m.kept d.name (a, d), days := aput m.days d.name (p, []) }
def putQ (m : Bk) (a : Addr) (d : Qn) : Bk := { m with kept := aput m.kept d.name (a, d) }
def takenOut (m : Bk) (n why : Str) : Bk := { m with out := aput m.out n why }
def putBack (m : Bk) (n : Str) : Bk := { m with out := adrop m.out n }
def dropped (m : Bk) (n : Str) : Bk := { kept := adrop m.kept n, out := adrop m.out n, days := adrop m.days n }
def setDays (m : Bk) (n : Str) (p : Addr) (l : List Int) : Bk := { m with days := aput m.days n (p, l) }
end Bk

/-! ### the promises -/
def sp_is_whole : Sp := fun vs H Q _ => ∃ i lo hi : Int, vs = [.int i, .int lo, .int hi] ∧ lo ≤ i ∧ i ≤ hi ∧ Q (.bl true) H
def sp_is_name : Sp := fun vs H Q _ => ∃ z, vs = [.str z] ∧ NameOk z ∧ ∀ H', Kd [] H H' → Q (.bl true) H'
def sp_is_text : Sp := fun vs H Q _ => ∃ z, vs = [.str z] ∧ TextOk z ∧ ∀ H', Kd [] H H' → Q (.bl true) H'
def sp_need_day : Sp := fun vs H Q _ => ∃ i : Int, vs = [.int i] ∧ 0 ≤ i ∧ i ≤ 9999 ∧ Q .non H
def sp_are_answers : Sp := fun vs H Q _ => ∃ (t : Addr) (ans : List Str), vs = [.ref t] ∧ TupA H t (ans.map V.str) ∧ AnsOk ans ∧ ∀ H', Kd [] H H' → Q (.bl true) H'
def sp_is_of : Sp := fun vs H Q _ => ∃ z, vs = [.str z] ∧ (z = "" ∨ NameOk z) ∧ ∀ H', Kd [] H H' → Q (.bl true) H'
def sp_Q_init (A : Ads) : Sp := fun vs H Q _ => ∃ (H0 : Hp) (p dx t : Addr) (d : Qn), vs = [.ref p, .str d.name, .str d.matter, .ref t, .int d.right, .int d.toil, .int d.marks, .str d.kin] ∧ QOk d ∧ H0 p = none ∧ Kd [] H0 H ∧ H p = some (.ins A.cQ dx []) ∧
  TupA H0 t (d.ans.map V.str) ∧ ∀ H', Kd [] H0 H' → QAt A H' p d → Q .non H'
def sp_Q_parts (A : Ads) : Sp := fun vs H Q _ => ∃ q dx t d, vs = [.ref q] ∧ H q = some (.ins A.cQ dx (qf t d)) ∧ ∀ p, H p = none → Q (.ref p) (upd H p (.tup (rowV t d)))
def RQ (A : Ads) : Addr → Addr → Bool → Hp → Prop := fun a c b H => ∃ d e, QAt A H a d ∧ QAt A H c e ∧ QOk d ∧ QOk e ∧ b = decide (d = e)
def sp_need_question (A : Ads) : Sp := fun vs H Q _ => ∃ q d, vs = [.ref q] ∧ QAt A H q d ∧ Q .non H
def sp_B_need_there (A : Ads) : Sp := fun vs H Q _ => ∃ B m n, vs = [.ref B.b, .str n] ∧ BankAt A H B m ∧ n ∈ keys m.kept ∧ Q .non H
def sp_B_added (A : Ads) : Sp := fun vs H Q _ => ∃ B m a d, vs = [.ref B.b, .ref a] ∧ BankAt A H B m ∧ QAt A H a d ∧ d.name ∉ keys m.kept ∧ m.kept.length < 60 ∧ m.days.length < 60 ∧ ∀ H' p, Kd B.F H H' → H p = none → BankAt A H' B (m.added a d p) → Q .non H'
def sp_B_init (A : Ads) : Sp := fun vs H Q _ => ∃ (H0 : Hp) (b dx : Addr) (arg : V) (ql : List (Addr × Qn)), vs = [.ref b, arg] ∧ H0 b = none ∧ Kd [] H0 H ∧ H b = some (.ins A.cB dx []) ∧
  ((arg = .non ∧ ql = []) ∨ ∃ l, arg = .ref l ∧ H0 l = some (.lst (ql.map fun p => .ref p.1))) ∧ (∀ p ∈ ql, QAt A H0 p.1 p.2) ∧ (ql.map (·.2.name)).Nodup ∧ ql.length ≤ 8 ∧
  ∀ H' B m, Kd [] H0 H' → B.b = b → Fresh H0 B → BankAt A H' B m → m.kept = ql.map (fun p => (p.2.name, p)) → m.out = [] → m.days.map (fun p => (p.1, p.2.2)) = ql.map (fun p => (p.2.name, [])) → Q .non H'
def sp_B_put (A : Ads) : Sp := fun vs H Q _ => ∃ B m a d, vs = [.ref B.b, .ref a] ∧ BankAt A H B m ∧ QAt A H a d ∧ d.name ∈ keys m.kept ∧ m.kept.length < 60 ∧ ∀ H', Kd B.F H H' → BankAt A H' B (m.putQ a d) → Q .non H'
def sp_B_taken_out (A : Ads) : Sp := fun vs H Q _ => ∃ B m n why, vs = [.ref B.b, .str n, .str why] ∧ BankAt A H B m ∧ n ∈ keys m.kept ∧ TextOk why ∧ m.out.length < 60 ∧ ∀ H', Kd B.F H H' → BankAt A H' B (m.takenOut n why) → Q .non H'
def sp_B_put_back (A : Ads) : Sp := fun vs H Q _ => ∃ B m n, vs = [.ref B.b, .str n] ∧ BankAt A H B m ∧ n ∈ keys m.kept ∧ n ∈ keys m.out ∧ ∀ H', Kd B.F H H' → BankAt A H' B (m.putBack n) → Q .non H'
def sp_B_dropped (A : Ads) : Sp := fun vs H Q _ => ∃ B m n, vs = [.ref B.b, .str n] ∧ BankAt A H B m ∧ n ∈ keys m.kept ∧ n ∈ keys m.days ∧ ∀ H', Kd B.F H H' → BankAt A H' B (m.dropped n) → Q .non H'
def sp_B_used_on (A : Ads) : Sp := fun vs H Q _ => ∃ (B : Bh) (m : Bk) (n : Str) (day : Int) (l : List Int), vs = [.ref B.b, .str n, .int day] ∧ BankAt A H B m ∧ n ∈ keys m.kept ∧ m.d n = some l ∧ 0 ≤ day ∧ day ≤ 9999 ∧ l.length < 60 ∧ m.days.length < 60 ∧ (day ∈ l → ∀ H', Kd [] H H' → Q .non H') ∧
  (day ∉ l → ∀ (H' : Hp) (p : Addr) (l' : List Int), Kd B.F H H' → H p = none → l'.Perm (l ++ [day]) → l'.Pairwise (· ≤ ·) → BankAt A H' B (m.setDays n p l') → Q .non H')
def sp_B_unused_on (A : Ads) : Sp := fun vs H Q _ => ∃ (B : Bh) (m : Bk) (n : Str) (day : Int) (l : List Int), vs = [.ref B.b, .str n, .int day] ∧ BankAt A H B m ∧ n ∈ keys m.kept ∧ m.d n = some l ∧ 0 ≤ day ∧ day ≤ 9999 ∧ day ∈ l ∧ l.length < 60 ∧ m.days.length < 60 ∧
  ∀ H' p, Kd B.F H H' → H p = none → BankAt A H' B (m.setDays n p (l.filter fun x => decide (x ≠ day))) → Q .non H'
/-- a new list of texts -/
def NewL (H : Hp) (l : List Str) (Q : VK) : Prop := ∀ H' p, Kd [] H H' → H p = none → H' p = some (.lst (l.map V.str)) → Q (.ref p) H'
def sp_B_names (A : Ads) : Sp := fun vs H Q _ => ∃ B m, vs = [.ref B.b] ∧ BankAt A H B m ∧ m.Ok ∧ NewL H m.names Q
def sp_B_names_in (A : Ads) : Sp := fun vs H Q _ => ∃ B m, vs = [.ref B.b] ∧ BankAt A H B m ∧ m.Ok ∧ NewL H m.namesIn Q
def sp_B_outs (A : Ads) : Sp := fun vs H Q _ => ∃ B m, vs = [.ref B.b] ∧ BankAt A H B m ∧ m.Ok ∧ ∀ H' p, Kd [] H H' → H p = none → Rows H' p (m.outsL.map fun r => [.str r.1, .str r.2]) → Q (.ref p) H'
def sp_B_question (A : Ads) : Sp := fun vs H Q _ => ∃ B m n p, vs = [.ref B.b, .str n] ∧ BankAt A H B m ∧ aget m.kept n = some p ∧ Q (.ref p.1) H
def sp_B_days_of (A : Ads) : Sp := fun vs H Q _ => ∃ (B : Bh) (m : Bk) (n : Str) (l : List Int), vs = [.ref B.b, .str n] ∧ BankAt A H B m ∧ n ∈ keys m.kept ∧ m.d n = some l ∧ ∀ H' p, Kd [] H H' → H p = none → H' p = some (.lst (l.map V.int)) → Q (.ref p) H'
def sp_B_last_day (A : Ads) : Sp := fun vs H Q _ => ∃ (B : Bh) (m : Bk) (n : Str) (day : Int) (l : List Int), vs = [.ref B.b, .str n, .int day] ∧ BankAt A H B m ∧ n ∈ keys m.kept ∧ m.d n = some l ∧ 0 ≤ day ∧ day ≤ 9999 ∧ l.length < 60 ∧ ∀ H', Kd [] H H' → Q (optV (lastDay l day)) H'
def sp_B_matters (A : Ads) : Sp := fun vs H Q _ => ∃ B m, vs = [.ref B.b] ∧ BankAt A H B m ∧ m.Ok ∧ ∀ H' p, Kd [] H H' → H p = none → H' p = some (.dK (kvOf V.int (countsOf m.mattersL))) → Q (.ref p) H'
def sp_B_rests (A : Ads) : Sp := fun vs H Q _ => ∃ (B : Bh) (m : Bk) (n : Str) (day rest : Int) (l : List Int), vs = [.ref B.b, .str n, .int day, .int rest] ∧ BankAt A H B m ∧ n ∈ keys m.kept ∧ m.d n = some l ∧ 0 ≤ day ∧ day ≤ 9999 ∧ l.length < 60 ∧ ∀ H', Kd [] H H' → Q (.bl (restsB l day rest)) H'
def sp_B_found (A : Ads) : Sp := fun vs H Q _ => ∃ (B : Bh) (m : Bk) (matter : Str) (least most : Int) (kin : Str) (dy : Option Int) (rest : Int), vs = [.ref B.b, .str matter, .int least, .int most, .str kin, optV dy, .int rest] ∧ BankAt A H B m ∧ m.Ok ∧ (∀ i, dy = some i → 0 ≤ i ∧ i ≤ 9999) ∧ NewL H (m.foundL matter least most kin dy rest) Q
def sp_B_standing (A : Ads) : Sp := fun vs H Q _ => ∃ B, vs = [.ref B.b] ∧ H B.b = some (.ins A.cB B.dx (bf B)) ∧ ∀ p, H p = none → Q (.ref p) (upd H p (.tup [.ref B.k, .ref B.o, .ref B.d]))
def sp_B_twin (A : Ads) : Sp := fun vs H Q _ => ∃ B m, vs = [.ref B.b] ∧ BankAt A H B m ∧ m.Ok ∧ ∀ H' B2 m2, Kd [] H H' → Fresh H B2 → BankAt A H' B2 m2 → m2.kept = m.kept → m2.out = m.out → m2.days.map (fun p => (p.1, p.2.2)) = m.days.map (fun p => (p.1, p.2.2)) → Q (.ref B2.b) H'
def RB (A : Ads) : Addr → Addr → Bool → Hp → Prop := fun a c b H => ∃ B m B2 m2, a = B.b ∧ c = B2.b ∧ BankAt A H B m ∧ BankAt A H B2 m2 ∧ Apart B B2 ∧ m.Ok ∧ m2.Ok ∧ b = m.beq m2
def sp_B_len (A : Ads) : Sp := fun vs H Q _ => ∃ B m, vs = [.ref B.b] ∧ BankAt A H B m ∧ m.Ok ∧ ∀ H', Kd [] H H' → Q (.int (m.namesIn.length : Nat)) H'
def sp_need_bank (A : Ads) : Sp := fun vs H Q _ => ∃ B m, vs = [.ref B.b] ∧ BankAt A H B m ∧ Q .non H
def sp_resting (A : Ads) : Sp := fun vs H Q _ => ∃ (B : Bh) (m : Bk) (day rest : Int), vs = [.ref B.b, .int day, .int rest] ∧ BankAt A H B m ∧ m.Ok ∧ 0 ≤ day ∧ day ≤ 9999 ∧ 0 ≤ rest ∧ rest ≤ 9999 ∧ NewL H (m.namesIn.filter fun n => restsB ((m.d n).getD []) day rest) Q
def sp_w_mixed : Sp := fun vs H Q _ => ∃ c k : Int, vs = [.int c, .int k] ∧ 0 ≤ k ∧ k ≤ 1000000 ∧ ∀ H' (r : Int), Kd [] H H' → 0 ≤ r → r < 2147483629 → Q (.int r) H'
def sp_w_begun (K : PySem.W.Frag) : Sp := fun vs H Q _ => ∃ (a : Addr) (ns : List Int) (k : Int), vs = [.ref a, .int k] ∧ SqL K H a (ns.map V.int) ∧ ns.length ≤ 63 ∧ 0 ≤ k ∧ k ≤ 10 ∧ ∀ H' st, Kd [] H H' → H st = none → StAt H' st 1000 → Q (.ref st) H'
def sp_w_take : Sp := fun vs H Q _ => ∃ (st : Addr) (many : Int) (n : Nat), vs = [.ref st, .int many] ∧ 0 < many ∧ many < 1000 ∧ StAt H st n ∧ n ≤ 100000 ∧ ∀ H' r, Kd [st] H H' → 0 ≤ r → r < many → StAt H' st (n + 1) → Q (.int r) H'
def sp_w_names : Sp := fun vs H Q _ => ∃ (st : Addr) (many : Int) (n : Nat), vs = [.ref st, .int many] ∧ 1 ≤ many ∧ many ≤ 8 ∧ StAt H st n ∧ n ≤ 90000 ∧ ∀ (H' : Hp) (p : Addr) (ls : List Str), Kd [st] H H' → H p = none → H' p = some (.lst (ls.map V.str)) → (ls.length : Int) = many → ls.Nodup → (∀ z ∈ ls, NameOk z) → StAt H' st (n + 30) → Q (.ref p) H'
def sp_w_row : Sp := fun vs H Q _ => ∃ (st : Addr) (label : Str) (kd : Addr) (ks : List Str) (n : Nat), vs = [.ref st, .str label, .ref kd] ∧ NameOk label ∧ H kd = some (.lst (ks.map V.str)) ∧ ks.length = 3 ∧ (∀ z ∈ ks, NameOk z) ∧ StAt H st n ∧ n ≤ 90000 ∧
  ∀ (H' : Hp) (p t : Addr) (d : Qn), Kd [st] H H' → H p = none → H' p = some (.tup (rowV t d)) → TupA H' t (d.ans.map V.str) → QOk d → d.name = label → d.matter ∈ ks → (d.kin = "" ∨ d.kin ∈ ks) → StAt H' st (n + 20) → Q (.ref p) H'
def sp_w_made (A : Ads) : Sp := fun vs H Q _ => ∃ (p t : Addr) (d : Qn), vs = [.ref p] ∧ H p = some (.tup (rowV t d)) ∧ TupA H t (d.ans.map V.str) ∧ QOk d ∧ ∀ H' q, Kd [] H H' → H q = none → QAt A H' q d → Q (.ref q) H'
def sp_w_parts (A : Ads) : Sp := fun vs H Q _ => ∃ q dx t d, vs = [.ref q] ∧ H q = some (.ins A.cQ dx (qf t d)) ∧ ∀ p, H p = none → Q (.ref p) (upd H p (.tup (rowV t d)))
/-- a bank as the law leads it: its questions are of few matters and kins -/
def FromKinds (ks : List Str) (m : Bk) : Prop := ∀ n q, m.q n = some q → q.matter ∈ ks ∧ (q.kin = "" ∨ q.kin ∈ ks)
def sp_w_led (A : Ads) : Sp := fun vs H Q _ => ∃ (st kd : Addr) (ks : List Str) (lb : Addr) (ls : List Str) (turns : Int) (n : Nat), vs = [.ref st, .ref kd, .ref lb, .int turns] ∧ H kd = some (.lst (ks.map V.str)) ∧ ks.length = 3 ∧ (∀ z ∈ ks, NameOk z) ∧ H lb = some (.lst (ls.map V.str)) ∧ ls.length ≤ 8 ∧ ls ≠ [] ∧ ls.Nodup ∧ (∀ z ∈ ls, NameOk z) ∧
  0 ≤ turns ∧ turns ≤ 14 ∧ StAt H st n ∧ n ≤ 50000 ∧ ∀ H' B m, Kd [st] H H' → Fresh H B → BankAt A H' B m → m.Ok → FromKinds ks m → (∀ z, z ∈ keys m.kept ↔ z ∈ ls) → StAt H' st (n + 300) → Q (.ref B.b) H'
def sp_w_back_right (A : Ads) : Sp := fun vs H Q _ => ∃ (B : Bh) (m : Bk) (label : Str) (w : Int) (p t : Addr) (d : Qn), vs = [.ref B.b, .str label, .int w, .ref p] ∧ BankAt A H B m ∧ m.Ok ∧ label ∈ keys m.kept ∧ 0 ≤ w ∧ w < 14 ∧ H p = some (.tup ((rowV t d).drop 1)) ∧ TupA H t (d.ans.map V.str) ∧ QOk d ∧
  ∀ H' m', Kd B.F H H' → BankAt A H' B m' → m'.Ok → Same m' m → Q (.bl true) H'
def sp_w_parts_right (A : Ads) : Sp := fun vs H Q _ => ∃ (B : Bh) (m : Bk) (kd : Addr) (ks : List Str) (w span : Int), vs = [.ref B.b, .ref kd, .int w, .int span] ∧ BankAt A H B m ∧ m.Ok ∧ H kd = some (.lst (ks.map V.str)) ∧ ks.Nodup ∧ (∀ z ∈ ks, NameOk z) ∧ FromKinds ks m ∧ 0 ≤ w ∧ w < 14 ∧ 0 ≤ span ∧ span < 6 ∧ ∀ H', Kd [] H H' → Q (.bl true) H'
/-- the same questions under other names -/
structure Called (m : Bk) (f : Str → Str) (m2 : Bk) : Prop where
  ok : m2.Ok
  q : ∀ n, n ∈ keys m.kept → m2.q (f n) = (m.q n).map fun x => { x with name := f n }
  r : ∀ n, n ∈ keys m.kept → m2.r (f n) = m.r n
  d : ∀ n, n ∈ keys m.kept → m2.d (f n) = m.d n
  no : ∀ x, (∀ n, n ∈ keys m.kept → f n ≠ x) → m2.q x = none ∧ m2.r x = none ∧ m2.d x = none
def sp_w_called (A : Ads) : Sp := fun vs H Q _ => ∃ (B : Bh) (m : Bk) (c : Addr) (cs : List (Str × Str)) (f : Str → Str), vs = [.ref B.b, .ref c] ∧ BankAt A H B m ∧ m.Ok ∧ H c = some (.dK (kvOf V.str cs)) ∧ (∀ n, n ∈ keys m.kept → aget cs n = some (f n)) ∧ (∀ n, n ∈ keys m.kept → NameOk (f n)) ∧
  (∀ n, n ∈ keys m.kept → ∀ n', n' ∈ keys m.kept → f n = f n' → n = n') ∧ ∀ H' B2 m2, Kd [] H H' → Fresh H B2 → BankAt A H' B2 m2 → Called m f m2 → Q (.ref B2.b) H'
def sp_w_calls_right (A : Ads) : Sp := fun vs H Q _ => ∃ (B : Bh) (m : Bk) (w span : Int), vs = [.ref B.b, .int w, .int span] ∧ BankAt A H B m ∧ m.Ok ∧ 0 ≤ w ∧ w < 14 ∧ 0 ≤ span ∧ span < 6 ∧ ∀ H', Kd [] H H' → Q (.bl true) H'
def sp_law (K : PySem.W.Frag) : Sp := fun vs H Q _ => ∃ (a : Addr) (ns : List Int), vs = [.ref a] ∧ SqL K H a (ns.map V.int) ∧ ns.length ≤ 63 ∧ ∀ H', Q (.bl true) H'
end KB
/-! part KW0 -/
/-! Small words of the walk: tests, comprehensions by lists of plain things. -/
namespace KB
open PySem L2
theorem iteP {b : Bool} {A B : Prop} (h : b = true) (x : A) : if b = true then A else B := by
  rw [if_pos h]
  exact x
theorem iteN {b : Bool} {A B : Prop} (h : b = false) (x : B) : if b = true then A else B := by
  rw [if_neg (by rw [h]; exact Bool.false_ne_true)]
  exact x
theorem iteB {b : Bool} {A B : Prop} (x : b = true → A) (y : b = false → B) : if b = true then A else B := by
  cases b with
  | true => exact iteT (x rfl)
  | false => exact iteF (y rfl)
theorem qb {Q : V → Hp → Prop} {H : Hp} {b c : Bool} (k : Q (.bl c) H) (e : b = c) : Q (.bl b) H := e ▸ k
theorem dT {p : Prop} [Decidable p] (h : p) : decide p = true := decide_eq_true h
theorem dF {p : Prop} [Decidable p] (h : ¬ p) : decide p = false := decide_eq_false h
section
variable {K : PySem.W.Frag} {a d : Addr} {o : Obj} {α : Type} {J : It} {G : Hp → Prop} {Y : Nat → Hp → V → Hp → Prop} {g : TG} {tt : TT} {te : TE} {vs : List Nat} {σ : L2.St} {H1 : Hp} {D : Addr} {Qd : Hp → Prop}
theorem lc_fm {xs : List α} (w : Walk J xs.length G Y) (F : List Addr) (fx f : α → V) (p : α → Bool) (hD : H1 D = none) (hl : xs.length < sizeLine)
    (hY : ∀ i H x H', Y i H x H' → H' = H ∧ ∃ a, xs[i]? = some a ∧ x = fx a) (hG : ∀ H, Kd F H1 H → G H)
    (hs : ∀ a H (R : Option V → Hp → Prop), a ∈ xs → Kd F H1 H → (∀ H4, p a = true → Kd F H H4 → R (some (f a)) H4) → (∀ H3, p a = false → Kd F H H3 → R none H3) →
      g (fx a) (wipe σ vs) H fun σ2 H2 => wipe σ2 vs = wipe σ vs ∧ tt σ2 H2 fun b H3 => if b = true then te σ2 H3 fun y H4 => R (some y) H4 else R none H3)
    (hd : ∀ H, Kd F H1 H → H D = some (.lst ((xs.filter p).map f)) → Qd H) :
    ∃ W : Nat → Nat → Hp → Prop, (∃ m, W 0 m (upd H1 D (.lst []))) ∧ ∀ i m H, W i m H →
      (J.stop i H ∧ Qd H) ∨ (J.go i H ∧ ∃ Nx : Hp → Prop, (∀ H', Nx H' → ∃ m', m' < m ∧ W (i + 1) m' H') ∧ ∀ x H', J.yld i H x H' → g x (wipe σ vs) H' fun σ2 H2 => wipe σ2 vs = wipe σ vs ∧ tt σ2 H2 fun b H3 =>
        if b = true then te σ2 H3 fun y H4 => ∃ acc, H4 D = some (.lst acc) ∧ acc.length < sizeLine ∧ Nx (upd H4 D (.lst (acc ++ [y]))) else Nx H3) := by
  refine lc_it w (fun i H => Kd F H1 H ∧ H D = some (.lst (((xs.take i).filter p).map f))) ⟨Kd.new hD, upd_same⟩ (fun i H _ h => hG H h.1) ?_ ?_
  · rintro i x H H' hi ⟨kd, hd⟩ y
    obtain ⟨rfl, a, ha, rfl⟩ := hY i H x H' y
    refine hs a H' (fun z H4 => match z with
      | some y => ∃ acc, H4 D = some (.lst acc) ∧ acc.length < sizeLine ∧ (Kd F H1 (upd H4 D (.lst (acc ++ [y]))) ∧ (upd H4 D (.lst (acc ++ [y]))) D = some (.lst (((xs.take (i + 1)).filter p).map f)))
      | none => Kd F H1 H4 ∧ H4 D = some (.lst (((xs.take (i + 1)).filter p).map f))) (List.mem_of_getElem? ha) kd ?_ ?_
    · intro H4 hp k4
      refine ⟨_, k4.lst hd, ?_, Kd.mut (kd.trans k4) hD, ?_⟩
      · rw [List.length_map]
        have := List.length_filter_le p (xs.take i)
        have := List.length_take_le i xs
        have := List.length_take_le' i xs
        omega
      · rw [upd_same, List.take_add_one, ha, List.filter_append, List.map_append]
        simp [hp]
    · intro H3 hp k3
      refine ⟨kd.trans k3, ?_⟩
      rw [k3.lst hd, List.take_add_one, ha, List.filter_append, List.map_append]
      simp [hp]
  · rintro H ⟨kd, h⟩
    rw [List.take_length] at h
    exact hd H kd h
theorem walk_listM {xs : List α} (fx : α → V) : Walk (Itl K a) xs.length (fun H => SqL K H a (xs.map fx)) (YAt (xs.map fx)) := by
  have w := walk_list (K := K) (a := a) (xs := xs.map fx)
  rw [List.length_map] at w
  exact w
theorem walk_tupM {xs : List α} (fx : α → V) : Walk (Itt K a) xs.length (fun H => SqT K H a (xs.map fx)) (YAt (xs.map fx)) := by
  have w := walk_tup (K := K) (a := a) (xs := xs.map fx)
  rw [List.length_map] at w
  exact w
theorem yat_map {xs : List α} (fx : α → V) : ∀ i H x H', YAt (xs.map fx) i H x H' → H' = H ∧ ∃ a, xs[i]? = some a ∧ x = fx a := by
  rintro i H x H' ⟨rfl, h⟩
  rw [List.getElem?_map] at h
  cases e : xs[i]? with
  | none => rw [e] at h; cases h
  | some a => rw [e] at h; exact ⟨rfl, a, rfl, (Option.some.inj h).symm⟩
abbrev LcW (J : It) (g : TG) (tt : TT) (te : TE) (vs : List Nat) (σ : L2.St) (H1 : Hp) (D : Addr) (Qd : Hp → Prop) : Prop :=
  ∃ W : Nat → Nat → Hp → Prop, (∃ m, W 0 m (upd H1 D (.lst []))) ∧ ∀ i m H, W i m H →
      (J.stop i H ∧ Qd H) ∨ (J.go i H ∧ ∃ Nx : Hp → Prop, (∀ H', Nx H' → ∃ m', m' < m ∧ W (i + 1) m' H') ∧ ∀ x H', J.yld i H x H' → g x (wipe σ vs) H' fun σ2 H2 => wipe σ2 vs = wipe σ vs ∧ tt σ2 H2 fun b H3 =>
        if b = true then te σ2 H3 fun y H4 => ∃ acc, H4 D = some (.lst acc) ∧ acc.length < sizeLine ∧ Nx (upd H4 D (.lst (acc ++ [y]))) else Nx H3)
/-- over a list -/
theorem lcL (xs : List α) (F : List Addr) (fx f : α → V) (p : α → Bool) (hD : H1 D = none) (hl : xs.length < sizeLine) (hq : SqL K H1 a (xs.map fx))
    (hs : ∀ a H (R : Option V → Hp → Prop), a ∈ xs → Kd F H1 H → (∀ H4, p a = true → Kd F H H4 → R (some (f a)) H4) → (∀ H3, p a = false → Kd F H H3 → R none H3) →
      g (fx a) (wipe σ vs) H fun σ2 H2 => wipe σ2 vs = wipe σ vs ∧ tt σ2 H2 fun b H3 => if b = true then te σ2 H3 fun y H4 => R (some y) H4 else R none H3)
    (hd : ∀ H, Kd F H1 H → H D = some (.lst ((xs.filter p).map f)) → Qd H) : LcW (Itl K a) g tt te vs σ H1 D Qd :=
  lc_fm (walk_listM fx) F fx f p hD hl (yat_map fx) (fun H k => k.sqL hq) hs hd
theorem Kd.sqT {F : List Addr} {H H' : Hp} {xs : List V} (k : Kd F H H') (h : SqT K H a xs) : SqT K H' a xs := by
  rcases h with (h | ⟨o, h⟩) | h
  · exact .inl (.inl (k.tup h))
  · exact .inl (.inr ⟨o, k.frz h⟩)
  · exact .inr h
/-- over a tuple -/
theorem lcT (xs : List α) (F : List Addr) (fx f : α → V) (p : α → Bool) (hD : H1 D = none) (hl : xs.length < sizeLine) (hq : SqT K H1 a (xs.map fx))
    (hs : ∀ a H (R : Option V → Hp → Prop), a ∈ xs → Kd F H1 H → (∀ H4, p a = true → Kd F H H4 → R (some (f a)) H4) → (∀ H3, p a = false → Kd F H H3 → R none H3) →
      g (fx a) (wipe σ vs) H fun σ2 H2 => wipe σ2 vs = wipe σ vs ∧ tt σ2 H2 fun b H3 => if b = true then te σ2 H3 fun y H4 => R (some y) H4 else R none H3)
    (hd : ∀ H, Kd F H1 H → H D = some (.lst ((xs.filter p).map f)) → Qd H) : LcW (Itt K a) g tt te vs σ H1 D Qd :=
  lc_fm (walk_tupM fx) F fx f p hD hl (yat_map fx) (fun H k => k.sqT hq) hs hd
/-- over a text -/
theorem lcS (z : Str) (F : List Addr) (f : Nat → V) (p : Nat → Bool) (hD : H1 D = none) (hl : z.length < sizeLine)
    (hs : ∀ (c : Nat) H (R : Option V → Hp → Prop), c ∈ z.cps.toList → Kd F H1 H → (∀ H4, p c = true → Kd F H H4 → R (some (f c)) H4) → (∀ H3, p c = false → Kd F H H3 → R none H3) →
      g (.str ⟨#[c]⟩) (wipe σ vs) H fun σ2 H2 => wipe σ2 vs = wipe σ vs ∧ tt σ2 H2 fun b H3 => if b = true then te σ2 H3 fun y H4 => R (some y) H4 else R none H3)
    (hd : ∀ H, Kd F H1 H → H D = some (.lst ((z.cps.toList.filter p).map f)) → Qd H) : LcW (Its z) g tt te vs σ H1 D Qd := by
  have w : Walk (Its z) z.cps.toList.length (fun _ => True) (fun i H v H' => H' = H ∧ ∃ c, z.cps[i]? = some c ∧ v = .str ⟨#[c]⟩) := by
    rw [Array.length_toList]
    exact walk_str
  refine lc_fm w F (fun c => .str ⟨#[c]⟩) f p hD (by rw [Array.length_toList]; exact hl) ?_ (fun _ _ => trivial) hs hd
  rintro i H x H' ⟨rfl, c, hc, rfl⟩
  exact ⟨rfl, c, by rw [Array.getElem?_toList]; exact hc, rfl⟩
/-- over a range from nought -/
theorem lcR (n : Nat) (F : List Addr) (f : Nat → V) (p : Nat → Bool) (hD : H1 D = none) (hl : n < sizeLine)
    (hs : ∀ (c : Nat) H (R : Option V → Hp → Prop), c ∈ List.range n → Kd F H1 H → (∀ H4, p c = true → Kd F H H4 → R (some (f c)) H4) → (∀ H3, p c = false → Kd F H H3 → R none H3) →
      g (.int (0 + (c : Nat))) (wipe σ vs) H fun σ2 H2 => wipe σ2 vs = wipe σ vs ∧ tt σ2 H2 fun b H3 => if b = true then te σ2 H3 fun y H4 => R (some y) H4 else R none H3)
    (hd : ∀ H, Kd F H1 H → H D = some (.lst (((List.range n).filter p).map f)) → Qd H) : LcW (Itr 0 n) g tt te vs σ H1 D Qd := by
  have w := walk_range (lo := 0) (n := n)
  have w' : Walk (Itr 0 n) (List.range n).length (fun _ => True) (fun i H x H' => i < n ∧ YFn (fun i => .int (0 + (i : Nat))) i H x H') := by
    rw [List.length_range]
    exact w.mono (fun _ h => h) fun i H x H' hi _ y => ⟨hi, y⟩
  refine lc_fm w' F (fun c => .int (0 + (c : Nat))) f p hD (by rw [List.length_range]; exact hl) ?_ (fun _ _ => trivial) hs hd
  rintro i H x H' ⟨hi, rfl, rfl⟩
  exact ⟨rfl, i, List.getElem?_range hi, rfl⟩
/-- over a dict's keys, the dict locked -/
theorem lcK {β : Type} (l : List (Str × β)) (gv : β → V) (F : List Addr) (f : Str → V) (p : Str → Bool) (hD : H1 D = none) (hl : l.length < sizeLine) (hq : H1 d = some (.frz o (.dK (kvOf gv l))))
    (hs : ∀ a H (R : Option V → Hp → Prop), a ∈ keys l → Kd F H1 H → (∀ H4, p a = true → Kd F H H4 → R (some (f a)) H4) → (∀ H3, p a = false → Kd F H H3 → R none H3) →
      g (.str a) (wipe σ vs) H fun σ2 H2 => wipe σ2 vs = wipe σ vs ∧ tt σ2 H2 fun b H3 => if b = true then te σ2 H3 fun y H4 => R (some y) H4 else R none H3)
    (hd : ∀ H, Kd F H1 H → H D = some (.lst (((keys l).filter p).map f)) → Qd H) : LcW (Itk d o (kvOf gv l)) g tt te vs σ H1 D Qd := by
  have w := walk_keys (d := d) (o := o) (kvs := kvOf gv l)
  have w' : Walk (Itk d o (kvOf gv l)) (keys l).length (fun H => H d = some (.frz o (.dK (kvOf gv l)))) (fun i H x H' => H' = H ∧ ∃ k v, (kvOf gv l)[i]? = some (k, v) ∧ x = kV k) := by
    have e : (keys l).length = (kvOf gv l).length := by rw [kvOf_len]; unfold keys; rw [List.length_map]
    rw [e]
    exact w
  refine lc_fm w' F V.str f p hD (by unfold keys; rw [List.length_map]; exact hl) ?_ (fun H k => k.frz hq) hs hd
  rintro i H x H' ⟨rfl, k, v, hk, rfl⟩
  unfold kvOf at hk
  rw [List.getElem?_map] at hk
  cases e : l[i]? with
  | none => rw [e] at hk; cases hk
  | some q =>
    rw [e] at hk
    cases hk
    exact ⟨rfl, q.1, by unfold keys; rw [List.getElem?_map, e]; rfl, rfl⟩
/-- each turn makes a tuple -/
theorem lc_rows {xs : List α} (w : Walk J xs.length G Y) (F : List Addr) (fx : α → V) (row : α → List V) (hD : H1 D = none) (hl : xs.length < sizeLine)
    (hY : ∀ i H x H', Y i H x H' → H' = H ∧ ∃ a, xs[i]? = some a ∧ x = fx a) (hG : ∀ H, Kd F H1 H → G H)
    (hs : ∀ a H (R : V → Hp → Prop), a ∈ xs → Kd F H1 H → (∀ H4 t, Kd F H H4 → H4 t = some (.tup (row a)) → R (.ref t) H4) →
      g (fx a) (wipe σ vs) H fun σ2 H2 => wipe σ2 vs = wipe σ vs ∧ te σ2 H2 fun y H4 => R y H4)
    (hd : ∀ H, Kd F H1 H → Rows H D (xs.map row) → Qd H) :
    ∃ W : Nat → Nat → Hp → Prop, (∃ m, W 0 m (upd H1 D (.lst []))) ∧ ∀ i m H, W i m H →
      (J.stop i H ∧ Qd H) ∨ (J.go i H ∧ ∃ Nx : Hp → Prop, (∀ H', Nx H' → ∃ m', m' < m ∧ W (i + 1) m' H') ∧ ∀ x H', J.yld i H x H' → g x (wipe σ vs) H' fun σ2 H2 => wipe σ2 vs = wipe σ vs ∧ tYes σ2 H2 fun b H3 =>
        if b = true then te σ2 H3 fun y H4 => ∃ acc, H4 D = some (.lst acc) ∧ acc.length < sizeLine ∧ Nx (upd H4 D (.lst (acc ++ [y]))) else Nx H3) := by
  refine lc_it (tt := tYes) w (fun i H => Kd F H1 H ∧ ∃ ts : List Addr, H D = some (.lst (ts.map V.ref)) ∧ ts.length = i ∧ ∀ (j : Nat) t a, ts[j]? = some t → xs[j]? = some a → H t = some (.tup (row a))) ⟨Kd.new hD, [], upd_same, rfl, fun j t a z => by simp at z⟩ (fun i H _ h => hG H h.1) ?_ ?_
  · rintro i x H H' hi ⟨kd, ts, hd, hlen, hts⟩ y
    obtain ⟨rfl, a, ha, rfl⟩ := hY i H x H' y
    refine hs a H' (fun y H4 => ∃ acc, H4 D = some (.lst acc) ∧ acc.length < sizeLine ∧ (Kd F H1 (upd H4 D (.lst (acc ++ [y]))) ∧ ∃ ts : List Addr, (upd H4 D (.lst (acc ++ [y]))) D = some (.lst (ts.map V.ref)) ∧ ts.length = i + 1 ∧ ∀ (j : Nat) t a, ts[j]? = some t → xs[j]? = some a → (upd H4 D (.lst (acc ++ [y]))) t = some (.tup (row a)))) (List.mem_of_getElem? ha) kd ?_
    intro H4 t k4 ht
    have hd4 := k4.lst hd
    have ne : t ≠ D := fun e => by
      rw [e, hd4] at ht
      cases ht
    refine ⟨_, hd4, by rw [List.length_map]; omega, Kd.mut (kd.trans k4) hD, ts ++ [t], ?_, by rw [List.length_append, hlen]; rfl, ?_⟩
    · rw [upd_same, List.map_append]
      rfl
    · intro j u b hj hb
      by_cases e : j < ts.length
      · rw [List.getElem?_append_left e] at hj
        have q := k4.tup (hts j u b hj hb)
        have ne2 : u ≠ D := fun e => by
          rw [e, hd4] at q
          cases q
        rw [upd_ne ne2]
        exact q
      · have e2 : j = ts.length := by
          have := (List.getElem?_eq_some_iff.mp hj).1
          rw [List.length_append] at this
          have : [t].length = 1 := rfl
          omega
        subst e2
        rw [List.getElem?_append_right (Nat.le_refl _), Nat.sub_self] at hj
        cases hj
        rw [hlen, ha] at hb
        cases hb
        rw [upd_ne ne]
        exact ht
  · rintro H ⟨kd, ts, h, hlen, hts⟩
    refine hd H kd ⟨ts, h, by rw [List.length_map]; exact hlen, fun j t r h1 h2 => ?_⟩
    rw [List.getElem?_map] at h2
    cases e : xs[j]? with
    | none => rw [e] at h2; cases h2
    | some a =>
      rw [e] at h2
      cases h2
      exact hts j t a h1 e
theorem lcRowsL (xs : List α) (F : List Addr) (fx : α → V) (row : α → List V) (hD : H1 D = none) (hl : xs.length < sizeLine) (hq : SqL K H1 a (xs.map fx))
    (hs : ∀ a H (R : V → Hp → Prop), a ∈ xs → Kd F H1 H → (∀ H4 t, Kd F H H4 → H4 t = some (.tup (row a)) → R (.ref t) H4) →
      g (fx a) (wipe σ vs) H fun σ2 H2 => wipe σ2 vs = wipe σ vs ∧ te σ2 H2 fun y H4 => R y H4)
    (hd : ∀ H, Kd F H1 H → Rows H D (xs.map row) → Qd H) : LcW (Itl K a) g tYes te vs σ H1 D Qd :=
  lc_rows (walk_listM fx) F fx row hD hl (yat_map fx) (fun H k => k.sqL hq) hs hd
theorem walk_keysS {β : Type} (l : List (Str × β)) (gv : β → V) : Walk (Itk d o (kvOf gv l)) (keys l).length (fun H => H d = some (.frz o (.dK (kvOf gv l)))) (fun i H x H' => H' = H ∧ ∃ a, (keys l)[i]? = some a ∧ x = V.str a) := by
  have w := walk_keys (d := d) (o := o) (kvs := kvOf gv l)
  have e : (keys l).length = (kvOf gv l).length := by rw [kvOf_len]; unfold keys; rw [List.length_map]
  rw [e]
  refine w.mono (fun _ h => h) ?_
  rintro i H x H' _ _ ⟨rfl, k, v, hk, rfl⟩
  unfold kvOf at hk
  rw [List.getElem?_map] at hk
  cases e : l[i]? with
  | none => rw [e] at hk; cases hk
  | some q =>
    rw [e] at hk
    cases hk
    exact ⟨rfl, q.1, by unfold keys; rw [List.getElem?_map, e]; rfl, rfl⟩
theorem lcRowsK {β : Type} (l : List (Str × β)) (gv : β → V) (F : List Addr) (row : Str → List V) (hD : H1 D = none) (hl : l.length < sizeLine) (hq : H1 d = some (.frz o (.dK (kvOf gv l))))
    (hs : ∀ a H (R : V → Hp → Prop), a ∈ keys l → Kd F H1 H → (∀ H4 t, Kd F H H4 → H4 t = some (.tup (row a)) → R (.ref t) H4) →
      g (.str a) (wipe σ vs) H fun σ2 H2 => wipe σ2 vs = wipe σ vs ∧ te σ2 H2 fun y H4 => R y H4)
    (hd : ∀ H, Kd F H1 H → Rows H D ((keys l).map row) → Qd H) : LcW (Itk d o (kvOf gv l)) g tYes te vs σ H1 D Qd :=
  lc_rows (walk_keysS l gv) F V.str row hD (by unfold keys; rw [List.length_map]; exact hl) (fun _ _ _ _ h => h) (fun H k => k.frz hq) hs hd
end
/-! rules with the fragment told -/
section
variable {X : Cx} {K : PySem.W.Frag}
theorem pe_fldK {e : Expr} {f : Str} {pos : Pos} {ta : TE} (K : PySem.W.Frag) (hK : X.K = K) (he : PE X e ta) (hb : attributeBase e f X.env (eval e X.env) = eval e X.env) : PE X (.Attribute e f pos) (tFld K ta f) := by
  subst hK
  exact pe_fld he hb
theorem ix_listK (K : PySem.W.Frag) (hK : X.K = K) : IxR X (rIxL K) := hK ▸ ix_list
theorem ix_tupK (K : PySem.W.Frag) (hK : X.K = K) : IxR X (rIxT K) := hK ▸ ix_tup
theorem op_in_seqK (K : PySem.W.Frag) (hK : X.K = K) : OpR X (compareOp .In) (rIn K false) := hK ▸ op_in_seq
theorem op_notIn_seqK (K : PySem.W.Frag) (hK : X.K = K) : OpR X (compareOp .NotIn) (rIn K true) := hK ▸ op_notIn_seq
def rLenQ (K : PySem.W.Frag) : List V → Hp → VK → Prop := fun xs H Q => ∃ p ys, xs = [.ref p] ∧ (SqL K H p ys ∨ SqT K H p ys) ∧ Q (.int ys.length) H
theorem call_len_seqK (K : PySem.W.Frag) (hK : X.K = K) : CallR X (.builtin "len") (rLenQ K) := hK ▸ call_len_seq
def rListQ (K : PySem.W.Frag) : List V → Hp → VK → Prop := fun xs H Q => ∃ p ys, xs = [.ref p] ∧ (SqL K H p ys ∨ SqT K H p ys) ∧ ∀ l, H l = none → Q (.ref l) (upd H l (.lst ys))
theorem call_list_ofK (K : PySem.W.Frag) (hK : X.K = K) : CallR X (.type "list") (rListQ K) := hK ▸ call_list_of
theorem op_neDK (K : PySem.W.Frag) (hK : X.K = K) (hu : X.A.units + 64 < cLine) : OpR X (compareOp .NotEq) (rNeD K) := hK ▸ op_neD hu
theorem pi_listK {tg l : Expr} {tl : TE} (K : PySem.W.Frag) (hK : X.K = K) (hl : PE X l tl) : PI X tg l (iList K tl) := hK ▸ pi_list hl
end
/-! loops over lists, dicts, ranges -/
section
variable {K : PySem.W.Frag} {a d : Addr} {o : Obj} {α : Type} {g : TG} {tb : TS} {D : Ends} {σ : L2.St} {H : Hp}
abbrev ForW (J : It) (g : TG) (tb : TS) (D : Ends) (σ : L2.St) (H : Hp) : Prop :=
  ∃ W : Nat → Nat → L2.St → Hp → Prop, (∃ m, W 0 m σ H) ∧ ∀ i m σ H, W i m σ H →
      (J.stop i H ∧ D.nx σ H) ∨ (J.go i H ∧ ∃ N : L2.St → Hp → Prop, (∀ σ' H', N σ' H' → ∃ m', m' < m ∧ W (i + 1) m' σ' H') ∧ ∀ x H', J.yld i H x H' → g x σ H' fun σ2 H2 => tb { D with nx := N, ct := N, bk := D.nx } σ2 H2)
theorem forL (xs : List α) (fx : α → V) (Pv : Nat → L2.St → Hp → Prop) (h0 : Pv 0 σ H) (hq : ∀ i σ H, Pv i σ H → SqL K H a (xs.map fx))
    (hs : ∀ i x σ H, xs[i]? = some x → Pv i σ H → g (fx x) σ H fun σ2 H2 => tb { D with nx := Pv (i + 1), ct := Pv (i + 1), bk := D.nx } σ2 H2) (hd : ∀ σ H, Pv xs.length σ H → D.nx σ H) : ForW (Itl K a) g tb D σ H := by
  refine for_it (walk_listM fx) Pv h0 (fun i σ H _ h => hq i σ H h) ?_ hd
  rintro i x σ H H' hi p y
  obtain ⟨rfl, z, hz, rfl⟩ := yat_map fx i H x H' y
  exact hs i z σ H' hz p
theorem forR (n : Nat) (Pv : Nat → L2.St → Hp → Prop) (h0 : Pv 0 σ H)
    (hs : ∀ i σ H, i < n → Pv i σ H → g (.int (0 + (i : Nat))) σ H fun σ2 H2 => tb { D with nx := Pv (i + 1), ct := Pv (i + 1), bk := D.nx } σ2 H2) (hd : ∀ σ H, Pv n σ H → D.nx σ H) : ForW (Itr 0 n) g tb D σ H := by
  refine for_it walk_range Pv h0 (fun _ _ _ _ _ => trivial) ?_ hd
  rintro i x σ H H' hi p ⟨rfl, rfl⟩
  exact hs i σ H' hi p
theorem forKeys {β : Type} (l : List (Str × β)) (gv : β → V) (Pv : Nat → L2.St → Hp → Prop) (h0 : Pv 0 σ H) (hq : ∀ i σ H, Pv i σ H → H d = some (.frz o (.dK (kvOf gv l))))
    (hs : ∀ i x σ H, (keys l)[i]? = some x → Pv i σ H → g (.str x) σ H fun σ2 H2 => tb { D with nx := Pv (i + 1), ct := Pv (i + 1), bk := D.nx } σ2 H2) (hd : ∀ σ H, Pv (keys l).length σ H → D.nx σ H) : ForW (Itk d o (kvOf gv l)) g tb D σ H := by
  refine for_it (walk_keysS l gv) Pv h0 (fun i σ H _ h => hq i σ H h) ?_ hd
  rintro i x σ H H' hi p ⟨rfl, z, hz, rfl⟩
  exact hs i z σ H' hz p
end
/-! a reading that gives a value and keeps the heap -/
def EvK (te : TE) (σ : L2.St) (H : Hp) (v : V) : Prop := ∀ Q : VK, (∀ H', Kd [] H H' → Q v H') → te σ H Q
def TrK (t : TT) (σ : L2.St) (H : Hp) (b : Bool) : Prop := ∀ Q : Bool → Hp → Prop, (∀ H', Kd [] H H' → Q b H') → t σ H Q
section
variable {ta tb : TE} {t u : TT} {σ : L2.St} {H : Hp} {b c : Bool}
theorem evk_and (h1 : EvK ta σ H (.bl b)) (h2 : b = true → ∀ H', Kd [] H H' → EvK tb σ H' (.bl c)) : EvK (tAndV ta tb) σ H (.bl (b && c)) := fun Q q => h1 _ fun H1 k1 => ⟨b, rfl, iteB (fun e => h2 e H1 k1 _ fun H2 k2 => by
  have := q H2 (k1.trans k2)
  rw [e, Bool.true_and] at this
  exact this) fun e => by
  have := q H1 k1
  rw [e, Bool.false_and] at this
  exact this⟩
theorem trk_and (h1 : TrK t σ H b) (h2 : b = true → ∀ H', Kd [] H H' → TrK u σ H' c) : TrK (tAnd t u) σ H (b && c) := fun Q q => h1 _ fun H1 k1 => iteB (fun e => h2 e H1 k1 _ fun H2 k2 => by
  have := q H2 (k1.trans k2)
  rw [e, Bool.true_and] at this
  exact this) fun e => by
  have := q H1 k1
  rw [e, Bool.false_and] at this
  exact this
theorem trk_or (h1 : TrK t σ H b) (h2 : b = false → ∀ H', Kd [] H H' → TrK u σ H' c) : TrK (tOr t u) σ H (b || c) := fun Q q => h1 _ fun H1 k1 => iteB (fun e => by
  have := q H1 k1
  rw [e, Bool.true_or] at this
  exact this) fun e => h2 e H1 k1 _ fun H2 k2 => by
  have := q H2 (k1.trans k2)
  rw [e, Bool.false_or] at this
  exact this
theorem trk_not (h1 : TrK t σ H b) : TrK (tNot t) σ H (!b) := fun Q q => h1 _ fun H1 k1 => q H1 k1
end
/-! what `in` answers -/
theorem inV_int (d : Int) : ∀ l : List Int, inV (.int d) (l.map V.int) = decide (d ∈ l)
  | [] => rfl
  | x :: r => by
    have ih := inV_int d r
    unfold inV at ih ⊢
    rw [List.map_cons, List.any_cons, ih]
    have e : eqV (.int x) (.int d) = decide (x = d) := by
      show (x == d) = _
      rfl
    rw [e, Bool.eq_iff_iff, Bool.or_eq_true, decide_eq_true_iff, decide_eq_true_iff, decide_eq_true_iff, List.mem_cons]
    exact or_congr ⟨Eq.symm, Eq.symm⟩ Iff.rfl
theorem inV_str (d : Str) : ∀ l : List Str, inV (.str d) (l.map V.str) = decide (d ∈ l)
  | [] => rfl
  | x :: r => by
    have ih := inV_str d r
    unfold inV at ih ⊢
    rw [List.map_cons, List.any_cons, ih]
    have e : eqV (.str x) (.str d) = decide (x = d) := by
      show (x == d) = _
      rw [Bool.eq_iff_iff]
      simp
    rw [e, Bool.eq_iff_iff, Bool.or_eq_true, decide_eq_true_iff, decide_eq_true_iff, decide_eq_true_iff, List.mem_cons]
    exact or_congr ⟨Eq.symm, Eq.symm⟩ Iff.rfl
theorem flat_int (l : List Int) : (l.map V.int).all flatV = true := by
  rw [List.all_eq_true]
  intro x hx
  obtain ⟨c, hc, rfl⟩ := List.mem_map.mp hx
  rfl
theorem flat_str (l : List Str) : (l.map V.str).all flatV = true := by
  rw [List.all_eq_true]
  intro x hx
  obtain ⟨c, hc, rfl⟩ := List.mem_map.mp hx
  rfl
end KB
/-! part KC -/
/-! Counting by a dict; rows as pairs of a dict. -/
namespace KB
open PySem L2 PyProof PyProof.Rows
theorem mergeK_kv {α : Type} (g : α → V) : ∀ (b a : List (Str × α)), (keys (a ++ b)).Nodup → mergeK (kvOf g a) (kvOf g b) = kvOf g (a ++ b)
  | [], a, _ => by rw [List.append_nil]; rfl
  | p :: r, a, nd => by
    have hn : p.1 ∉ keys a := by
      unfold keys at nd ⊢
      rw [List.map_append, List.map_cons, List.nodup_append] at nd
      exact fun h => nd.2.2 _ h _ (List.mem_cons_self ..) rfl
    show mergeK (L2.putK (kvOf g a) (Sum.inr p.1) (g p.2)) (kvOf g r) = _
    rw [putK_kv, aput_new hn]
    have e : a ++ [(p.1, p.2)] ++ r = a ++ p :: r := by simp
    rw [mergeK_kv g r (a ++ [(p.1, p.2)]) (by rw [e]; exact nd), e]
theorem mergeK_nil {α : Type} (g : α → V) (l : List (Str × α)) (nd : (keys l).Nodup) : mergeK [] (kvOf g l) = kvOf g l := mergeK_kv g l [] nd
theorem paired_of {α β γ : Type} {F : α → β → Prop} (f : γ → β) : ∀ (ts : List α) (xs : List γ), ts.length = xs.length → (∀ (i : Nat) t x, ts[i]? = some t → xs[i]? = some x → F t (f x)) → Paired F ts (xs.map f)
  | [], [], _, _ => .nil
  | [], _ :: _, h, _ => by simp at h
  | _ :: _, [], h, _ => by simp at h
  | t :: ts, x :: xs, h, k => .cons (k 0 t x rfl rfl) (paired_of f ts xs (by simpa using h) fun i t' x' h1 h2 => k (i + 1) t' x' (by simpa using h1) (by simpa using h2))
/-! counting -/
def addC (l : List (Str × Int)) (x : Str) : List (Str × Int) := aput l x ((aget l x).getD 0 + 1)
theorem aput_aput {α : Type} {l : List (Str × α)} {n : Str} {x y : α} : aput (aput l n x) n y = aput l n y := by
  by_cases h : n ∈ keys l
  · rw [aput_old (l := aput l n x) (mem_keys_aput.mpr (.inl rfl)), aput_old h, aput_old h, List.map_map]
    apply List.map_congr_left
    intro p _
    show (if (if p.1 = n then (p.1, x) else p).1 = n then ((if p.1 = n then (p.1, x) else p).1, y) else (if p.1 = n then (p.1, x) else p)) = _
    by_cases e : p.1 = n
    · rw [if_pos e, if_pos e, if_pos e]
    · rw [if_neg e, if_neg e]
  · rw [aput_new h, aput_new h, aput_old (by unfold keys; rw [List.map_append]; simp), List.map_append]
    congr 1
    · conv => rhs; rw [← List.map_id l]
      apply List.map_congr_left
      intro p hp
      rw [if_neg fun e => h (by rw [← e]; exact List.mem_map.mpr ⟨p, hp, rfl⟩)]
      rfl
    · show [if n = n then (n, y) else (n, x)] = _
      rw [if_pos rfl]
theorem aget_addC : ∀ (M : List Str) (l : List (Str × Int)) (x : Str), aget (M.foldl addC l) x = if x ∈ M then some ((aget l x).getD 0 + (M.count x : Nat)) else aget l x
  | [], l, x => by simp
  | y :: r, l, x => by
    rw [List.foldl_cons, aget_addC r (addC l y) x]
    unfold addC
    rw [aget_aput, List.count_cons]
    by_cases e : x = y
    · subst e
      rw [if_pos rfl]
      by_cases h : x ∈ r
      · rw [if_pos h, if_pos (List.mem_cons_self ..)]
        simp only [Option.getD_some, beq_self_eq_true, if_true]
        congr 1
        omega
      · rw [if_neg h, if_pos (List.mem_cons_self ..), List.count_eq_zero_of_not_mem h]
        simp only [Option.getD_some, beq_self_eq_true, if_true]
        congr 1
    · have e2 : (y == x) = false := by
        rw [beq_eq_false_iff_ne]
        exact fun z => e z.symm
      rw [if_neg e, e2]
      by_cases h : x ∈ r
      · rw [if_pos h, if_pos (List.mem_cons_of_mem _ h)]
        simp
      · rw [if_neg h, if_neg (by simp [e, h])]
theorem nodup_addC : ∀ (M : List Str) (l : List (Str × Int)), (keys l).Nodup → (keys (M.foldl addC l)).Nodup
  | [], _, h => h
  | y :: r, l, h => nodup_addC r (addC l y) (nodup_aput h)
theorem keys_addC {M : List Str} {x : Str} : x ∈ keys (M.foldl addC []) ↔ x ∈ M := by
  rw [← aget_isSome, aget_addC]
  by_cases h : x ∈ M
  · simp [h]
  · simp [h, aget]
theorem mem_uniq : ∀ {l : List Str} {x : Str}, x ∈ uniq l ↔ x ∈ l
  | [], x => by simp [uniq]
  | y :: r, x => by
    unfold uniq
    rw [List.mem_cons, List.mem_filter, mem_uniq, List.mem_cons]
    by_cases e : x = y
    · simp [e]
    · simp [e]
theorem nodup_uniq : ∀ l : List Str, (uniq l).Nodup
  | [] => List.nodup_nil
  | y :: r => by
    unfold uniq
    rw [List.nodup_cons]
    exact ⟨by simp, (nodup_uniq r).filter _⟩
theorem srt_addC (M : List Str) : srt (keys (M.foldl addC [])) = srt (uniq M) := by
  have nd : (keys (M.foldl addC [])).Nodup := nodup_addC M [] List.nodup_nil
  exact SS_unique (srt_SS nd) (srt_SS (nodup_uniq M)) fun x => by rw [mem_srt, mem_srt, keys_addC, mem_uniq]
theorem keys_counts (M : List Str) : keys (countsOf M) = srt (uniq M) := by
  unfold keys countsOf
  rw [List.map_map]
  exact List.map_id _
theorem nodup_counts (M : List Str) : (keys (countsOf M)).Nodup := by
  rw [keys_counts]
  exact srt_nodup (nodup_uniq M)
end KB
/-! part KD -/
/-! Data: texts, ints, a question's parts. -/
namespace KB
open PySem L2 PyProof PyProof.Rows
theorem strOk_of {z : Str} (h : ∀ c ∈ z.cps.toList, c < 128) : PyData.strOk z = true := by
  unfold PyData.strOk
  rw [Array.all_eq_true']
  intro c hc
  exact decide_eq_true (Nat.lt_of_lt_of_le (h c (Array.mem_toList_iff.mpr hc)) (by decide))
theorem letters_small : ∀ c ∈ letters.cps.toList, c < 128 := by decide +kernel
theorem signs_small : ∀ c ∈ signs.cps.toList, c < 128 := by decide +kernel
theorem strOk_name {z : Str} (h : NameOk z) : PyData.strOk z = true := strOk_of fun c hc => letters_small c (h.2.2 c hc)
theorem strOk_text {z : Str} (h : TextOk z) : PyData.strOk z = true := strOk_of fun c hc => signs_small c (h.2.2.1 c hc)
theorem strOk_kin {z : Str} (h : z = "" ∨ NameOk z) : PyData.strOk z = true := by
  rcases h with rfl | h
  · decide +kernel
  · exact strOk_name h
abbrev dS (l : List Str) : List PyData := l.map PyData.str
abbrev dI (l : List Int) : List PyData := l.map PyData.int
theorem eqvAll_str : ∀ l k : List Str, PyData.eqvAll (dS l) (dS k) = decide (l = k)
  | [], [] => by simp [dS, PyData.eqvAll]
  | [], _ :: _ => by simp [dS, PyData.eqvAll]
  | _ :: _, [] => by simp [dS, PyData.eqvAll]
  | x :: r, y :: q => by
    have ih := eqvAll_str r q
    show (PyData.eqv (.str x) (.str y) && PyData.eqvAll (dS r) (dS q)) = _
    rw [ih, Bool.eq_iff_iff]
    simp [PyData.eqv]
theorem eqvAll_int : ∀ l k : List Int, PyData.eqvAll (dI l) (dI k) = decide (l = k)
  | [], [] => by simp [dI, PyData.eqvAll]
  | [], _ :: _ => by simp [dI, PyData.eqvAll]
  | _ :: _, [] => by simp [dI, PyData.eqvAll]
  | x :: r, y :: q => by
    have ih := eqvAll_int r q
    show (PyData.eqv (.int x) (.int y) && PyData.eqvAll (dI r) (dI q)) = _
    rw [ih, Bool.eq_iff_iff]
    simp [PyData.eqv]
theorem canAll_str : ∀ {l : List Str}, (∀ z ∈ l, PyData.strOk z = true) → PyData.canLayAll0 (dS l) = true
  | [], _ => rfl
  | x :: r, h => by
    show (PyData.canLay0 (.str x) && PyData.canLayAll0 (dS r)) = true
    rw [canAll_str fun z hz => h z (List.mem_cons_of_mem _ hz), Bool.and_true]
    exact h x (List.mem_cons_self ..)
theorem canAll_int : ∀ l : List Int, PyData.canLayAll0 (dI l) = true
  | [] => rfl
  | x :: r => by
    show (PyData.canLay0 (.int x) && PyData.canLayAll0 (dI r)) = true
    rw [canAll_int r]
    rfl
theorem depthAll_str : ∀ l : List Str, PyData.depthAll (dS l) = 0
  | [] => rfl
  | x :: r => by
    show max (PyData.depth (.str x)) (PyData.depthAll (dS r)) = 0
    rw [depthAll_str r]
    rfl
theorem depthAll_int : ∀ l : List Int, PyData.depthAll (dI l) = 0
  | [] => rfl
  | x :: r => by
    show max (PyData.depth (.int x)) (PyData.depthAll (dI r)) = 0
    rw [depthAll_int r]
    rfl
theorem shaped_strs {l : List Str} (h : ∀ z ∈ l, PyData.strOk z = true) : SeqAt.shaped (.list (dS l)) = true := by
  unfold SeqAt.shaped
  have e : PyData.depth (.list (dS l)) = PyData.depthAll (dS l) + 1 := rfl
  have e2 : PyData.canLay0 (.list (dS l)) = PyData.canLayAll0 (dS l) := rfl
  rw [e, e2, depthAll_str, canAll_str h]
  rfl
theorem shaped_ints (l : List Int) : SeqAt.shaped (.list (dI l)) = true := by
  unfold SeqAt.shaped
  have e : PyData.depth (.list (dI l)) = PyData.depthAll (dI l) + 1 := rfl
  have e2 : PyData.canLay0 (.list (dI l)) = PyData.canLayAll0 (dI l) := rfl
  rw [e, e2, depthAll_int, canAll_int]
  rfl
theorem eqv_strs (l k : List Str) : PyData.eqv (.list (dS l)) (.list (dS k)) = decide (l = k) := eqvAll_str l k
theorem eqv_ints (l k : List Int) : PyData.eqv (.list (dI l)) (.list (dI k)) = decide (l = k) := eqvAll_int l k
section
variable {K : PySem.W.Frag} {H : Hp}
theorem dpAll_str : ∀ l : List Str, DpAll K H (l.map V.str) (dS l)
  | [] => .nil
  | x :: r => .cons (.str x) (dpAll_str r)
theorem dpAll_int : ∀ l : List Int, DpAll K H (l.map V.int) (dI l)
  | [] => .nil
  | x :: r => .cons (.int x) (dpAll_int r)
theorem dp_strs {a : Addr} {l : List Str} (h : SqL K H a (l.map V.str)) : Dp K H (.ref a) (.list (dS l)) := .lst h (dpAll_str l)
theorem dp_ints {a : Addr} {l : List Int} (h : SqL K H a (l.map V.int)) : Dp K H (.ref a) (.list (dI l)) := .lst h (dpAll_int l)
end
/-! a question's parts -/
def qd (d : Qn) : PyData := .tuple [.str d.name, .str d.matter, .tuple (dS d.ans), .int d.right, .int d.toil, .int d.marks, .str d.kin]
theorem eqv_qd (d e : Qn) : PyData.eqv (qd d) (qd e) = decide (d = e) := by
  obtain ⟨n, m, a, r, t, k, c⟩ := d
  obtain ⟨n', m', a', r', t', k', c'⟩ := e
  have h : PyData.eqv (.tuple (dS a)) (.tuple (dS a')) = decide (a = a') := eqvAll_str a a'
  unfold qd
  simp only [PyData.eqv, PyData.eqvAll, Qn.mk.injEq] at h ⊢
  rw [h, Bool.eq_iff_iff]
  simp
theorem shaped_qd {d : Qn} (h : QOk d) : SeqAt.shaped (qd d) = true := by
  unfold SeqAt.shaped qd
  have e : PyData.depth (.tuple (dS d.ans)) = PyData.depthAll (dS d.ans) + 1 := rfl
  have e2 : PyData.canLay0 (.tuple (dS d.ans)) = PyData.canLayAll0 (dS d.ans) := rfl
  simp only [PyData.depth, PyData.depthAll, PyData.canLay0, PyData.canLayAll0, depthAll_str, canAll_str fun z hz => strOk_text (h.ans.2.2.2 z hz), strOk_name h.name, strOk_name h.matter, strOk_kin h.kin]
  decide
theorem dp_qd {K : PySem.W.Frag} {H : Hp} {p t : Addr} {d : Qn} (h : SqT K H p (rowV t d)) (ht : SqT K H t (d.ans.map V.str)) : Dp K H (.ref p) (qd d) :=
  .tup h (.cons (.str _) (.cons (.str _) (.cons (.tup ht (dpAll_str _)) (.cons (.int _) (.cons (.int _) (.cons (.int _) (.cons (.str _) .nil)))))))
end KB
/-! part KN -/
/-! Names that the law draws. -/
namespace KB
open PySem L2 PyProof PyProof.Rows
/-- the text of these signs -/
def sOf (cs : List Nat) : Str := ⟨cs.toArray⟩
def ones (cs : List Nat) : List Str := cs.map fun c => ⟨#[c]⟩
theorem sOf_list (cs : List Nat) : (sOf cs).cps.toList = cs := rfl
theorem sOf_len (cs : List Nat) : (sOf cs).length = cs.length := by
  unfold Str.length sOf
  simp
theorem join_ones : ∀ cs : List Nat, Txt.join (Str.ofString "") (ones cs) = sOf cs := by
  intro cs
  rw [eq_of_beq (join_plain_closes (Str.ofString "") (ones cs))]
  have e : Str.ofString "" = ⟨#[]⟩ := by decide +kernel
  rw [e]
  exact join_nil_signs (sOf cs)
def ownL : List Str := ["in", "out", "wrong", "all", "none", "used", "bank", "kin", "with", "rest", "toil", "marks", "many", "name", "of", "right", "matter", "question", "put"]
theorem ownL_ok : ∀ z ∈ ownL, NameOk z := by decide +kernel
theorem ownL_nd : ownL.Nodup := by decide +kernel
def letL : List Nat := letters.cps.toList
theorem letL_len : letL.length = 26 := by decide +kernel
theorem letL_nd : letL.Nodup := by decide +kernel
def ownAt (f : Int) (k : Nat) : Str := (ownL[((f + 3 * (0 + (k : Int))) % 19).toNat]?).getD Str.empty
def letAt (f : Int) (k : Nat) : Nat := (letL[((f + 5 * (0 + (k : Int))) % 26).toNat]?).getD 0
theorem ownAt_get (f : Int) (k : Nat) : ownL[((f + 3 * (0 + (k : Int))) % 19).toNat]? = some (ownAt f k) := by
  have h0 : 0 ≤ (f + 3 * (0 + (k : Int))) % 19 := Int.emod_nonneg _ (by decide)
  have h1 : (f + 3 * (0 + (k : Int))) % 19 < 19 := Int.emod_lt_of_pos _ (by decide)
  have hl : ((f + 3 * (0 + (k : Int))) % 19).toNat < ownL.length := by show _ < 19; omega
  unfold ownAt
  rw [List.getElem?_eq_getElem hl]
  rfl
theorem letAt_get (f : Int) (k : Nat) : letL[((f + 5 * (0 + (k : Int))) % 26).toNat]? = some (letAt f k) := by
  have h0 : 0 ≤ (f + 5 * (0 + (k : Int))) % 26 := Int.emod_nonneg _ (by decide)
  have h1 : (f + 5 * (0 + (k : Int))) % 26 < 26 := Int.emod_lt_of_pos _ (by decide)
  have hl : ((f + 5 * (0 + (k : Int))) % 26).toNat < letL.length := by rw [letL_len]; omega
  unfold letAt
  rw [List.getElem?_eq_getElem hl]
  rfl
def nmAt (way first : Int) (size : Nat) (cs : List Nat) (k : Nat) : Str := if way = 0 then ownAt first k else if way = 1 then sOf (cs.take (k + 1)) else sOf (cs.take size ++ [letAt first k])
theorem sOf_ok {cs : List Nat} (h1 : 1 ≤ cs.length) (h8 : cs.length ≤ 8) (h : ∀ c ∈ cs, c ∈ letL) : NameOk (sOf cs) := ⟨by rw [sOf_len]; exact h1, by rw [sOf_len]; exact h8, h⟩
theorem nmAt_ok {way first : Int} {size : Nat} {cs : List Nat} (hl : cs.length = 8) (hc : ∀ c ∈ cs, c ∈ letL) (hs : size ≤ 7) {k : Nat} (hk : k < 8) : NameOk (nmAt way first size cs k) := by
  unfold nmAt
  by_cases w0 : way = 0
  · rw [if_pos w0]
    exact ownL_ok _ (List.mem_of_getElem? (ownAt_get first k))
  · rw [if_neg w0]
    by_cases w1 : way = 1
    · rw [if_pos w1]
      exact sOf_ok (by rw [List.length_take]; omega) (by rw [List.length_take]; omega) fun c h => hc c (List.mem_of_mem_take h)
    · rw [if_neg w1]
      refine sOf_ok (by rw [List.length_append]; show 1 ≤ _ + 1; omega) (by rw [List.length_append, List.length_take]; show _ + 1 ≤ 8; omega) fun c h => ?_
      rcases List.mem_append.mp h with h | h
      · exact hc c (List.mem_of_mem_take h)
      · rw [List.mem_singleton.mp h]
        exact List.mem_of_getElem? (letAt_get first k)
theorem sOf_inj {a b : List Nat} (h : sOf a = sOf b) : a = b := by
  have : (sOf a).cps.toList = (sOf b).cps.toList := by rw [h]
  exact this
theorem nmAt_inj {way first : Int} {size : Nat} {cs : List Nat} (hl : cs.length = 8) {i j : Nat} (hi : i < 8) (hj : j < 8) (e : nmAt way first size cs i = nmAt way first size cs j) : i = j := by
  unfold nmAt at e
  by_cases w0 : way = 0
  · rw [if_pos w0, if_pos w0] at e
    have e1 := ownAt_get first i
    have e2 := ownAt_get first j
    rw [← e] at e2
    have h1 : (first + 3 * (0 + (i : Int))) % 19 < 19 := Int.emod_lt_of_pos _ (by decide)
    have h0 : 0 ≤ (first + 3 * (0 + (i : Int))) % 19 := Int.emod_nonneg _ (by decide)
    have h0' : 0 ≤ (first + 3 * (0 + (j : Int))) % 19 := Int.emod_nonneg _ (by decide)
    have e3 := (List.getElem?_inj (by show _ < 19; omega) ownL_nd).mp (e1.trans e2.symm)
    omega
  · rw [if_neg w0, if_neg w0] at e
    by_cases w1 : way = 1
    · rw [if_pos w1, if_pos w1] at e
      have := congrArg List.length (sOf_inj e)
      rw [List.length_take, List.length_take] at this
      omega
    · rw [if_neg w1, if_neg w1] at e
      have := sOf_inj e
      have h2 := (List.append_inj' this rfl).2
      have e0 : letAt first i = letAt first j := by simpa using h2
      have e1 := letAt_get first i
      have e2 := letAt_get first j
      rw [← e0] at e2
      have h1 : (first + 5 * (0 + (i : Int))) % 26 < 26 := Int.emod_lt_of_pos _ (by decide)
      have h0 : 0 ≤ (first + 5 * (0 + (i : Int))) % 26 := Int.emod_nonneg _ (by decide)
      have h0' : 0 ≤ (first + 5 * (0 + (j : Int))) % 26 := Int.emod_nonneg _ (by decide)
      have e3 := (List.getElem?_inj (by rw [letL_len]; omega) letL_nd).mp (e1.trans e2.symm)
      omega
theorem nm_nd {way first : Int} {size : Nat} {cs : List Nat} (hl : cs.length = 8) {n : Nat} (hn : n ≤ 8) : ((List.range n).map (nmAt way first size cs)).Nodup := by
  rw [List.Nodup, List.pairwise_map]
  refine (List.Pairwise.and_mem.mp (List.pairwise_lt_range (n := n))).imp ?_
  intro i j h e
  have hi := List.mem_range.mp h.1
  have hj := List.mem_range.mp h.2.1
  have := nmAt_inj hl (by omega) (by omega) e
  have := h.2.2
  omega
theorem erase_perm {α : Type} {l : List α} {k : Nat} {y : α} (h : l[k]? = some y) : (y :: l.eraseIdx k).Perm l := by
  induction l generalizing k with
  | nil => simp at h
  | cons x r ih =>
    cases k with
    | zero =>
      cases h
      exact .refl _
    | succ k =>
      have h' : r[k]? = some y := by simpa using h
      show (y :: x :: r.eraseIdx k).Perm (x :: r)
      exact (List.Perm.swap x y _).trans ((ih h').cons x)
theorem map_erase {α β : Type} (f : α → β) : ∀ (l : List α) (k : Nat), (l.map f).eraseIdx k = (l.eraseIdx k).map f
  | [], _ => rfl
  | _ :: _, 0 => rfl
  | x :: r, k + 1 => by
    show f x :: (r.map f).eraseIdx k = f x :: (r.eraseIdx k).map f
    rw [map_erase f r k]
theorem seqIx {j n : Nat} (h : j < n) : seqIndex? (j : Int) n = some j := by
  rw [seqIndex_of (by omega) (by omega)]
  congr 1
theorem ones_sum : ∀ cs : List Nat, ((ones cs).map (·.length)).sum = cs.length
  | [] => rfl
  | c :: r => by
    show (⟨#[c]⟩ : Str).length + ((ones r).map (·.length)).sum = r.length + 1
    rw [ones_sum r]
    show 1 + _ = _
    omega
theorem ones_join_ok {cs : List Nat} (h : cs.length ≤ 20) : ((ones cs).map (·.length)).sum + (ones cs).length * (Str.ofString "").length ≤ 16777216 := by
  have e : (Str.ofString "").length = 0 := by decide +kernel
  rw [ones_sum, e]
  omega
theorem cut_ones (cs : List Nat) {i : Int} (h0 : 0 ≤ i) (h : i.toNat ≤ cs.length) : cutV ((ones cs).map V.str) none (some i) = (ones (cs.take i.toNat)).map V.str := by
  obtain ⟨k, rfl⟩ : ∃ k : Nat, i = (k : Int) := ⟨i.toNat, by omega⟩
  unfold cutV
  rw [HT.sIx_nat, HT.sIx_none]
  have e : ((ones cs).map V.str).length = cs.length := by unfold ones; rw [List.length_map, List.length_map]
  rw [e]
  have e2 : min k cs.length - 0 = k := by
    have : ((k : Int)).toNat = k := by omega
    omega
  have e3 : ((k : Int)).toNat = k := by omega
  rw [e2, e3]
  unfold ones
  rw [List.drop_zero, List.map_take, List.map_take]
theorem pe_bmK {X : Cx} {o e : Expr} {es : List Expr} {to : TE} {t : TA} {name : Str} {apos cpos : Pos} {T id : String} {r : V → List V → Hp → VK → Prop} (K : PySem.W.Frag) (hK : X.K = K) (pa : PlainAttrs T) (slot : Slot T name id) (hty : typeOf (.builtin id) = pure (.type "method_descriptor")) (hm : MtM X id r) (ho : PE X o to) (ha : PA X (e :: es) t)
    (hbase : attributeBase o name X.env (eval o X.env) = eval o X.env := by rfl)
    (hfew : ((backTo cpos (starEach (e :: es) X.env)).all (fun x => !x.1) && (backToKw cpos (keywordEach [] X.env)).all (fun x => x.1.isSome)
      && decide ((e :: es).length + ([] : List Keyword).length + (if ([] : List Keyword).isEmpty then 0 else 1) < 30)) = true := by rfl)
    (hline : (apos.endLine == cpos.line) = true := by rfl) (hs : starEach (e :: es) X.env = (false, eval e X.env) :: starEach es X.env := by rfl) (hplain : (backTo cpos (starEach es X.env)).any (·.1) = false := by rfl) :
    PE X (.Call (.Attribute o name apos) (e :: es) [] cpos) (tBM K T r to t) := hK ▸ pe_bm pa slot hty hm ho ha hbase hfew hline hs hplain
end KB
/-! part KM3 -/
/-! What the deeds keep. -/
namespace KB
open PySem L2
namespace Bk
theorem q_added (m : Bk) (a : Addr) (d : Qn) (p : Addr) (n : Str) : (m.added a d p).q n = if n = d.name then some d else m.q n := by
  unfold Bk.q Bk.added
  rw [aget_aput]
  by_cases h : n = d.name
  · rw [if_pos h, if_pos h]; rfl
  · rw [if_neg h, if_neg h]
theorem d_added (m : Bk) (a : Addr) (d : Qn) (p : Addr) (n : Str) : (m.added a d p).d n = if n = d.name then some [] else m.d n := by
  unfold Bk.d Bk.added
  rw [aget_aput]
  by_cases h : n = d.name
  · rw [if_pos h, if_pos h]; rfl
  · rw [if_neg h, if_neg h]
theorem q_putQ (m : Bk) (a : Addr) (d : Qn) (n : Str) : (m.putQ a d).q n = if n = d.name then some d else m.q n := by
  unfold Bk.q Bk.putQ
  rw [aget_aput]
  by_cases h : n = d.name
  · rw [if_pos h, if_pos h]; rfl
  · rw [if_neg h, if_neg h]
theorem r_takenOut (m : Bk) (k w n : Str) : (m.takenOut k w).r n = if n = k then some w else m.r n := aget_aput ..
theorem r_putBack (m : Bk) (k n : Str) : (m.putBack k).r n = if n = k then none else m.r n := aget_adrop ..
theorem d_setDays (m : Bk) (k : Str) (p : Addr) (l : List Int) (n : Str) : (m.setDays k p l).d n = if n = k then some l else m.d n := by
  unfold Bk.d Bk.setDays
  rw [aget_aput]
  by_cases h : n = k
  · rw [if_pos h, if_pos h]; rfl
  · rw [if_neg h, if_neg h]
theorem q_dropped (m : Bk) (k n : Str) : (m.dropped k).q n = if n = k then none else m.q n := by
  unfold Bk.q Bk.dropped
  rw [aget_adrop]
  by_cases h : n = k
  · rw [if_pos h, if_pos h]; rfl
  · rw [if_neg h, if_neg h]
theorem d_dropped (m : Bk) (k n : Str) : (m.dropped k).d n = if n = k then none else m.d n := by
  unfold Bk.d Bk.dropped
  rw [aget_adrop]
  by_cases h : n = k
  · rw [if_pos h, if_pos h]; rfl
  · rw [if_neg h, if_neg h]
theorem r_dropped (m : Bk) (k n : Str) : (m.dropped k).r n = if n = k then none else m.r n := aget_adrop ..
namespace Ok
variable {m : Bk}
theorem takenOut (h : m.Ok) {n w : Str} (hn : n ∈ keys m.kept) (hw : TextOk w) : (m.takenOut n w).Ok where
  kk := h.kk
  kout := nodup_aput h.kout
  kd := h.kd
  same := h.same
  sub x hx := by
    rcases mem_keys_aput.mp hx with rfl | hx
    · exact hn
    · exact h.sub x hx
  nm := h.nm
  ds := h.ds
  txt x t ht := by
    rw [r_takenOut] at ht
    by_cases e : x = n
    · rw [if_pos e] at ht; cases ht; exact hw
    · rw [if_neg e] at ht; exact h.txt x t ht
  len := h.len
theorem putBack (h : m.Ok) {n : Str} : (m.putBack n).Ok where
  kk := h.kk
  kout := nodup_adrop h.kout
  kd := h.kd
  same := h.same
  sub x hx := h.sub x (mem_keys_adrop.mp hx).1
  nm := h.nm
  ds := h.ds
  txt x t ht := by
    rw [r_putBack] at ht
    by_cases e : x = n
    · rw [if_pos e] at ht; cases ht
    · rw [if_neg e] at ht; exact h.txt x t ht
  len := h.len
theorem setDays (h : m.Ok) {n : Str} {p : Addr} {l : List Int} (hn : n ∈ keys m.kept) (hl : l.Pairwise (· < ·)) (hb : ∀ x ∈ l, 0 ≤ x ∧ x < 14) : (m.setDays n p l).Ok where
  kk := h.kk
  kout := h.kout
  kd := nodup_aput h.kd
  same x := by
    constructor
    · intro hx
      rcases mem_keys_aput.mp hx with rfl | hx
      · exact hn
      · exact (h.same x).mp hx
    · intro hx
      exact mem_keys_aput.mpr (.inr ((h.same x).mpr hx))
  sub := h.sub
  nm := h.nm
  ds x t ht := by
    rw [d_setDays] at ht
    by_cases e : x = n
    · rw [if_pos e] at ht; cases ht; exact ⟨hl, hb⟩
    · rw [if_neg e] at ht; exact h.ds x t ht
  txt := h.txt
  len := h.len
theorem putQ (h : m.Ok) {a : Addr} {d : Qn} (hn : d.name ∈ keys m.kept) (ok : QOk d) : (m.putQ a d).Ok where
  kk := nodup_aput h.kk
  kout := h.kout
  kd := h.kd
  same x := by
    show x ∈ keys m.days ↔ x ∈ keys (aput m.kept d.name (a, d))
    rw [keys_aput_old hn]
    exact h.same x
  sub x hx := mem_keys_aput.mpr (.inr (h.sub x hx))
  nm x t ht := by
    rw [q_putQ] at ht
    by_cases e : x = d.name
    · rw [if_pos e] at ht; cases ht; exact ⟨e.symm, ok⟩
    · rw [if_neg e] at ht; exact h.nm x t ht
  ds := h.ds
  txt := h.txt
  len := by
    show (aput m.kept d.name (a, d)).length ≤ 8
    rw [length_aput_old hn]
    exact h.len
theorem dropped (h : m.Ok) {n : Str} : (m.dropped n).Ok where
  kk := nodup_adrop h.kk
  kout := nodup_adrop h.kout
  kd := nodup_adrop h.kd
  same x := by
    show x ∈ keys (adrop m.days n) ↔ x ∈ keys (adrop m.kept n)
    rw [mem_keys_adrop, mem_keys_adrop, h.same x]
  sub x hx := mem_keys_adrop.mpr ⟨h.sub x (mem_keys_adrop.mp hx).1, (mem_keys_adrop.mp hx).2⟩
  nm x t ht := by
    rw [q_dropped] at ht
    by_cases e : x = n
    · rw [if_pos e] at ht; cases ht
    · rw [if_neg e] at ht; exact h.nm x t ht
  ds x t ht := by
    rw [d_dropped] at ht
    by_cases e : x = n
    · rw [if_pos e] at ht; cases ht
    · rw [if_neg e] at ht; exact h.ds x t ht
  txt x t ht := by
    rw [r_dropped] at ht
    by_cases e : x = n
    · rw [if_pos e] at ht; cases ht
    · rw [if_neg e] at ht; exact h.txt x t ht
  len := Nat.le_trans (length_adrop_le _ _) h.len
theorem added (h : m.Ok) {a : Addr} {d : Qn} {p : Addr} (hn : d.name ∉ keys m.kept) (ok : QOk d) (hl : m.kept.length < 8) : (m.added a d p).Ok where
  kk := nodup_aput h.kk
  kout := h.kout
  kd := nodup_aput h.kd
  same x := by
    show x ∈ keys (aput m.days d.name (p, [])) ↔ x ∈ keys (aput m.kept d.name (a, d))
    rw [mem_keys_aput, mem_keys_aput, h.same x]
  sub x hx := mem_keys_aput.mpr (.inr (h.sub x hx))
  nm x t ht := by
    rw [q_added] at ht
    by_cases e : x = d.name
    · rw [if_pos e] at ht; cases ht; exact ⟨e.symm, ok⟩
    · rw [if_neg e] at ht; exact h.nm x t ht
  ds x t ht := by
    rw [d_added] at ht
    by_cases e : x = d.name
    · rw [if_pos e] at ht; cases ht; exact ⟨List.Pairwise.nil, fun y hy => nomatch hy⟩
    · rw [if_neg e] at ht; exact h.ds x t ht
  txt := h.txt
  len := by
    have := length_aput_le m.kept d.name (a, d)
    show (aput m.kept d.name (a, d)).length ≤ 8
    omega
end Ok
end Bk
theorem Bk.Ok.nil : (⟨[], [], []⟩ : Bk).Ok := ⟨List.nodup_nil, List.nodup_nil, List.nodup_nil, fun _ => Iff.rfl, (fun _ h => nomatch h), (fun _ _ h => nomatch h), (fun _ _ h => nomatch h), (fun _ _ h => nomatch h), by decide⟩
/-- a list with one day more -/
theorem days_put {l l' : List Int} {day : Int} (hp : l'.Perm (l ++ [day])) (hs : l'.Pairwise (· ≤ ·)) (hl : l.Pairwise (· < ·)) (hd : day ∉ l) : l'.Pairwise (· < ·) := by
  have nd : l'.Nodup := by
    rw [hp.nodup_iff, List.nodup_append]
    refine ⟨hl.imp fun h => by omega, List.nodup_cons.mpr ⟨(fun z => nomatch z), List.nodup_nil⟩, fun a ha b hb e => ?_⟩
    rw [List.mem_singleton.mp hb] at e
    exact hd (e ▸ ha)
  exact (List.Pairwise.and hs nd).imp fun h => by
    have h1 := h.1
    have h2 := h.2
    omega
/-- two strictly rising lists of the same ints -/
theorem rise_unique : ∀ {l k : List Int}, l.Pairwise (· < ·) → k.Pairwise (· < ·) → (∀ x, x ∈ l ↔ x ∈ k) → l = k
  | [], [], _, _, _ => rfl
  | [], y :: k, _, _, h => nomatch (h y).mpr (List.mem_cons_self ..)
  | x :: l, [], _, _, h => nomatch (h x).mp (List.mem_cons_self ..)
  | x :: l, y :: k, hl, hk, h => by
    obtain ⟨hx, hl'⟩ := List.pairwise_cons.mp hl
    obtain ⟨hy, hk'⟩ := List.pairwise_cons.mp hk
    have e : x = y := by
      have h1 := (h x).mp (List.mem_cons_self ..)
      have h2 := (h y).mpr (List.mem_cons_self ..)
      rcases List.mem_cons.mp h1 with h1 | h1
      · exact h1
      · rcases List.mem_cons.mp h2 with h2 | h2
        · exact h2.symm
        · have := hy x h1
          have := hx y h2
          omega
    subst e
    refine congrArg (x :: ·) (rise_unique hl' hk' fun z => ?_)
    constructor
    · intro hz
      have h1 := (h z).mp (List.mem_cons_of_mem _ hz)
      rcases List.mem_cons.mp h1 with h1 | h1
      · have := hx z hz
        omega
      · exact h1
    · intro hz
      have h1 := (h z).mpr (List.mem_cons_of_mem _ hz)
      rcases List.mem_cons.mp h1 with h1 | h1
      · have := hy z hz
        omega
      · exact h1
end KB
/-! part KM4 -/
/-! A bank under other names. -/
namespace KB
open PySem L2
abbrev Qn.called (d : Qn) (x : Str) : Qn := { d with name := x }
theorem QOk.called {d : Qn} {x : Str} (h : QOk d) (hx : NameOk x) : QOk (d.called x) := ⟨hx, h.matter, h.ans, h.right0, h.right1, h.toil0, h.toil1, h.marks0, h.marks1, h.kin⟩
structure Part (m : Bk) (f : Str → Str) (P : List Str) (m2 : Bk) : Prop where
  ok : m2.Ok
  q : ∀ n, n ∈ P → m2.q (f n) = (m.q n).map fun x => x.called (f n)
  d : ∀ n, n ∈ P → m2.d (f n) = m.d n
  no : ∀ x, (∀ n, n ∈ P → f n ≠ x) → m2.q x = none ∧ m2.d x = none
  out : m2.out = []
theorem Part.nil {m : Bk} {f : Str → Str} : Part m f [] ⟨[], [], []⟩ := ⟨.nil, (fun _ h => nomatch h), (fun _ h => nomatch h), fun _ _ => ⟨rfl, rfl⟩, rfl⟩
theorem Part.keys {m : Bk} {f : Str → Str} {P : List Str} {m2 : Bk} (h : Part m f P m2) {x : Str} (hx : x ∈ keys m2.kept) : x ∈ P.map f := by
  by_cases e : x ∈ P.map f
  · exact e
  · have := (h.no x fun n hn z => e (List.mem_map.mpr ⟨n, hn, z⟩)).1
    have h2 := q_isSome.mpr hx
    rw [this] at h2
    cases h2
theorem Part.len {m : Bk} {f : Str → Str} {P : List Str} {m2 : Bk} (h : Part m f P m2) : m2.kept.length ≤ P.length := by
  have := nodup_subset_length h.ok.kk fun x hx => h.keys hx
  unfold KB.keys at this
  rw [List.length_map, List.length_map] at this
  exact this
theorem Part.step {m : Bk} {f : Str → Str} {P : List Str} {m2 m3 : Bk} {n : Str} {d : Qn} {l : List Int} (h : Part m f P m2) (hno : ∀ k, k ∈ P → f k ≠ f n) (hd : m.q n = some d) (hl : m.d n = some l)
    (ok : m3.Ok) (hq : ∀ x, m3.q x = if x = f n then some (d.called (f n)) else m2.q x) (hds : ∀ x, m3.d x = if x = f n then some l else m2.d x) (ho : m3.out = []) : Part m f (P ++ [n]) m3 := by
  refine ⟨ok, fun k hk => ?_, fun k hk => ?_, fun x hx => ?_, ho⟩
  · rw [hq]
    rcases List.mem_append.mp hk with hk | hk
    · rw [if_neg (hno k hk), h.q k hk]
    · rw [List.mem_singleton.mp hk, if_pos rfl, hd]
      rfl
  · rw [hds]
    rcases List.mem_append.mp hk with hk | hk
    · rw [if_neg (hno k hk), h.d k hk]
    · rw [List.mem_singleton.mp hk, if_pos rfl, hl]
  · have e : x ≠ f n := fun e => hx n (List.mem_append.mpr (.inr (List.mem_singleton.mpr rfl))) e.symm
    rw [hq, hds, if_neg e, if_neg e]
    exact h.no x fun k hk => hx k (List.mem_append.mpr (.inl hk))
theorem keys_outsL (m : Bk) : keys m.outsL = srt (keys m.out) := by
  unfold keys Bk.outsL
  rw [List.map_map]
  exact List.map_id _
theorem aget_outsL {m : Bk} (ok : m.Ok) (n : Str) : aget m.outsL n = m.r n := by
  by_cases h : n ∈ keys m.out
  · have hs : (m.r n).isSome = true := r_isSome.mpr h
    cases e : m.r n with
    | none => rw [e] at hs; cases hs
    | some w =>
      refine aget_of_mem ?_ ?_
      · rw [keys_outsL]
        exact srt_nodup ok.kout
      · unfold Bk.outsL
        refine List.mem_map.mpr ⟨n, mem_srt.mpr h, ?_⟩
        rw [e]
        rfl
  · have h1 : m.r n = none := aget_none.mpr h
    rw [h1]
    refine aget_none.mpr ?_
    rw [keys_outsL, mem_srt]
    exact h
/-- the outs taken over so far -/
structure PartO (m : Bk) (f : Str → Str) (O : List (Str × Str)) (m2 : Bk) : Prop where
  ok : m2.Ok
  q : ∀ n, n ∈ keys m.kept → m2.q (f n) = (m.q n).map fun x => x.called (f n)
  d : ∀ n, n ∈ keys m.kept → m2.d (f n) = m.d n
  r : ∀ n, n ∈ keys m.kept → m2.r (f n) = aget O n
  no : ∀ x, (∀ n, n ∈ keys m.kept → f n ≠ x) → m2.q x = none ∧ m2.r x = none ∧ m2.d x = none
theorem Part.toO {m : Bk} {f : Str → Str} {P : List Str} {m2 : Bk} (h : Part m f P m2) (hP : ∀ n, n ∈ P ↔ n ∈ KB.keys m.kept) : PartO m f [] m2 := by
  refine ⟨h.ok, fun n hn => h.q n ((hP n).mpr hn), fun n hn => h.d n ((hP n).mpr hn), fun n hn => ?_, fun x hx => ?_⟩
  · unfold Bk.r
    rw [h.out]
    rfl
  · have := h.no x fun n hn => hx n ((hP n).mp hn)
    refine ⟨this.1, ?_, this.2⟩
    unfold Bk.r
    rw [h.out]
    rfl
theorem PartO.step {m : Bk} {f : Str → Str} {O : List (Str × Str)} {m2 : Bk} {n w : Str} (h : PartO m f O m2) (hn : n ∈ keys m.kept) (hno : n ∉ keys O) (inj : ∀ k, k ∈ keys m.kept → f k = f n → k = n) (hk : f n ∈ keys m2.kept) (hw : TextOk w) : PartO m f (O ++ [(n, w)]) (m2.takenOut (f n) w) := by
  refine ⟨h.ok.takenOut hk hw, h.q, h.d, fun k hk => ?_, fun x hx => ?_⟩
  · rw [Bk.r_takenOut, aget_append]
    by_cases e : k = n
    · subst e
      rw [if_pos rfl, aget_none.mpr hno]
      simp [aget]
    · rw [if_neg fun z => e (inj k hk z), h.r k hk]
      have e2 : aget [(n, w)] k = none := by rw [aget_none]; simp [keys, e]
      rw [e2, Option.or_none]
  · have := h.no x hx
    refine ⟨this.1, ?_, this.2.2⟩
    rw [Bk.r_takenOut, if_neg fun e => hx n hn e.symm]
    exact this.2.1
theorem PartO.called {m : Bk} {f : Str → Str} {m2 : Bk} (h : PartO m f m.outsL m2) (ok : m.Ok) : Called m f m2 := ⟨h.ok, h.q, fun n hn => by rw [h.r n hn, aget_outsL ok], h.d, h.no⟩
end KB
/-! part KM5 -/
/-! What is found parts all that are in. -/
namespace KB
open PySem L2
theorem count_parts {γ : Type} {I : List Str} {p : γ → Str → Bool} (a : Str) : ∀ cls : List γ, (cls.flatMap fun c => I.filter (p c)).count a = I.count a * cls.countP (fun c => p c a)
  | [] => by simp
  | c :: r => by
    rw [List.flatMap_cons, List.count_append, count_parts a r, List.countP_cons]
    by_cases h : p c a = true
    · rw [List.count_filter h, h, if_pos rfl, Nat.mul_add, Nat.mul_one]
      omega
    · have e : (I.filter (p c)).count a = 0 := List.count_eq_zero_of_not_mem fun z => h (List.mem_filter.mp z).2
      rw [e, if_neg h, Nat.add_zero, Nat.zero_add]
theorem part_perm {γ : Type} {I : List Str} {p : γ → Str → Bool} {cls : List γ} (h : ∀ n, n ∈ I → cls.countP (fun c => p c n) = 1) : (cls.flatMap fun c => I.filter (p c)).Perm I := by
  rw [List.perm_iff_count]
  intro a
  rw [count_parts]
  by_cases ha : a ∈ I
  · rw [h a ha, Nat.mul_one]
  · rw [List.count_eq_zero_of_not_mem ha, Nat.zero_mul]
theorem countP_one {γ : Type} [DecidableEq γ] {cls : List γ} {x : γ} (nd : cls.Nodup) (hx : x ∈ cls) : cls.countP (fun c => decide (x = c)) = 1 := by
  induction cls with
  | nil => cases hx
  | cons y r ih =>
    have nd := List.nodup_cons.mp nd
    rw [List.countP_cons]
    by_cases e : x = y
    · subst e
      have e0 : r.countP (fun c => decide (x = c)) = 0 := by
        rw [List.countP_eq_zero]
        intro c hc h
        have : x = c := of_decide_eq_true h
        exact nd.1 (this ▸ hc)
      rw [e0]
      simp
    · rcases List.mem_cons.mp hx with h | h
      · exact absurd h e
      · rw [ih nd.2 h, if_neg (by simp [e])]
def Bk.matterOf (m : Bk) (n : Str) : Str := match m.q n with
  | none => Str.empty
  | some q => q.matter
def Bk.toilOf (m : Bk) (n : Str) : Int := match m.q n with
  | none => 0
  | some q => q.toil
def Bk.kinOf (m : Bk) (n : Str) : Str := match m.q n with
  | none => Str.empty
  | some q => q.kin
theorem mattersL_eq (m : Bk) : m.mattersL = m.namesIn.map m.matterOf := rfl
theorem name_ne {z : Str} (h : NameOk z) : z ≠ "" := by
  rintro rfl
  have := h.1
  have e : (Str.ofString "").length = 0 := by decide +kernel
  omega
def Bk.fPm (m : Bk) (matter : Str) (least most : Int) (kin : Str) (n : Str) : Bool := match m.q n with
  | none => false
  | some q => asked matter least most kin q
theorem qget {m : Bk} (ok : m.Ok) {n : Str} (hn : n ∈ m.namesIn) : ∃ q, m.q n = some q ∧ QOk q := by
  have h1 := (mem_namesIn.mp hn).1
  have := q_isSome.mpr h1
  cases e : m.q n with
  | none => rw [e] at this; cases this
  | some q => exact ⟨q, rfl, (ok.nm n q e).2⟩
theorem fPm_matter {m : Bk} (ok : m.Ok) {n x : Str} (hn : n ∈ m.namesIn) (hx : x ≠ "") : m.fPm x 1 9 "" n = decide (m.matterOf n = x) := by
  obtain ⟨q, hq, okq⟩ := qget ok hn
  unfold Bk.fPm Bk.matterOf asked
  rw [hq]
  have h1 := okq.toil0
  have h2 := okq.toil1
  rw [Bool.eq_iff_iff]
  simp [hx, h1, h2, eq_comm]
theorem fPm_toil {m : Bk} (ok : m.Ok) {n : Str} {k : Int} (hn : n ∈ m.namesIn) : m.fPm "" k k "" n = decide (m.toilOf n = k) := by
  obtain ⟨q, hq, okq⟩ := qget ok hn
  unfold Bk.fPm Bk.toilOf asked
  rw [hq, Bool.eq_iff_iff]
  simp
  omega
theorem fPm_kin {m : Bk} (ok : m.Ok) {n c : Str} (hn : n ∈ m.namesIn) (hc : c ≠ "") : m.fPm "" 1 9 c n = decide (m.kinOf n = c) := by
  obtain ⟨q, hq, okq⟩ := qget ok hn
  unfold Bk.fPm Bk.kinOf asked
  rw [hq]
  have h1 := okq.toil0
  have h2 := okq.toil1
  rw [Bool.eq_iff_iff]
  simp [hc, h1, h2, eq_comm]
theorem fPm_all {m : Bk} (ok : m.Ok) {n : Str} (hn : n ∈ m.namesIn) : m.fPm "" 1 9 "" n = true := by
  obtain ⟨q, hq, okq⟩ := qget ok hn
  unfold Bk.fPm asked
  rw [hq]
  have h1 := okq.toil0
  have h2 := okq.toil1
  simp [h1, h2]
theorem found_none (m : Bk) (x : Str) (a b : Int) (c : Str) (r : Int) : m.foundL x a b c none r = m.namesIn.filter (m.fPm x a b c) := by
  unfold Bk.foundL Bk.fPm
  congr 1
  funext n
  refine (Bool.and_true _).trans ?_
  cases m.q n <;> rfl
theorem filter_cg {α : Type} {l : List α} {p q : α → Bool} (h : ∀ x, x ∈ l → p x = q x) : l.filter p = l.filter q := List.filter_congr h
theorem found_matter {m : Bk} (ok : m.Ok) {x : Str} (hx : x ≠ "") (r : Int) : m.foundL x 1 9 "" none r = m.namesIn.filter fun n => decide (m.matterOf n = x) := by
  rw [found_none]
  exact filter_cg fun n hn => fPm_matter ok hn hx
theorem found_toil {m : Bk} (ok : m.Ok) (k r : Int) : m.foundL "" k k "" none r = m.namesIn.filter fun n => decide (m.toilOf n = k) := by
  rw [found_none]
  exact filter_cg fun n hn => fPm_toil ok hn
theorem found_kin {m : Bk} (ok : m.Ok) {c : Str} (hc : c ≠ "") (r : Int) : m.foundL "" 1 9 c none r = m.namesIn.filter fun n => decide (m.kinOf n = c) := by
  rw [found_none]
  exact filter_cg fun n hn => fPm_kin ok hn hc
theorem found_rest {m : Bk} (ok : m.Ok) (w span : Int) : m.foundL "" 1 9 "" (some w) span = m.namesIn.filter fun n => !restsB ((m.d n).getD []) w span := by
  have e : m.foundL "" 1 9 "" (some w) span = m.namesIn.filter fun n => m.fPm "" 1 9 "" n && !restsB ((m.d n).getD []) w span := rfl
  rw [e]
  exact filter_cg fun n hn => by rw [fPm_all ok hn, Bool.true_and]
theorem matter_mem {m : Bk} {n : Str} (hn : n ∈ m.namesIn) : m.matterOf n ∈ srt (uniq m.mattersL) := by
  rw [mem_srt, mem_uniq, mattersL_eq]
  exact List.mem_map.mpr ⟨n, hn, rfl⟩
theorem matter_ne {m : Bk} (ok : m.Ok) {x : Str} (hx : x ∈ srt (uniq m.mattersL)) : x ≠ "" := by
  rw [mem_srt, mem_uniq, mattersL_eq] at hx
  obtain ⟨n, hn, rfl⟩ := List.mem_map.mp hx
  obtain ⟨q, hq, okq⟩ := qget ok hn
  unfold Bk.matterOf
  rw [hq]
  exact name_ne okq.matter
theorem flatMap_cg {α β : Type} {l : List α} {f g : α → List β} (h : ∀ x, x ∈ l → f x = g x) : l.flatMap f = l.flatMap g := by
  induction l with
  | nil => rfl
  | cons x r ih => rw [List.flatMap_cons, List.flatMap_cons, h x (List.mem_cons_self ..), ih fun y hy => h y (List.mem_cons_of_mem _ hy)]
theorem part_matter {m : Bk} (ok : m.Ok) : ((srt (uniq m.mattersL)).flatMap fun x => m.foundL x 1 9 "" none 0).Perm m.namesIn := by
  rw [flatMap_cg fun x hx => found_matter ok (matter_ne ok hx) 0]
  refine part_perm (p := fun x n => decide (m.matterOf n = x)) fun n hn => ?_
  exact countP_one (srt_nodup (nodup_uniq _)) (matter_mem hn)
theorem count_matter (m : Bk) (x : Str) : m.mattersL.count x = (m.namesIn.filter fun n => decide (m.matterOf n = x)).length := by
  rw [mattersL_eq]
  induction m.namesIn with
  | nil => rfl
  | cons y r ih =>
    rw [List.map_cons, List.count_cons, ih, List.filter_cons]
    by_cases h : m.matterOf y = x
    · simp [h]
    · simp [h]
theorem sum_matter {m : Bk} (ok : m.Ok) : ((srt (uniq m.mattersL)).map fun x => m.mattersL.count x).sum = m.namesIn.length := by
  rw [← (part_matter ok).length_eq, List.length_flatMap]
  congr 1
  apply List.map_congr_left
  intro x hx
  rw [found_matter ok (matter_ne ok hx), count_matter]
theorem len_matter {m : Bk} (ok : m.Ok) {x : Str} (hx : x ∈ srt (uniq m.mattersL)) (r : Int) : (m.foundL x 1 9 "" none r).length = m.mattersL.count x := by
  rw [found_matter ok (matter_ne ok hx), count_matter]
theorem part_toil {m : Bk} (ok : m.Ok) : ((List.range 9).flatMap fun (k : Nat) => m.foundL "" (1 + (k : Int)) (1 + (k : Int)) "" none 0).Perm m.namesIn := by
  rw [flatMap_cg fun (k : Nat) _ => found_toil ok (1 + (k : Int)) 0]
  refine part_perm (p := fun (k : Nat) n => decide (m.toilOf n = 1 + (k : Int))) fun n hn => ?_
  obtain ⟨q, hq, okq⟩ := qget ok hn
  have e : m.toilOf n = q.toil := by unfold Bk.toilOf; rw [hq]
  have h1 := okq.toil0
  have h2 := okq.toil1
  have hk := countP_one (cls := List.range 9) (x := (q.toil - 1).toNat) List.nodup_range (List.mem_range.mpr (by omega))
  rw [← hk, e]
  apply List.countP_congr
  intro k _
  rw [decide_eq_true_iff, decide_eq_true_iff]
  omega
theorem part_kin {m : Bk} (ok : m.Ok) {ks : List Str} (nd : ks.Nodup) (hks : ∀ z, z ∈ ks → NameOk z) (hf : ∀ n, n ∈ m.namesIn → m.kinOf n = "" ∨ m.kinOf n ∈ ks) :
    ((m.namesIn.filter fun n => decide (m.kinOf n = "")) ++ ks.flatMap fun c => m.foundL "" 1 9 c none 0).Perm m.namesIn := by
  rw [flatMap_cg fun c hc => found_kin ok (name_ne (hks c hc)) 0]
  have h := part_perm (I := m.namesIn) (p := fun c n => decide (m.kinOf n = c)) (cls := "" :: ks) fun n hn => ?_
  · rw [List.flatMap_cons] at h
    exact h
  · refine countP_one (List.nodup_cons.mpr ⟨fun z => name_ne (hks _ z) rfl, nd⟩) ?_
    rcases hf n hn with h | h
    · rw [h]
      exact List.mem_cons_self ..
    · exact List.mem_cons_of_mem _ h
theorem sorted_in {m : Bk} (ok : m.Ok) {t ys : List Str} (hp : t.Perm m.namesIn) (h1 : ys.Perm t) (h2 : PyProof.Rows.sortedS ys = true) : ys = m.namesIn := by
  have nd : t.Nodup := hp.nodup_iff.mpr (namesIn_SS ok).nodup
  rw [sorted_eq nd h1 h2, srt_of_perm (namesIn_SS ok).nodup hp, srt_of_SS (namesIn_SS ok)]
/-! last days -/
theorem foldl_max : ∀ (r : List Int) (n : Int), (n :: r).Pairwise (· < ·) → some (r.foldl max n) = (n :: r).getLast?
  | [], n, _ => rfl
  | x :: r, n, h => by
    have h := List.pairwise_cons.mp h
    have hx : n < x := h.1 x (List.mem_cons_self ..)
    have e : max n x = x := by omega
    rw [List.foldl_cons, e, foldl_max r x h.2, List.getLast?_cons_cons]
theorem lastDay_all {l : List Int} (hl : l.Pairwise (· < ·)) (hb : ∀ x, x ∈ l → 0 ≤ x ∧ x < 14) : lastDay l 9999 = l.getLast? := by
  have e : (l.filter fun x => decide (x ≤ 9999)) = l := List.filter_eq_self.mpr fun x hx => by
    have := hb x hx
    exact decide_eq_true (by omega)
  unfold lastDay
  rw [e]
  cases l with
  | nil => rfl
  | cons n r => exact foldl_max r n hl
theorem sorted_days {l ys : List Int} (hl : l.Pairwise (· < ·)) (hp : ys.Perm l) (hs : ys.Pairwise (· ≤ ·)) : ys = l := by
  have nd : ys.Nodup := hp.nodup_iff.mpr (hl.imp fun h => by omega)
  refine rise_unique ((hs.and nd).imp fun h => ?_) hl fun x => hp.mem_iff
  have h1 := h.1
  have h2 := h.2
  omega
end KB
/-! part KM6 -/
/-! Deeds that undo one another. -/
namespace KB
open PySem L2
theorem Same.refl (m : Bk) : Same m m := ⟨fun _ => rfl, fun _ => rfl, fun _ => rfl⟩
theorem Same.key {m m' : Bk} (h : Same m m') {n : Str} : n ∈ keys m.kept ↔ n ∈ keys m'.kept := by
  rw [← q_isSome, ← q_isSome, h.1 n]
theorem Same.out {m m' : Bk} (h : Same m m') {n : Str} : n ∈ keys m.out ↔ n ∈ keys m'.out := by
  rw [← r_isSome, ← r_isSome, h.2.1 n]
theorem Same.names {m m' : Bk} (h : Same m m') (ok : m.Ok) (ok' : m'.Ok) : m.names = m'.names :=
  SS_unique (names_SS ok) (names_SS ok') fun x => by rw [mem_names, mem_names, h.key]
theorem Same.namesIn {m m' : Bk} (h : Same m m') (ok : m.Ok) (ok' : m'.Ok) : m.namesIn = m'.namesIn :=
  SS_unique (namesIn_SS ok) (namesIn_SS ok') fun x => by rw [mem_namesIn, mem_namesIn, h.key, h.2.1 x]
theorem beq_true {m m' : Bk} (ok : m.Ok) (ok' : m'.Ok) (h : Same m m') : m.beq m' = true := (beq_iff ok ok').mpr h
theorem beq_false {m m' : Bk} (ok : m.Ok) (ok' : m'.Ok) (h : ¬ Same m m') : m.beq m' = false := by
  cases e : m.beq m' with
  | false => rfl
  | true => exact absurd ((beq_iff ok ok').mp e) h
section
variable {m m' mk : Bk} {n w : Str}
theorem taken_ne (hk : Same mk m) (hr : m.r n = none) : ¬ Same (m'.takenOut n w) mk := fun h => by
  have h1 := h.2.1 n
  rw [Bk.r_takenOut, if_pos rfl, hk.2.1, hr] at h1
  cases h1
theorem taken_back (h : Same m' m) (hr : m.r n = none) : Same ((m'.takenOut n w).putBack n) m := ⟨h.1, fun x => by
  rw [Bk.r_putBack]
  by_cases e : x = n
  · rw [if_pos e, e, hr]
  · rw [if_neg e, Bk.r_takenOut, if_neg e, h.2.1], h.2.2⟩
theorem taken_len (ok : m'.Ok) (hn : n ∈ m'.namesIn) : (m'.takenOut n w).namesIn.length + 1 = m'.namesIn.length := by
  have e : (m'.takenOut n w).namesIn = m'.namesIn.filter fun x => decide (x ≠ n) := by
    have e1 : (m'.takenOut n w).namesIn = m'.names.filter fun x => ((m'.takenOut n w).r x).isNone := rfl
    have e2 : m'.namesIn = m'.names.filter fun x => (m'.r x).isNone := rfl
    rw [e1, e2, List.filter_filter]
    congr 1
    funext x
    rw [Bk.r_takenOut]
    by_cases h : x = n
    · rw [if_pos h]; simp [h]
    · rw [if_neg h]; simp [h]
  rw [e]
  have nd := (namesIn_SS ok).nodup
  have key : ∀ l : List Str, l.Nodup → n ∈ l → (l.filter fun x => decide (x ≠ n)).length + 1 = l.length := by
    intro l
    induction l with
    | nil => intro _ h; cases h
    | cons y r ih =>
      intro nd h
      have nd := List.nodup_cons.mp nd
      rw [List.filter_cons]
      by_cases e : y = n
      · subst e
        have e3 : (r.filter fun x => decide (x ≠ y)) = r := List.filter_eq_self.mpr fun z hz => decide_eq_true fun e => nd.1 (e ▸ hz)
        rw [if_neg (by simp), e3]
        rfl
      · rw [if_pos (by simp [e])]
        rcases List.mem_cons.mp h with h | h
        · exact absurd h.symm e
        · rw [List.length_cons, ih nd.2 h, List.length_cons]
  exact key _ nd hn
end
section
variable {m m' mk : Bk} {n : Str} {p p2 : Addr} {l l' : List Int} {w : Int}
theorem used_ne (hk : Same mk m) (hl : m.d n = some l) (hno : w ∉ l) (hp : l'.Perm (l ++ [w])) : ¬ Same (m'.setDays n p l') mk := fun h => by
  have h1 := h.2.2 n
  rw [Bk.d_setDays, if_pos rfl, hk.2.2, hl] at h1
  have e := Option.some.inj h1
  have := hp.length_eq
  rw [e, List.length_append] at this
  simp at this
theorem rise_last : ∀ {l : List Int} {x z : Int}, l.Pairwise (· < ·) → x ∈ l → l.getLast? = some z → x ≤ z
  | [y], x, z, _, hx, hz => by
    have e1 : x = y := List.mem_singleton.mp hx
    have e2 : y = z := Option.some.inj hz
    omega
  | y :: y2 :: r, x, z, h, hx, hz => by
    have h := List.pairwise_cons.mp h
    rw [List.getLast?_cons_cons] at hz
    rcases List.mem_cons.mp hx with h1 | h1
    · have h2 := rise_last h.2 (List.mem_cons_self ..) hz
      have := h.1 y2 (List.mem_cons_self ..)
      omega
    · exact rise_last h.2 h1 hz
theorem used_last (hl' : l'.Pairwise (· < ·)) (hw : w ∈ l') : lastDay l' w = some w := by
  have hf : (l'.filter fun x => decide (x ≤ w)).Pairwise (· < ·) := hl'.filter _
  have hm : w ∈ l'.filter fun x => decide (x ≤ w) := List.mem_filter.mpr ⟨hw, decide_eq_true (by omega)⟩
  have hb : ∀ x, x ∈ l'.filter (fun x => decide (x ≤ w)) → x ≤ w := fun x hx => of_decide_eq_true (List.mem_filter.mp hx).2
  unfold lastDay
  generalize (l'.filter fun x => decide (x ≤ w)) = f at hf hm hb
  cases f with
  | nil => cases hm
  | cons y r =>
    show some (r.foldl max y) = some w
    rw [foldl_max r y hf]
    cases e : (y :: r).getLast? with
    | none => simp at e
    | some z =>
      have h1 := rise_last hf hm e
      have h2 := hb z (List.mem_of_getLast? e)
      congr 1
      omega
theorem used_back (h : Same m' m) (hl : m.d n = some l) (hr : l.Pairwise (· < ·)) (hno : w ∉ l) (hl' : l'.Pairwise (· < ·)) (hp : l'.Perm (l ++ [w])) : Same ((m'.setDays n p l').setDays n p2 (l'.filter fun x => decide (x ≠ w))) m := ⟨h.1, h.2.1, fun x => by
  rw [Bk.d_setDays]
  by_cases e : x = n
  · rw [if_pos e, e, hl]
    congr 1
    refine rise_unique (hl'.filter _) hr fun y => ?_
    rw [List.mem_filter, hp.mem_iff, List.mem_append, List.mem_singleton, decide_eq_true_iff]
    constructor
    · rintro ⟨h1 | h1, h2⟩
      · exact h1
      · exact absurd h1 h2
    · intro h1
      exact ⟨.inl h1, fun e => hno (e ▸ h1)⟩
  · rw [if_neg e, Bk.d_setDays, if_neg e, h.2.2]⟩
end
section
variable {m m' mk : Bk} {n : Str} {a p : Addr} {d d' : Qn}
theorem put_iff (h : Same m' m) (hk : Same mk m) (hd : m.q n = some d) (hn : d'.name = n) : Same (m'.putQ a d') mk ↔ d' = d := by
  constructor
  · intro g
    have h1 := g.1 n
    rw [Bk.q_putQ, if_pos hn.symm, hk.1, hd] at h1
    exact Option.some.inj h1
  · intro e
    subst e
    refine ⟨fun x => ?_, fun x => (h.2.1 x).trans (hk.2.1 x).symm, fun x => (h.2.2 x).trans (hk.2.2 x).symm⟩
    rw [Bk.q_putQ, hn, hk.1]
    by_cases e : x = n
    · rw [if_pos e, e, hd]
    · rw [if_neg e, h.1]
theorem put_back {a2 : Addr} (h : Same m' m) (hd : m.q n = some d) (hn : d'.name = n) (hn2 : d.name = n) : Same ((m'.putQ a d').putQ a2 d) m := by
  refine ⟨fun x => ?_, h.2.1, h.2.2⟩
  rw [Bk.q_putQ, hn2]
  by_cases e : x = n
  · rw [if_pos e, e, hd]
  · rw [if_neg e, Bk.q_putQ, hn, if_neg e, h.1]
theorem drop_ne (hk : Same mk m) (hn : n ∈ keys m.kept) : ¬ Same (m'.dropped n) mk := fun h => by
  have h1 := h.1 n
  rw [Bk.q_dropped, if_pos rfl, hk.1] at h1
  have := q_isSome.mpr hn
  rw [← h1] at this
  cases this
theorem drop_back (h : Same m' m) (hd : m.q n = some d) (hn : d.name = n) (hr : m.r n = none) (hl : m.d n = some []) : Same ((m'.dropped n).added a d p) m := by
  refine ⟨fun x => ?_, fun x => ?_, fun x => ?_⟩
  · rw [Bk.q_added, hn]
    by_cases e : x = n
    · rw [if_pos e, e, hd]
    · rw [if_neg e, Bk.q_dropped, if_neg e, h.1]
  · show (m'.dropped n).r x = m.r x
    rw [Bk.r_dropped]
    by_cases e : x = n
    · rw [if_pos e, e, hr]
    · rw [if_neg e, h.2.1]
  · rw [Bk.d_added, hn]
    by_cases e : x = n
    · rw [if_pos e, e, hl]
    · rw [if_neg e, Bk.d_dropped, if_neg e, h.2.2]
end
theorem aget_map2 {α β : Type} {l l2 : List (Str × Addr × α)} (h : l2.map (fun p => (p.1, p.2.2)) = l.map (fun p => (p.1, p.2.2))) (n : Str) : (aget l2 n).map (·.2) = (aget l n).map (·.2) := by
  rw [← aget_map (fun x : Addr × α => x.2) l2 n, ← aget_map (fun x : Addr × α => x.2) l n, h]
theorem twin_same {m m2 : Bk} (f1 : m2.kept = m.kept) (f2 : m2.out = m.out) (f3 : m2.days.map (fun p => (p.1, p.2.2)) = m.days.map (fun p => (p.1, p.2.2))) : Same m2 m :=
  ⟨fun n => by unfold Bk.q; rw [f1], fun n => by unfold Bk.r; rw [f2], fun n => aget_map2 (β := Unit) f3 n⟩
theorem twin_ok {m m2 : Bk} (ok : m.Ok) (f1 : m2.kept = m.kept) (f2 : m2.out = m.out) (f3 : m2.days.map (fun p => (p.1, p.2.2)) = m.days.map (fun p => (p.1, p.2.2))) : m2.Ok := by
  have s := twin_same f1 f2 f3
  have kd : keys m2.days = keys m.days := by
    have e : ∀ x : Bk, keys x.days = (x.days.map (fun p => (p.1, p.2.2))).map (·.1) := fun x => by
      unfold keys
      rw [List.map_map]
      rfl
    rw [e, e, f3]
  exact ⟨by rw [f1]; exact ok.kk, by rw [f2]; exact ok.kout, by rw [kd]; exact ok.kd, fun n => by rw [kd, f1]; exact ok.same n, fun n => by rw [f1, f2]; exact ok.sub n, fun n q h => ok.nm n q (by rw [← s.1]; exact h), fun n l h => ok.ds n l (by rw [← s.2.2]; exact h), fun n t h => ok.txt n t (by rw [← s.2.1]; exact h), by rw [f1]; exact ok.len⟩
end KB
/-! part KW1 -/
namespace KB
open PySem L2
section
variable {P : Program} {w : World} {K : PySem.W.Frag} {mg : Str → Option Value} {base : Heap} {A : Ads}
theorem letters_eq : signsOf (top 12) = letters := by decide +kernel
theorem signs_eq : signsOf (top 13) = signs := by decide +kernel
theorem Txt.g_L (T : Txt K mg A) : ∃ t, mg "LETTERS" = some (.str letters t) := letters_eq ▸ T.g_LETTERS
theorem Txt.g_S (T : Txt K mg A) : ∃ t, mg "SIGNS" = some (.str signs t) := signs_eq ▸ T.g_SIGNS
theorem all_true {l : List Bool} (h : ∀ b ∈ l, b = true) : l.all id = true := by
  rw [List.all_eq_true]
  exact h
theorem map_bl {α : Type} (l : List α) (p : α → Bool) : (l.filter fun _ => true).map (fun c => V.bl (p c)) = (l.map p).map V.bl := by
  rw [List.filter_eq_self.mpr fun _ _ => rfl, List.map_map]
  rfl
theorem ok_is_whole (T : Txt K mg A) : FnOk P w K mg base CX0 1 A.a_is_whole A.d_is_whole P_is_whole (sp_is_whole) := by
  have nd := sc_is_whole.nd
  refine T.F_is_whole.ok sc_is_whole (fun vs H Q E h => ?_) (fun cdv Ar outer s H vs Q E hr h => ?_)
  · obtain ⟨i, lo, hi, rfl, _⟩ := h
    rfl
  · obtain ⟨i, lo, hi, rfl, h1, h2, k⟩ := h
    have hu := hu_of hr
    refine ⟨_, (pss_one (ps_ret (pe_and (pe_callB call_isi (by rfl) T.m_isinstance (by decide +kernel) (pa_cons (pv 0) (pa_cons (pe_bltn (v := .ty "int") rfl T.m_int (by decide +kernel) rfl) pa_nil))) (pe_and (pe_not (pe_callB call_isi (by rfl) T.m_isinstance (by decide +kernel) (pa_cons (pv 0) (pa_cons (pe_bltn (v := .ty "bool") rfl T.m_bool (by decide +kernel) rfl) pa_nil)))) (pe_one (pe_chain op_le op_le (pv 1) (pv 0) (pv 2))))))), ?_⟩
    refine ⟨_, rfl, _, _, _, _, true, rfl, .ty _, .base (.int _), kit_ty (by decide +kernel), _, rfl, iteT ?_⟩
    refine ⟨_, rfl, _, _, _, _, false, rfl, .ty _, .base (.int _), kit_ty (by decide +kernel), _, rfl, _, rfl, iteT ?_⟩
    refine ⟨_, rfl, _, rfl, lo, i, rfl, rfl, _, rfl, iteP (dT h1) ⟨_, rfl, i, hi, rfl, rfl, ?_⟩⟩
    exact qb k (dT h2)
theorem ok_is_name (T : Txt K mg A) : FnOk P w K mg base CX0 1 A.a_is_name A.d_is_name P_is_name (sp_is_name) := by
  have nd := sc_is_name.nd
  refine T.F_is_name.ok sc_is_name (fun vs H Q E h => ?_) (fun cdv Ar outer s H vs Q E hr h => ?_)
  · obtain ⟨z, rfl, _⟩ := h
    rfl
  · obtain ⟨z, rfl, hz, k⟩ := h
    have hu := hu_of hr
    obtain ⟨tL, hLETTERS⟩ := T.g_L
    obtain ⟨tLN, hLONGEST_NAME⟩ := T.g_LONGEST_NAME
    refine ⟨_, (pss_cons (ps_if (PW.pt (pw_or (pt_not (pt_val (pe_callB call_isi (by rfl) T.m_isinstance (by decide +kernel) (pa_cons (pv 0) (pa_cons (pe_bltn (v := .ty "str") rfl T.m_str (by decide +kernel) rfl) pa_nil))))) (pw_or1 (pt_not (pt_chain op_le op_le (pe_int) (pe_callB call_len_str (by rfl) T.m_len PySem.boot_len (pa_cons (pv 0) pa_nil)) (pe_glob (v := .int 8) rfl hLONGEST_NAME ⟨_, rfl⟩))))))
        (pss_one (ps_ret (pe_bl)))
        pss_nil)
      (pss_one (ps_ret (pe_callB (cr_all rfl) (by rfl) T.m_all (by decide +kernel) (pa_cons (pe_lc (own := [("sign", 1)]) (g := gName 1) (tt := tYes) rfl nd (pi_str (pv 0)) (blkOk_by (N := N_is_name) (sc := defScope s_is_name) (by decide +kernel)) (fun _ _ _ _ _ => (pg_name (i := 1) nd rfl (Or.inl rfl))) (fun _ _ _ _ _ => pts_nil) (fun _ _ _ _ _ => (pe_cmpR op_in_sign (pv 1) (pe_glob (v := .str letters) rfl hLETTERS ⟨_, rfl⟩) rfl))) pa_nil))))), ?_⟩
    refine ⟨_, rfl, _, _, _, _, true, rfl, .ty _, .base (.str _), kit_ty (by decide +kernel), _, rfl, ?_⟩
    have hl : (1 : Int) ≤ (z.length : Int) ∧ (z.length : Int) ≤ 8 := ⟨by have := hz.1; omega, by have := hz.2.1; omega⟩
    have hs : z.length < sizeLine := by have := hz.2.1; have : 8 < sizeLine := by decide
                                        omega
    refine iteF ?_
    refine ⟨_, rfl, z, rfl, Nat.le_of_lt hs, 1, _, rfl, rfl, _, rfl, iteP (dT hl.1) ⟨_, _, rfl, rfl, ?_⟩⟩
    refine ⟨_, rfl, ?_⟩
    refine iteN (by rw [dT hl.2]; rfl) ?_
    refine ⟨_, rfl, z, rfl, fun D hD => ?_⟩
    refine lcS z [] (fun c => .bl (decide (c ∈ letters.cps.toList))) (fun _ => true) hD hs (fun c H1 R hc k1 kt kf => ⟨rfl, ?_⟩) (fun H1 k1 h1 => ?_)
    · exact ⟨_, rfl, c, letters, rfl, rfl, kt _ rfl .refl⟩
    · rw [map_bl] at h1
      refine ⟨D, _, rfl, SqL.of h1, ?_⟩
      exact qb (k _ k1) (all_true fun b hb => by
        obtain ⟨c, hc, rfl⟩ := List.mem_map.mp hb
        exact dT (hz.2.2 c hc))
theorem ok_is_text (T : Txt K mg A) : FnOk P w K mg base CX0 1 A.a_is_text A.d_is_text P_is_text (sp_is_text) := by
  have nd := sc_is_text.nd
  refine T.F_is_text.ok sc_is_text (fun vs H Q E h => ?_) (fun cdv Ar outer s H vs Q E hr h => ?_)
  · obtain ⟨z, rfl, _⟩ := h
    rfl
  · obtain ⟨z, rfl, hz, k⟩ := h
    have hu := hu_of hr
    obtain ⟨tLT, hLONGEST_TEXT⟩ := T.g_LONGEST_TEXT
    obtain ⟨tS, hSIGNS⟩ := T.g_S
    refine ⟨_, (pss_cons (ps_if (PW.pt (pw_or (pt_not (pt_val (pe_callB call_isi (by rfl) T.m_isinstance (by decide +kernel) (pa_cons (pv 0) (pa_cons (pe_bltn (v := .ty "str") rfl T.m_str (by decide +kernel) rfl) pa_nil))))) (pw_or1 (pt_not (pt_chain op_le op_le (pe_int) (pe_callB call_len_str (by rfl) T.m_len PySem.boot_len (pa_cons (pv 0) pa_nil)) (pe_glob (v := .int 30) rfl hLONGEST_TEXT ⟨_, rfl⟩))))))
        (pss_one (ps_ret (pe_bl)))
        pss_nil)
      (pss_one (ps_ret (pe_and (pe_callB (cr_all rfl) (by rfl) T.m_all (by decide +kernel) (pa_cons (pe_lc (own := [("sign", 1)]) (g := gName 1) (tt := tYes) rfl nd (pi_str (pv 0)) (blkOk_by (N := N_is_text) (sc := defScope s_is_text) (by decide +kernel)) (fun _ _ _ _ _ => (pg_name (i := 1) nd rfl (Or.inl rfl))) (fun _ _ _ _ _ => pts_nil) (fun _ _ _ _ _ => (pe_cmpR op_in_sign (pv 1) (pe_glob (v := .str signs) rfl hSIGNS ⟨_, rfl⟩) rfl))) pa_nil)) (pe_one (pe_cmpR op_eq (pv 0) (pe_bm PySem.F.plainAttrs_str PySem.F.slot_str_strip PySem.F.type_str_strip mt_stripChars (pv 0) (pa_cons (pe_str) pa_nil)) (nomark _))))))), ?_⟩
    refine ⟨_, rfl, _, _, _, _, true, rfl, .ty _, .base (.str _), kit_ty (by decide +kernel), _, rfl, ?_⟩
    have hl : (1 : Int) ≤ (z.length : Int) ∧ (z.length : Int) ≤ 30 := ⟨by have := hz.1; omega, by have := hz.2.1; omega⟩
    have hs : z.length < sizeLine := by have := hz.2.1; have : 30 < sizeLine := by decide
                                        omega
    refine iteF ?_
    refine ⟨_, rfl, z, rfl, Nat.le_of_lt hs, 1, _, rfl, rfl, _, rfl, iteP (dT hl.1) ⟨_, _, rfl, rfl, ?_⟩⟩
    refine ⟨_, rfl, ?_⟩
    refine iteN (by rw [dT hl.2]; rfl) ?_
    refine ⟨_, rfl, z, rfl, fun D hD => ?_⟩
    refine lcS z [] (fun c => .bl (decide (c ∈ signs.cps.toList))) (fun _ => true) hD hs (fun c H1 R hc k1 kt kf => ⟨rfl, ?_⟩) (fun H1 k1 h1 => ?_)
    · exact ⟨_, rfl, c, signs, rfl, rfl, kt _ rfl .refl⟩
    · rw [map_bl] at h1
      refine ⟨D, _, rfl, SqL.of h1, ?_⟩
      refine ⟨_, rfl, iteP (all_true fun b hb => by
        obtain ⟨c, hc, rfl⟩ := List.mem_map.mp hb
        exact dT (hz.2.2.1 c hc)) ?_⟩
      refine ⟨_, rfl, _, rfl, rfl, z, " ", rfl, rfl, Nat.le_of_lt hs, ?_⟩
      refine ⟨rfl, ?_⟩
      rw [hz.2.2.2]
      exact qb (k _ k1) (dT rfl)
theorem ok_need_day (T : Txt K mg A) : FnOk P w K mg base CX0 2 A.a_need_day A.d_need_day P_need_day (sp_need_day) := by
  have nd := sc_need_day.nd
  refine T.F_need_day.ok sc_need_day (fun vs H Q E h => ?_) (fun cdv Ar outer s H vs Q E hr h => ?_)
  · obtain ⟨i, rfl, _⟩ := h
    rfl
  · obtain ⟨i, rfl, h1, h2, k⟩ := h
    have hu := hu_of hr
    obtain ⟨ds_is_whole1, hv_is_whole1, hb_is_whole1⟩ := T.bd_is_whole1
    refine ⟨_, (pss_one (ps_if (pt_not (pt_val (pe_call (ok_is_whole T) (hr.mono (by decide)) rfl T.m_is_whole T.F_is_whole.kp hb_is_whole1 hv_is_whole1 pass0 (pa_cons (pv 0) pa_nil))))
        (pss_one ps_never)
        pss_nil)), ?_⟩
    refine ⟨_, rfl, i, 0, 9999, rfl, h1, h2, _, rfl, ?_⟩
    exact iteF k
theorem ok_are_answers (T : Txt K mg A) : FnOk P w K mg base CX0 2 A.a_are_answers A.d_are_answers P_are_answers (sp_are_answers) := by
  have nd := sc_are_answers.nd
  refine T.F_are_answers.ok sc_are_answers (fun vs H Q E h => ?_) (fun cdv Ar outer s H vs Q E hr h => ?_)
  · obtain ⟨t, ans, rfl, _⟩ := h
    rfl
  · obtain ⟨t, ans, rfl, ht, ha, k⟩ := h
    have hu := hu_of hr
    obtain ⟨tFE, hFEWEST⟩ := T.g_FEWEST
    obtain ⟨tMO, hMOST⟩ := T.g_MOST
    refine ⟨_, (pss_cons (ps_if (PW.pt (pw_or (pt_not (pt_val (pe_callB call_isi (by rfl) T.m_isinstance (by decide +kernel) (pa_cons (pv 0) (pa_cons (pe_bltn (v := .ty "tuple") rfl T.m_tuple (by decide +kernel) rfl) pa_nil))))) (pw_or (pt_not (pt_chain op_le op_le (pe_glob (v := .int 2) rfl hFEWEST ⟨_, rfl⟩) (pe_callB call_len_seq (by rfl) T.m_len PySem.boot_len (pa_cons (pv 0) pa_nil)) (pe_glob (v := .int 6) rfl hMOST ⟨_, rfl⟩))) (pw_or1 (pt_not (pt_val (pe_callB (cr_all rfl) (by rfl) T.m_all (by decide +kernel) (pa_cons (pe_lc (own := [("one", 2)]) (g := gName 2) (tt := tYes) rfl nd (pi_tup (pv 0)) (blkOk_by (N := N_are_answers) (sc := defScope s_are_answers) (by decide +kernel)) (fun _ _ _ _ _ => (pg_name (i := 2) nd rfl (Or.inl rfl))) (fun _ _ _ _ _ => pts_nil) (fun _ _ _ _ _ => (pe_call (ok_is_text T) (hr.mono (by decide)) rfl T.m_is_text T.F_is_text.kp T.b_is_text .nil pass0 (pa_cons (pv 2) pa_nil)))) pa_nil))))))))
        (pss_one (ps_ret (pe_bl)))
        pss_nil)
      (pss_one (ps_ret (pe_callB (cr_all rfl) (by rfl) T.m_all (by decide +kernel) (pa_cons (pe_lc (own := [("at", 1), ("one", 2)]) (g := gTup K 2 (gCons (gName 1) (gCons (gName 2) gNil))) (tt := tYes) rfl nd (pi_enumT rfl T.m_enumerate (pa_cons (pv 0) pa_nil)) (blkOk_by (N := N_are_answers) (sc := defScope s_are_answers) (by decide +kernel)) (fun _ _ _ _ _ => (pg_tup rfl (pgs_cons (pg_name (i := 1) nd rfl (Or.inl rfl)) (pgs_cons (pg_name (i := 2) nd rfl (Or.inl rfl)) pgs_nil)))) (fun _ _ _ _ _ => pts_nil) (fun _ _ _ _ _ => (pe_cmpR op_eq (pe_bmT (r := rTupIx K) PySem.F.plainAttrs_tuple PySem.F.slot_tuple_index PySem.F.type_tuple_index mt_tup_ixK (pv 0) (pa_cons (pv 2) pa_nil)) (pv 1) (nomark _)))) pa_nil))))), ?_⟩
    have ht' : SqT K H t (ans.map V.str) := ht.sqT
    have hls : ans.length < sizeLine := by have := ha.2.1; have : 8 < sizeLine := by decide
                                           omega
    obtain ⟨o, hto, hto1, hto2⟩ := id ht
    refine ⟨_, rfl, _, _, _, _, true, rfl, .ty _, .fTuple hto, kit_ty (by decide +kernel), _, rfl, ?_⟩
    have hl : (2 : Int) ≤ ((ans.map V.str).length : Int) ∧ ((ans.map V.str).length : Int) ≤ 6 := by rw [List.length_map]; exact ⟨by have := ha.1; omega, by have := ha.2.1; omega⟩
    refine iteF ?_
    refine ⟨_, rfl, t, _, rfl, .inr ht', 2, _, rfl, rfl, _, rfl, iteP (dT hl.1) ⟨_, _, rfl, rfl, ?_⟩⟩
    refine ⟨_, rfl, ?_⟩
    refine iteN (by rw [dT hl.2]; rfl) ?_
    refine ⟨_, rfl, t, rfl, ⟨_, ht'⟩, fun D hD => ?_⟩
    refine lcT ans [] V.str (fun _ => V.bl true) (fun _ => true) hD hls ht' (fun z H1 R hz k1 kt kf => ⟨rfl, ?_⟩) (fun H1 k1 h1 => ?_)
    · exact ⟨_, rfl, z, rfl, ha.2.2.2 z hz, fun H2 k2 => kt _ rfl k2⟩
    rw [map_bl _ fun _ => true] at h1
    refine ⟨D, _, rfl, SqL.of h1, _, rfl, ?_⟩
    have hall : (ans.map fun _ => true).all id = true := all_true fun b hb => by
      obtain ⟨c, hc, rfl⟩ := List.mem_map.mp hb
      rfl
    refine iteN (by rw [hall]; rfl) ?_
    refine ⟨_, rfl, t, _, rfl, (k1.tupA ht).sqT, fun D2 hD2 => ?_⟩
    refine lc_enumT (fun i H2 => Kd [] H H2 ∧ H2 D2 = some (.lst (((ans.take i).map fun _ => true).map V.bl))) ⟨k1.mut (k1.back _ hD2), upd_same⟩ (fun i H2 _ h => (h.1.tupA ht).sqT) ?_ ?_
    · rintro i x H2 T hx ⟨k2, h2⟩ hT
      rw [List.getElem?_map] at hx
      cases hz : ans[i]? with
      | none => rw [hz] at hx; cases hx
      | some z =>
      rw [hz] at hx
      cases hx
      have hi : i < ans.length := (List.getElem?_eq_some_iff.mp hz).1
      refine ⟨T, _, rfl, .inl (.inl upd_same), rfl, _, _, rfl, _, _, rfl, rfl, rfl, ?_⟩
      have k3 : Kd [] H (upd H2 T (.tup [.int (i : Nat), .str z])) := k2.trans (.new hT)
      have k4 : Kd [] H2 (upd H2 T (.tup [.int (i : Nat), .str z])) := .new hT
      refine ⟨_, rfl, t, _, rfl, k3.tupA ht, _, rfl, t, ans, z, i, rfl, rfl, (k3.tupA ht).sqT, hz, fun m hm e => ?_, _, rfl, rfl, ?_⟩
      · have h1 := (List.getElem?_inj (by omega : m < ans.length) ha.2.2.1).mp (e.trans hz.symm)
        omega
      · refine ⟨_, k4.lst h2, ?_, ?_⟩
        · rw [List.length_map, List.length_map, List.length_take]; omega
        · refine ⟨Kd.mut k3 (k1.back _ hD2), ?_⟩
          rw [upd_same, List.take_add_one, hz, List.map_append, List.map_append]
          simp
    · rintro H2 ⟨k2, h2⟩
      refine ⟨D2, _, rfl, SqL.of h2, ?_⟩
      exact qb (k _ k2) (all_true fun b hb => by
        obtain ⟨c, hc, rfl⟩ := List.mem_map.mp hb
        rfl)
theorem ok_is_of (T : Txt K mg A) : FnOk P w K mg base CX0 2 A.a_is_of A.d_is_of P_is_of (sp_is_of) := by
  have nd := sc_is_of.nd
  refine T.F_is_of.ok sc_is_of (fun vs H Q E h => ?_) (fun cdv Ar outer s H vs Q E hr h => ?_)
  · obtain ⟨z, rfl, _⟩ := h
    rfl
  · obtain ⟨z, rfl, hz, k⟩ := h
    have hu := hu_of hr
    refine ⟨_, (pss_one (ps_ret (pe_or (pe_and (pe_callB call_isi (by rfl) T.m_isinstance (by decide +kernel) (pa_cons (pv 0) (pa_cons (pe_bltn (v := .ty "str") rfl T.m_str (by decide +kernel) rfl) pa_nil))) (pe_one (pe_cmpR op_eq (pv 0) (pe_str) (nomark _)))) (pe_one (pe_call (ok_is_name T) (hr.mono (by decide)) rfl T.m_is_name T.F_is_name.kp T.b_is_name .nil pass0 (pa_cons (pv 0) pa_nil)))))), ?_⟩
    refine ⟨_, rfl, _, _, _, _, true, rfl, .ty _, .base (.str _), kit_ty (by decide +kernel), _, rfl, iteT ?_⟩
    refine ⟨_, rfl, rfl, _, rfl, ?_⟩
    rcases hz with rfl | hz
    · exact iteP rfl (k _ .refl)
    · by_cases e : z = ""
      · exact iteP (by rw [e]; rfl) (k _ .refl)
      · exact iteN (dF fun h => e (V.str.inj h)) ⟨_, rfl, z, rfl, hz, fun H1 k1 => k _ k1⟩
end
end KB
/-! part KW2 -/
namespace KB
open PySem L2
section
variable {P : Program} {w : World} {K : PySem.W.Frag} {mg : Str → Option Value} {base : Heap} {A : Ads}
/-! reading of fields -/
section
variable {H : Hp} {B : Bh} {m : Bk} {q dx t : Addr} {d : Qn} {Q : VK}
theorem BankAt.gK (h : BankAt A H B m) (n : Str) : DGet H B.k (.str n) ((aget m.kept n).map fun p => V.ref p.1) := by
  rw [← valV_kv (fun p : Addr × Qn => V.ref p.1) n m.kept]
  exact DGet.k (k := Sum.inr n) h.kk
theorem BankAt.gO (h : BankAt A H B m) (n : Str) : DGet H B.o (.str n) ((aget m.out n).map V.str) := by
  rw [← valV_kv V.str n m.out]
  exact DGet.k (k := Sum.inr n) h.oo
theorem BankAt.gD (h : BankAt A H B m) (n : Str) : DGet H B.d (.str n) ((aget m.days n).map fun p => V.ref p.1) := by
  rw [← valV_kv (fun p : Addr × List Int => V.ref p.1) n m.days]
  exact DGet.k (k := Sum.inr n) h.dd
theorem inK {α : Type} {f : α → V} {l : List (Str × α)} {n : Str} : ((aget l n).map f).isSome = decide (n ∈ keys l) := by
  rw [Option.isSome_map, Bool.eq_iff_iff, aget_isSome, decide_eq_true_iff]
theorem line60 : 60 < sizeLine := by decide
theorem isQT (T : Txt K mg A) (h : H q = some (.ins A.cQ dx (qf t d))) : TyX K H (.ref q) (.ref A.cQ) := .base (.ins h T.clQ T.clsQ T.getCls T.takesCls T.mroQ)
theorem isBT (T : Txt K mg A) (h : BankAt A H B m) : TyX K H (.ref B.b) (.ref A.cB) := .base (.ins h.ins T.clB T.clsB T.getCls T.takesCls T.mroB)
end
theorem ok_Q_init (T : Txt K mg A) : FnOk P w K mg base CX0 3 A.a_Q_init A.d_Q_init P_Q_init (sp_Q_init A) := by
  have nd := sc_Q_init.nd
  refine T.F_Q_init.ok sc_Q_init (fun vs H Q E h => ?_) (fun cdv Ar outer s H vs Q E hr h => ?_)
  · obtain ⟨H0, p, dx, t, d, rfl, _⟩ := h
    rfl
  · obtain ⟨H0, p, dx, t, d, rfl, hq, hq1, k0, hi, ht, k⟩ := h
    have hu := hu_of hr
    obtain ⟨tTO, hTOP⟩ := T.g_TOP
    obtain ⟨its_is_whole_1_most, hk_is_whole_1_most⟩ := T.bk_is_whole_1_most
    obtain ⟨its_is_whole_1_least_most, hk_is_whole_1_least_most⟩ := T.bk_is_whole_1_least_most
    refine ⟨_, (pss_cons (ps_if (pt_not (pt_val (pe_call (ok_is_name T) (hr.mono (by decide)) rfl T.m_is_name T.F_is_name.kp T.b_is_name .nil pass0 (pa_cons (pv 1) pa_nil))))
        (pss_one ps_never)
        pss_nil)
      (pss_cons (ps_if (pt_not (pt_val (pe_call (ok_is_name T) (hr.mono (by decide)) rfl T.m_is_name T.F_is_name.kp T.b_is_name .nil pass0 (pa_cons (pv 2) pa_nil))))
        (pss_one ps_never)
        pss_nil)
      (pss_cons (ps_if (pt_not (pt_val (pe_call (ok_are_answers T) (hr.mono (by decide)) rfl T.m_are_answers T.F_are_answers.kp T.b_are_answers .nil pass0 (pa_cons (pv 3) pa_nil))))
        (pss_one ps_never)
        pss_nil)
      (pss_cons (ps_if (pt_not (pt_val (pe_callN (n := 1) (ok_is_whole T) (hr.mono (by decide)) rfl T.m_is_whole T.F_is_whole.kp hk_is_whole_1_most pass0 (pa_cons (pv 4) pa_nil) (pk_cons (pe_op op_sub (pe_callB call_len_seq (by rfl) T.m_len PySem.boot_len (pa_cons (pv 3) pa_nil)) (pe_int)) pk_nil))))
        (pss_one ps_never)
        pss_nil)
      (pss_cons (ps_if (pt_not (pt_val (pe_callN (n := 1) (ok_is_whole T) (hr.mono (by decide)) rfl T.m_is_whole T.F_is_whole.kp hk_is_whole_1_least_most pass0 (pa_cons (pv 5) pa_nil) (pk_cons (pe_int) (pk_cons (pe_glob (v := .int 9) rfl hTOP ⟨_, rfl⟩) pk_nil)))))
        (pss_one ps_never)
        pss_nil)
      (pss_cons (ps_if (pt_not (pt_val (pe_callN (n := 1) (ok_is_whole T) (hr.mono (by decide)) rfl T.m_is_whole T.F_is_whole.kp hk_is_whole_1_least_most pass0 (pa_cons (pv 6) pa_nil) (pk_cons (pe_int) (pk_cons (pe_glob (v := .int 9) rfl hTOP ⟨_, rfl⟩) pk_nil)))))
        (pss_one ps_never)
        pss_nil)
      (pss_cons (ps_if (pt_not (pt_val (pe_call (ok_is_of T) (hr.mono (by decide)) rfl T.m_is_of T.F_is_of.kp T.b_is_of .nil pass0 (pa_cons (pv 7) pa_nil))))
        (pss_one ps_never)
        pss_nil)
      (pss_cons (ps_fld (pv 0) (pv 1) rfl)
      (pss_cons (ps_fld (pv 0) (pv 2) rfl)
      (pss_cons (ps_fld (pv 0) (pv 3) rfl)
      (pss_cons (ps_fld (pv 0) (pv 4) rfl)
      (pss_cons (ps_fld (pv 0) (pv 5) rfl)
      (pss_cons (ps_fld (pv 0) (pv 6) rfl)
      (pss_one (ps_fld (pv 0) (pv 7) rfl))))))))))))))), ?_⟩
    have t1 := k0.tupA ht
    refine ⟨_, rfl, d.name, rfl, hq.name, fun H1 k1 => ⟨_, rfl, iteF ?_⟩⟩
    refine ⟨_, rfl, d.matter, rfl, hq.matter, fun H2 k2 => ⟨_, rfl, iteF ?_⟩⟩
    have t2 := k2.tupA (k1.tupA t1)
    refine ⟨_, rfl, t, d.ans, rfl, t2, hq.ans, fun H3 k3 => ⟨_, rfl, iteF ?_⟩⟩
    have t3 := k3.tupA t2
    refine ⟨_, rfl, _, rfl, t, _, rfl, .inr t3.sqT, d.ans.length, 1, (by rw [List.length_map]), rfl, rfl, rfl, d.right, 0, (d.ans.length : Int) - 1, rfl, hq.right0, hq.right1, _, rfl, iteF ?_⟩
    refine ⟨_, rfl, rfl, rfl, d.toil, 1, 9, rfl, hq.toil0, hq.toil1, _, rfl, iteF ?_⟩
    refine ⟨_, rfl, rfl, rfl, d.marks, 1, 9, rfl, hq.marks0, hq.marks1, _, rfl, iteF ?_⟩
    refine ⟨_, rfl, d.kin, rfl, hq.kin, fun H4 k4 => ⟨_, rfl, iteF ?_⟩⟩
    have ka : Kd [] H H4 := ((k1.trans k2).trans k3).trans k4
    have hi4 := ka.ins hi
    refine ⟨_, rfl, _, rfl, p, _, dx, _, rfl, hi4, T.clQ, T.nQ_name, (by show 0 < 1000; decide), ?_⟩
    refine ⟨_, rfl, _, rfl, p, _, dx, _, rfl, upd_same, T.clQ, T.nQ_matter, (by show 1 < 1000; decide), ?_⟩
    refine ⟨_, rfl, _, rfl, p, _, dx, _, rfl, upd_same, T.clQ, T.nQ_answers, (by show 2 < 1000; decide), ?_⟩
    refine ⟨_, rfl, _, rfl, p, _, dx, _, rfl, upd_same, T.clQ, T.nQ_right, (by show 3 < 1000; decide), ?_⟩
    refine ⟨_, rfl, _, rfl, p, _, dx, _, rfl, upd_same, T.clQ, T.nQ_toil, (by show 4 < 1000; decide), ?_⟩
    refine ⟨_, rfl, _, rfl, p, _, dx, _, rfl, upd_same, T.clQ, T.nQ_marks, (by show 5 < 1000; decide), ?_⟩
    refine ⟨_, rfl, _, rfl, p, _, dx, _, rfl, upd_same, T.clQ, T.nQ_kin, (by show 6 < 1000; decide), ?_⟩
    have kb : Kd [] H0 H4 := k0.trans ka
    refine k _ (((((((kb.mut hq1).mut hq1).mut hq1).mut hq1).mut hq1).mut hq1).mut hq1) ⟨dx, t, upd_same, ?_⟩
    exact (((((((kb.mut hq1).mut hq1).mut hq1).mut hq1).mut hq1).mut hq1).mut hq1).tupA ht
theorem ok_Q_parts (T : Txt K mg A) : FnOk P w K mg base CX0 1 A.a_Q_parts A.d_Q_parts P_Q_parts (sp_Q_parts A) := by
  have nd := sc_Q_parts.nd
  refine T.F_Q_parts.ok sc_Q_parts (fun vs H Q E h => ?_) (fun cdv Ar outer s H vs Q E hr h => ?_)
  · obtain ⟨q, dx, t, d, rfl, _⟩ := h
    rfl
  · obtain ⟨q, dx, t, d, rfl, hi, k⟩ := h
    have hu := hu_of hr
    refine ⟨_, (pss_one (ps_ret (pe_tup (pa_cons (pe_fld (pv 0) rfl) (pa_cons (pe_fld (pv 0) rfl) (pa_cons (pe_fld (pv 0) rfl) (pa_cons (pe_fld (pv 0) rfl) (pa_cons (pe_fld (pv 0) rfl) (pa_cons (pe_fld (pv 0) rfl) (pa_cons (pe_fld (pv 0) rfl) pa_nil)))))))))), ?_⟩
    exact ⟨_, rfl, _, _, _, _, _, rfl, hi, T.clQ, T.nQ_name, rfl, _, rfl, _, _, _, _, _, rfl, hi, T.clQ, T.nQ_matter, rfl, _, rfl, _, _, _, _, _, rfl, hi, T.clQ, T.nQ_answers, rfl, _, rfl, _, _, _, _, _, rfl, hi, T.clQ, T.nQ_right, rfl, _, rfl, _, _, _, _, _, rfl, hi, T.clQ, T.nQ_toil, rfl, _, rfl, _, _, _, _, _, rfl, hi, T.clQ, T.nQ_marks, rfl, _, rfl, _, _, _, _, _, rfl, hi, T.clQ, T.nQ_kin, rfl, (by show 7 ≤ sizeLine; decide), k⟩
theorem ok_w_parts (T : Txt K mg A) : FnOk P w K mg base CX0 1 A.a_w_parts A.d_w_parts P_w_parts (sp_w_parts A) := by
  have nd := sc_w_parts.nd
  refine T.F_w_parts.ok sc_w_parts (fun vs H Q E h => ?_) (fun cdv Ar outer s H vs Q E hr h => ?_)
  · obtain ⟨q, dx, t, d, rfl, _⟩ := h
    rfl
  · obtain ⟨q, dx, t, d, rfl, hi, k⟩ := h
    have hu := hu_of hr
    refine ⟨_, (pss_one (ps_ret (pe_tup (pa_cons (pe_fld (pv 0) rfl) (pa_cons (pe_fld (pv 0) rfl) (pa_cons (pe_fld (pv 0) rfl) (pa_cons (pe_fld (pv 0) rfl) (pa_cons (pe_fld (pv 0) rfl) (pa_cons (pe_fld (pv 0) rfl) (pa_cons (pe_fld (pv 0) rfl) pa_nil)))))))))), ?_⟩
    exact ⟨_, rfl, _, _, _, _, _, rfl, hi, T.clQ, T.nQ_name, rfl, _, rfl, _, _, _, _, _, rfl, hi, T.clQ, T.nQ_matter, rfl, _, rfl, _, _, _, _, _, rfl, hi, T.clQ, T.nQ_answers, rfl, _, rfl, _, _, _, _, _, rfl, hi, T.clQ, T.nQ_right, rfl, _, rfl, _, _, _, _, _, rfl, hi, T.clQ, T.nQ_toil, rfl, _, rfl, _, _, _, _, _, rfl, hi, T.clQ, T.nQ_marks, rfl, _, rfl, _, _, _, _, _, rfl, hi, T.clQ, T.nQ_kin, rfl, (by show 7 ≤ sizeLine; decide), k⟩
theorem ok_need_question (T : Txt K mg A) : FnOk P w K mg base CX0 1 A.a_need_question A.d_need_question P_need_question (sp_need_question A) := by
  have nd := sc_need_question.nd
  refine T.F_need_question.ok sc_need_question (fun vs H Q E h => ?_) (fun cdv Ar outer s H vs Q E hr h => ?_)
  · obtain ⟨q, d, rfl, _⟩ := h
    rfl
  · obtain ⟨q, d, rfl, hq, k⟩ := h
    have hu := hu_of hr
    refine ⟨_, (pss_one (ps_if (pt_not (pt_val (pe_callB call_isi (by rfl) T.m_isinstance (by decide +kernel) (pa_cons (pv 0) (pa_cons (pe_glob rfl T.m_Question (v := .ref A.cQ) rfl) pa_nil)))))
        (pss_one ps_never)
        pss_nil)), ?_⟩
    obtain ⟨dx, t, hi, _⟩ := hq
    refine ⟨_, rfl, _, _, _, _, true, rfl, .own _, isQT T hi, T.isQ, _, rfl, ?_⟩
    exact iteF k
theorem ok_need_bank (T : Txt K mg A) : FnOk P w K mg base CX0 1 A.a_need_bank A.d_need_bank P_need_bank (sp_need_bank A) := by
  have nd := sc_need_bank.nd
  refine T.F_need_bank.ok sc_need_bank (fun vs H Q E h => ?_) (fun cdv Ar outer s H vs Q E hr h => ?_)
  · obtain ⟨B, m, rfl, _⟩ := h
    rfl
  · obtain ⟨B, m, rfl, hB, k⟩ := h
    have hu := hu_of hr
    refine ⟨_, (pss_one (ps_if (pt_not (pt_val (pe_callB call_isi (by rfl) T.m_isinstance (by decide +kernel) (pa_cons (pv 0) (pa_cons (pe_glob rfl T.m_Bank (v := .ref A.cB) rfl) pa_nil)))))
        (pss_one ps_never)
        pss_nil)), ?_⟩
    refine ⟨_, rfl, _, _, _, _, true, rfl, .own _, isBT T hB, T.isB, _, rfl, ?_⟩
    exact iteF k
theorem ok_B_need_there (T : Txt K mg A) : FnOk P w K mg base CX0 1 A.a_B_need_there A.d_B_need_there P_B_need_there (sp_B_need_there A) := by
  have nd := sc_B_need_there.nd
  refine T.F_B_need_there.ok sc_B_need_there (fun vs H Q E h => ?_) (fun cdv Ar outer s H vs Q E hr h => ?_)
  · obtain ⟨B, m, n, rfl, _⟩ := h
    rfl
  · obtain ⟨B, m, n, rfl, hB, hn, k⟩ := h
    have hu := hu_of hr
    refine ⟨_, (pss_one (ps_if (PW.pt (pw_or (pt_not (pt_val (pe_callB call_isi (by rfl) T.m_isinstance (by decide +kernel) (pa_cons (pv 1) (pa_cons (pe_bltn (v := .ty "str") rfl T.m_str (by decide +kernel) rfl) pa_nil))))) (pw_or1 (pt_cmp (pc_dnotin hu (pv 1) (pe_fld (pv 0) rfl))))))
        (pss_one ps_never)
        pss_nil)), ?_⟩
    refine ⟨_, rfl, _, _, _, _, true, rfl, .ty _, .base (.str _), kit_ty (by decide +kernel), _, rfl, ?_⟩
    refine iteF ?_
    refine ⟨_, rfl, _, rfl, _, _, _, _, _, rfl, (hB).ins, T.clB, T.nB_kept_here, rfl, _, _, rfl, hB.gK n, ?_⟩
    refine ⟨_, rfl, ?_⟩
    exact iteN (by rw [inK, dT hn]; rfl) k
theorem ok_B_names (T : Txt K mg A) : FnOk P w K mg base CX0 1 A.a_B_names A.d_B_names P_B_names (sp_B_names A) := by
  have nd := sc_B_names.nd
  refine T.F_B_names.ok sc_B_names (fun vs H Q E h => ?_) (fun cdv Ar outer s H vs Q E hr h => ?_)
  · obtain ⟨B, m, rfl, _⟩ := h
    rfl
  · obtain ⟨B, m, rfl, hB, ok, k⟩ := h
    have hu := hu_of hr
    refine ⟨_, (pss_one (ps_ret (pe_callB (call_sortedD rfl) (by rfl) T.m_sorted (by decide +kernel) (pa_cons (pe_fld (pv 0) rfl) pa_nil)))), ?_⟩
    refine ⟨_, rfl, _, _, _, _, _, rfl, (hB).ins, T.clB, T.nB_kept_here, rfl, _, _, keys m.kept, rfl, .inl hB.kk, kvOf_keys _ _, (by have := ok.len; unfold keys; rw [List.length_map]; omega), fun ys p hp hs hn => ?_⟩
    rw [sorted_eq ok.kk hp hs]
    exact k _ p (.new hn) hn upd_same
theorem ok_B_standing (T : Txt K mg A) : FnOk P w K mg base CX0 1 A.a_B_standing A.d_B_standing P_B_standing (sp_B_standing A) := by
  have nd := sc_B_standing.nd
  refine T.F_B_standing.ok sc_B_standing (fun vs H Q E h => ?_) (fun cdv Ar outer s H vs Q E hr h => ?_)
  · obtain ⟨B, rfl, _⟩ := h
    rfl
  · obtain ⟨B, rfl, hB, k⟩ := h
    have hu := hu_of hr
    refine ⟨_, (pss_one (ps_ret (pe_tup (pa_cons (pe_fld (pv 0) rfl) (pa_cons (pe_fld (pv 0) rfl) (pa_cons (pe_fld (pv 0) rfl) pa_nil)))))), ?_⟩
    exact ⟨_, rfl, _, _, _, _, _, rfl, hB, T.clB, T.nB_kept_here, rfl, _, rfl, _, _, _, _, _, rfl, hB, T.clB, T.nB_out_here, rfl, _, rfl, _, _, _, _, _, rfl, hB, T.clB, T.nB_days_here, rfl, (by show 3 ≤ sizeLine; decide), k⟩
end
end KB
/-! part KW3 -/
namespace KB
open PySem L2
section
variable {P : Program} {w : World} {K : PySem.W.Frag} {mg : Str → Option Value} {base : Heap} {A : Ads}
section
variable {H H' : Hp} {B : Bh} {m : Bk} {F : List Addr}
theorem mem_aput {α : Type} {l : List (Str × α)} {n : Str} {x : α} {p : Str × α} (h : p ∈ aput l n x) : (p = (n, x)) ∨ p ∈ l := by
  by_cases hn : n ∈ keys l
  · rw [aput_old hn] at h
    obtain ⟨q, hq, e⟩ := List.mem_map.mp h
    by_cases hq1 : q.1 = n
    · rw [if_pos hq1] at e
      left
      rw [← e, hq1]
    · rw [if_neg hq1] at e
      right
      rw [← e]
      exact hq
  · rw [aput_new hn] at h
    rcases List.mem_append.mp h with h | h
    · exact .inr h
    · exact .inl (List.mem_singleton.mp h)
theorem mem_adrop {α : Type} {l : List (Str × α)} {n : Str} {p : Str × α} (h : p ∈ adrop l n) : p ∈ l := (List.mem_filter.mp h).1
theorem adrop_no {α : Type} {l : List (Str × α)} {n : Str} (h : n ∉ keys l) : adrop l n = l := by
  unfold adrop
  rw [List.filter_eq_self]
  intro p hp
  exact decide_eq_true fun e => h (e ▸ List.mem_map.mpr ⟨p, hp, rfl⟩)
theorem Bh.hk (B : Bh) : B.k ∈ B.F := by simp [Bh.F]
theorem Bh.ho (B : Bh) : B.o ∈ B.F := by simp [Bh.F]
theorem Bh.hd (B : Bh) : B.d ∈ B.F := by simp [Bh.F]
theorem BankAt.kdK (h : BankAt A H B m) {o : HO} : Kd B.F H (upd H B.k o) := .put h.kk B.hk
theorem BankAt.kdO (h : BankAt A H B m) {o : HO} : Kd B.F H (upd H B.o o) := .put h.oo B.ho
theorem BankAt.kdD (h : BankAt A H B m) {o : HO} : Kd B.F H (upd H B.d o) := .put h.dd B.hd
theorem BankAt.setK (h : BankAt A H B m) {l : List (Str × Addr × Qn)} (hq : ∀ p ∈ l, QAt A H p.2.1 p.2.2) : BankAt A (upd H B.k (.dK (kvOf (fun p => V.ref p.1) l))) B { m with kept := l } :=
  ⟨h.kdK.ins h.ins, upd_same, by rw [upd_ne h.ko.symm]; exact h.oo, by rw [upd_ne h.kd.symm]; exact h.dd, fun p hp => (hq p hp).keep h.kdK, fun p hp => h.kdK.lst (h.ds p hp), h.ko, h.kd, h.od⟩
theorem BankAt.setO (h : BankAt A H B m) {l : List (Str × Str)} : BankAt A (upd H B.o (.dK (kvOf V.str l))) B { m with out := l } :=
  ⟨h.kdO.ins h.ins, by rw [upd_ne h.ko]; exact h.kk, upd_same, by rw [upd_ne h.od.symm]; exact h.dd, fun p hp => (h.qs p hp).keep h.kdO, fun p hp => h.kdO.lst (h.ds p hp), h.ko, h.kd, h.od⟩
theorem BankAt.setD (h : BankAt A H B m) {l : List (Str × Addr × List Int)} (hq : ∀ p ∈ l, H p.2.1 = some (.lst (p.2.2.map V.int))) : BankAt A (upd H B.d (.dK (kvOf (fun p => V.ref p.1) l))) B { m with days := l } :=
  ⟨h.kdD.ins h.ins, by rw [upd_ne h.kd]; exact h.kk, by rw [upd_ne h.od]; exact h.oo, upd_same, fun p hp => (h.qs p hp).keep h.kdD, fun p hp => h.kdD.lst (hq p hp), h.ko, h.kd, h.od⟩
theorem BankAt.putK (h : BankAt A H B m) {n : Str} {a : Addr} {d : Qn} (hq : QAt A H a d) : BankAt A (upd H B.k (.dK (L2.putK (kvOf (fun p : Addr × Qn => V.ref p.1) m.kept) (Sum.inr n) (.ref a)))) B { m with kept := aput m.kept n (a, d) } := by
  have e := putK_kv (fun p : Addr × Qn => V.ref p.1) n (a, d) m.kept
  rw [e]
  refine h.setK fun p hp => ?_
  rcases mem_aput hp with rfl | hp
  · exact hq
  · exact h.qs p hp
theorem BankAt.putO (h : BankAt A H B m) {n w : Str} : BankAt A (upd H B.o (.dK (L2.putK (kvOf V.str m.out) (Sum.inr n) (.str w)))) B { m with out := aput m.out n w } := by
  rw [putK_kv V.str n w m.out]
  exact h.setO
theorem BankAt.putD (h : BankAt A H B m) {n : Str} {a : Addr} {l : List Int} (hq : H a = some (.lst (l.map V.int))) : BankAt A (upd H B.d (.dK (L2.putK (kvOf (fun p : Addr × List Int => V.ref p.1) m.days) (Sum.inr n) (.ref a)))) B { m with days := aput m.days n (a, l) } := by
  have e := putK_kv (fun p : Addr × List Int => V.ref p.1) n (a, l) m.days
  rw [e]
  refine h.setD fun p hp => ?_
  rcases mem_aput hp with rfl | hp
  · exact hq
  · exact h.ds p hp
theorem BankAt.dropK (h : BankAt A H B m) {n : Str} : BankAt A (upd H B.k (.dK (L2.dropK (kvOf (fun p : Addr × Qn => V.ref p.1) m.kept) (Sum.inr n)))) B { m with kept := adrop m.kept n } := by
  rw [dropK_kv]
  exact h.setK fun p hp => h.qs p (mem_adrop hp)
theorem BankAt.dropO (h : BankAt A H B m) {n : Str} : BankAt A (upd H B.o (.dK (L2.dropK (kvOf V.str m.out) (Sum.inr n)))) B { m with out := adrop m.out n } := by
  rw [dropK_kv]
  exact h.setO
theorem BankAt.dropD (h : BankAt A H B m) {n : Str} : BankAt A (upd H B.d (.dK (L2.dropK (kvOf (fun p : Addr × List Int => V.ref p.1) m.days) (Sum.inr n)))) B { m with days := adrop m.days n } := by
  rw [dropK_kv]
  exact h.setD fun p hp => h.ds p (mem_adrop hp)
theorem keys_some {α : Type} {l : List (Str × α)} {n : Str} (h : n ∈ keys l) : ∃ x, aget l n = some x := by
  cases e : aget l n with
  | none => exact absurd h (aget_none.mp e)
  | some x => exact ⟨x, rfl⟩
theorem d_some {l : List Int} {n : Str} (h : m.d n = some l) : ∃ p, aget m.days n = some (p, l) := by
  unfold Bk.d at h
  cases e : aget m.days n with
  | none => rw [e] at h; cases h
  | some x => rw [e] at h; cases h; exact ⟨x.1, rfl⟩
theorem q_some {d : Qn} {n : Str} (h : m.q n = some d) : ∃ p, aget m.kept n = some (p, d) := by
  unfold Bk.q at h
  cases e : aget m.kept n with
  | none => rw [e] at h; cases h
  | some x => rw [e] at h; cases h; exact ⟨x.1, rfl⟩
theorem BankAt.gKs (h : BankAt A H B m) {n : Str} {p : Addr × Qn} (e : aget m.kept n = some p) : DGet H B.k (.str n) (some (.ref p.1)) := by
  have g := h.gK n
  rw [e] at g
  exact g
theorem BankAt.gOs (h : BankAt A H B m) {n z : Str} (e : aget m.out n = some z) : DGet H B.o (.str n) (some (.str z)) := by
  have g := h.gO n
  rw [e] at g
  exact g
theorem BankAt.gDs (h : BankAt A H B m) {n : Str} {p : Addr × List Int} (e : aget m.days n = some p) : DGet H B.d (.str n) (some (.ref p.1)) := by
  have g := h.gD n
  rw [e] at g
  exact g
theorem vK (l : List (Str × Addr × Qn)) (n : Str) : valV (kvOf (fun p : Addr × Qn => V.ref p.1) l) (Sum.inr n) = (aget l n).map fun p => V.ref p.1 := valV_kv _ _ _
end
theorem ok_B_added (T : Txt K mg A) : FnOk P w K mg base CX0 2 A.a_B_added A.d_B_added P_B_added (sp_B_added A) := by
  have nd := sc_B_added.nd
  refine T.F_B_added.ok sc_B_added (fun vs H Q E h => ?_) (fun cdv Ar outer s H vs Q E hr h => ?_)
  · obtain ⟨B, m, a, d, rfl, _⟩ := h
    rfl
  · obtain ⟨B, m, a, d, rfl, hB, hq, hn, hl, hl2, k⟩ := h
    have hu := hu_of hr
    obtain ⟨tMQ, hMOST_QUESTIONS⟩ := T.g_MOST_QUESTIONS
    refine ⟨_, (pss_cons (ps_expr (pe_call (ok_need_question T) (hr.mono (by decide)) rfl T.m_need_question T.F_need_question.kp T.b_need_question .nil pass0 (pa_cons (pv 1) pa_nil)))
      (pss_cons (ps_if (pt_cmp (pc_din hu (pe_fld (pv 1) rfl) (pe_fld (pv 0) rfl)))
        (pss_one ps_never)
        pss_nil)
      (pss_cons (ps_if (pt_cmpR op_eq (pe_callB call_lenD (by rfl) T.m_len PySem.boot_len (pa_cons (pe_fld (pv 0) rfl) pa_nil)) (pe_glob (v := .int 60) rfl hMOST_QUESTIONS ⟨_, rfl⟩) (nomark _))
        (pss_one ps_never)
        pss_nil)
      (pss_cons (ps_dput hu (pe_fld (pv 0) rfl) (pe_fld (pv 1) rfl) (pv 1) rfl)
      (pss_one (ps_dput hu (pe_fld (pv 0) rfl) (pe_fld (pv 1) rfl) (pe_lst pa_nil) rfl)))))), ?_⟩
    obtain ⟨dx, t, hi, ht⟩ := id hq
    refine ⟨_, rfl, a, d, rfl, hq, ?_⟩
    refine ⟨_, rfl, _, _, _, _, _, rfl, hi, T.clQ, T.nQ_name, rfl, _, rfl, _, _, _, _, _, rfl, (hB).ins, T.clB, T.nB_kept_here, rfl, _, _, rfl, hB.gK d.name, _, rfl, ?_⟩
    refine iteN (by rw [inK, dF hn]) ?_
    refine ⟨_, rfl, _, _, _, _, _, rfl, (hB).ins, T.clB, T.nB_kept_here, rfl, _, _, rfl, hB.kk, ?_⟩
    refine ⟨rfl, _, rfl, ?_⟩
    refine iteN (dF fun e => ?_) ?_
    · have e2 : ((kvOf (fun p : Addr × Qn => V.ref p.1) m.kept).length : Int) = 60 := V.int.inj e
      rw [kvOf_len] at e2
      omega
    have hline : 60 < sizeLine := by decide
    refine ⟨_, rfl, _, rfl, _, _, _, _, _, rfl, (hB).ins, T.clB, T.nB_kept_here, rfl, _, rfl, _, _, _, _, _, rfl, hi, T.clQ, T.nQ_name, rfl, _, _, rfl, DPut.k (k := Sum.inr d.name) hB.kk (by rw [kvOf_len]; omega), ?_⟩
    have hB1 := hB.putK (n := d.name) hq
    have k1 : Kd B.F H _ := hB.kdK (o := .dK (L2.putK (kvOf (fun p : Addr × Qn => V.ref p.1) m.kept) (Sum.inr d.name) (.ref a)))
    have hi1 := k1.ins hi
    refine ⟨by decide, fun p hp => ?_⟩
    have hB2 := hB1.keep0 (.new hp (o := .lst []))
    have hi2 := (Kd.new (F := []) hp (o := .lst [])).ins hi1
    refine ⟨_, rfl, _, _, _, _, _, rfl, (hB2).ins, T.clB, T.nB_days_here, rfl, _, rfl, _, _, _, _, _, rfl, hi2, T.clQ, T.nQ_name, rfl, _, _, rfl, DPut.k (k := Sum.inr d.name) hB2.dd (by rw [kvOf_len]; show m.days.length < _; omega), ?_⟩
    exact k _ p ((k1.trans (.new hp)).trans hB2.kdD) (k1.back _ hp) (hB2.putD (l := []) upd_same)
theorem ok_B_put (T : Txt K mg A) : FnOk P w K mg base CX0 2 A.a_B_put A.d_B_put P_B_put (sp_B_put A) := by
  have nd := sc_B_put.nd
  refine T.F_B_put.ok sc_B_put (fun vs H Q E h => ?_) (fun cdv Ar outer s H vs Q E hr h => ?_)
  · obtain ⟨B, m, a, d, rfl, _⟩ := h
    rfl
  · obtain ⟨B, m, a, d, rfl, hB, hq, hn, hl, k⟩ := h
    have hu := hu_of hr
    refine ⟨_, (pss_cons (ps_expr (pe_call (ok_need_question T) (hr.mono (by decide)) rfl T.m_need_question T.F_need_question.kp T.b_need_question .nil pass0 (pa_cons (pv 1) pa_nil)))
      (pss_cons (ps_expr (pe_meth (pv 0) T.clB T.M_B_need_there (ok_B_need_there T) (hr.mono (by decide)) T.b_B_need_there .nil pass0 (pa_cons (pe_fld (pv 1) rfl) pa_nil)))
      (pss_one (ps_dput hu (pe_fld (pv 0) rfl) (pe_fld (pv 1) rfl) (pv 1) rfl)))), ?_⟩
    obtain ⟨dx, t, hi, ht⟩ := id hq
    refine ⟨_, rfl, a, d, rfl, hq, ?_⟩
    refine ⟨_, rfl, _, _, _, rfl, (hB).ins, rfl, _, rfl, _, _, _, _, _, rfl, hi, T.clQ, T.nQ_name, rfl, B, m, d.name, rfl, hB, hn, ?_⟩
    have hline : 60 < sizeLine := by decide
    refine ⟨_, rfl, _, rfl, _, _, _, _, _, rfl, (hB).ins, T.clB, T.nB_kept_here, rfl, _, rfl, _, _, _, _, _, rfl, hi, T.clQ, T.nQ_name, rfl, _, _, rfl, DPut.k (k := Sum.inr d.name) hB.kk (by rw [kvOf_len]; omega), ?_⟩
    exact k _ hB.kdK (hB.putK hq)
theorem ok_B_taken_out (T : Txt K mg A) : FnOk P w K mg base CX0 2 A.a_B_taken_out A.d_B_taken_out P_B_taken_out (sp_B_taken_out A) := by
  have nd := sc_B_taken_out.nd
  refine T.F_B_taken_out.ok sc_B_taken_out (fun vs H Q E h => ?_) (fun cdv Ar outer s H vs Q E hr h => ?_)
  · obtain ⟨B, m, n, why, rfl, _⟩ := h
    rfl
  · obtain ⟨B, m, n, why, rfl, hB, hn, hw, hl, k⟩ := h
    have hu := hu_of hr
    refine ⟨_, (pss_cons (ps_expr (pe_meth (pv 0) T.clB T.M_B_need_there (ok_B_need_there T) (hr.mono (by decide)) T.b_B_need_there .nil pass0 (pa_cons (pv 1) pa_nil)))
      (pss_cons (ps_if (pt_not (pt_val (pe_call (ok_is_text T) (hr.mono (by decide)) rfl T.m_is_text T.F_is_text.kp T.b_is_text .nil pass0 (pa_cons (pv 2) pa_nil))))
        (pss_one ps_never)
        pss_nil)
      (pss_one (ps_dput hu (pe_fld (pv 0) rfl) (pv 1) (pv 2) rfl)))), ?_⟩
    refine ⟨_, rfl, _, _, _, rfl, (hB).ins, rfl, _, rfl, B, m, n, rfl, hB, hn, ?_⟩
    refine ⟨_, rfl, why, rfl, hw, fun H1 k1 => ⟨_, rfl, iteF ?_⟩⟩
    have hB1 := hB.keep0 k1
    have hline : 60 < sizeLine := by decide
    refine ⟨_, rfl, _, rfl, _, _, _, _, _, rfl, (hB1).ins, T.clB, T.nB_out_here, rfl, _, rfl, _, _, rfl, DPut.k (k := Sum.inr n) hB1.oo (by rw [kvOf_len]; omega), ?_⟩
    exact k _ (k1.nil.trans hB1.kdO) hB1.putO
theorem ok_B_put_back (T : Txt K mg A) : FnOk P w K mg base CX0 2 A.a_B_put_back A.d_B_put_back P_B_put_back (sp_B_put_back A) := by
  have nd := sc_B_put_back.nd
  refine T.F_B_put_back.ok sc_B_put_back (fun vs H Q E h => ?_) (fun cdv Ar outer s H vs Q E hr h => ?_)
  · obtain ⟨B, m, n, rfl, _⟩ := h
    rfl
  · obtain ⟨B, m, n, rfl, hB, hn, ho, k⟩ := h
    have hu := hu_of hr
    refine ⟨_, (pss_cons (ps_expr (pe_meth (pv 0) T.clB T.M_B_need_there (ok_B_need_there T) (hr.mono (by decide)) T.b_B_need_there .nil pass0 (pa_cons (pv 1) pa_nil)))
      (pss_cons (ps_if (pt_cmp (pc_dnotin hu (pv 1) (pe_fld (pv 0) rfl)))
        (pss_one ps_never)
        pss_nil)
      (pss_one (ps_expr (pe_dpop1 (pe_fld (pv 0) rfl) (pv 1) ⟨rfl, rfl, rfl, rfl⟩))))), ?_⟩
    refine ⟨_, rfl, _, _, _, rfl, (hB).ins, rfl, _, rfl, B, m, n, rfl, hB, hn, ?_⟩
    refine ⟨_, rfl, _, rfl, _, _, _, _, _, rfl, (hB).ins, T.clB, T.nB_out_here, rfl, _, _, rfl, hB.gO n, _, rfl, ?_⟩
    refine iteN (by rw [inK, dT ho]; rfl) ?_
    obtain ⟨z, hz⟩ := keys_some ho
    refine ⟨_, rfl, _, _, _, _, _, rfl, (hB).ins, T.clB, T.nB_out_here, rfl, _, rfl, .inl ⟨_, .inl hB.oo⟩, _, rfl, _, Sum.inr n, _, hB.oo, rfl, (by rw [valV_kv, hz]; rfl), ?_⟩
    exact k _ hB.kdO hB.dropO
theorem ok_B_dropped (T : Txt K mg A) : FnOk P w K mg base CX0 2 A.a_B_dropped A.d_B_dropped P_B_dropped (sp_B_dropped A) := by
  have nd := sc_B_dropped.nd
  refine T.F_B_dropped.ok sc_B_dropped (fun vs H Q E h => ?_) (fun cdv Ar outer s H vs Q E hr h => ?_)
  · obtain ⟨B, m, n, rfl, _⟩ := h
    rfl
  · obtain ⟨B, m, n, rfl, hB, hn, hd, k⟩ := h
    have hu := hu_of hr
    refine ⟨_, (pss_cons (ps_expr (pe_meth (pv 0) T.clB T.M_B_need_there (ok_B_need_there T) (hr.mono (by decide)) T.b_B_need_there .nil pass0 (pa_cons (pv 1) pa_nil)))
      (pss_cons (ps_expr (pe_dpop1 (pe_fld (pv 0) rfl) (pv 1) ⟨rfl, rfl, rfl, rfl⟩))
      (pss_cons (ps_expr (pe_dpop1 (pe_fld (pv 0) rfl) (pv 1) ⟨rfl, rfl, rfl, rfl⟩))
      (pss_one (ps_expr (pe_dpop2 (pe_fld (pv 0) rfl) (pv 1) (pe_non) ⟨rfl, rfl, rfl, rfl⟩)))))), ?_⟩
    refine ⟨_, rfl, _, _, _, rfl, (hB).ins, rfl, _, rfl, B, m, n, rfl, hB, hn, ?_⟩
    obtain ⟨z, hz⟩ := keys_some hn
    obtain ⟨y, hy⟩ := keys_some hd
    refine ⟨_, rfl, _, _, _, _, _, rfl, (hB).ins, T.clB, T.nB_kept_here, rfl, _, rfl, .inl ⟨_, .inl hB.kk⟩, _, rfl, _, Sum.inr n, _, hB.kk, rfl, (by rw [valV_kv, hz]; rfl), ?_⟩
    have hB1 := hB.dropK (n := n)
    have k1 : Kd B.F H _ := hB.kdK (o := .dK (L2.dropK (kvOf (fun p : Addr × Qn => V.ref p.1) m.kept) (Sum.inr n)))
    refine ⟨_, rfl, _, _, _, _, _, rfl, (hB1).ins, T.clB, T.nB_days_here, rfl, _, rfl, .inl ⟨_, .inl hB1.dd⟩, _, rfl, _, Sum.inr n, _, hB1.dd, rfl, (by rw [valV_kv, hy]; rfl), ?_⟩
    have hB2 := hB1.dropD (n := n)
    refine ⟨_, rfl, _, _, _, _, _, rfl, (hB2).ins, T.clB, T.nB_out_here, rfl, _, rfl, .inl ⟨_, .inl hB2.oo⟩, _, rfl, _, Sum.inr n, hB2.oo, rfl, fun v hv => ?_, fun hv => ?_⟩
    · exact k _ ((k1.trans hB1.kdD).trans hB2.kdO) hB2.dropO
    · refine k _ (k1.trans hB1.kdD) ?_
      rw [valV_kv, Option.map_eq_none_iff] at hv
      have e : m.out = adrop m.out n := (adrop_no (aget_none.mp hv)).symm
      have e2 : m.dropped n = { kept := adrop m.kept n, out := m.out, days := adrop m.days n } := by
        unfold Bk.dropped
        rw [← e]
      rw [e2]
      exact hB2
theorem ok_B_question (T : Txt K mg A) : FnOk P w K mg base CX0 2 A.a_B_question A.d_B_question P_B_question (sp_B_question A) := by
  have nd := sc_B_question.nd
  refine T.F_B_question.ok sc_B_question (fun vs H Q E h => ?_) (fun cdv Ar outer s H vs Q E hr h => ?_)
  · obtain ⟨B, m, n, p, rfl, _⟩ := h
    rfl
  · obtain ⟨B, m, n, p, rfl, hB, hp, k⟩ := h
    have hu := hu_of hr
    refine ⟨_, (pss_cons (ps_expr (pe_meth (pv 0) T.clB T.M_B_need_there (ok_B_need_there T) (hr.mono (by decide)) T.b_B_need_there .nil pass0 (pa_cons (pv 1) pa_nil)))
      (pss_one (ps_ret (pe_dget hu (pe_fld (pv 0) rfl) (pv 1) (fun _ _ => rfl))))), ?_⟩
    refine ⟨_, rfl, _, _, _, rfl, (hB).ins, rfl, _, rfl, B, m, n, rfl, hB, aget_isSome.mp (by rw [hp]; rfl), ?_⟩
    exact ⟨_, rfl, _, _, _, _, _, rfl, (hB).ins, T.clB, T.nB_kept_here, rfl, _, rfl, _, _, rfl, hB.gKs hp, k⟩
theorem ok_B_days_of (T : Txt K mg A) : FnOk P w K mg base CX0 2 A.a_B_days_of A.d_B_days_of P_B_days_of (sp_B_days_of A) := by
  have nd := sc_B_days_of.nd
  refine T.F_B_days_of.ok sc_B_days_of (fun vs H Q E h => ?_) (fun cdv Ar outer s H vs Q E hr h => ?_)
  · obtain ⟨B, m, n, l, rfl, _⟩ := h
    rfl
  · obtain ⟨B, m, n, l, rfl, hB, hn, hl, k⟩ := h
    have hu := hu_of hr
    refine ⟨_, (pss_cons (ps_expr (pe_meth (pv 0) T.clB T.M_B_need_there (ok_B_need_there T) (hr.mono (by decide)) T.b_B_need_there .nil pass0 (pa_cons (pv 1) pa_nil)))
      (pss_one (ps_ret (pe_callTy call_list_of (by rfl) T.m_list (by decide +kernel) (pa_cons (pe_dget hu (pe_fld (pv 0) rfl) (pv 1) (fun _ _ => rfl)) pa_nil))))), ?_⟩
    refine ⟨_, rfl, _, _, _, rfl, (hB).ins, rfl, _, rfl, B, m, n, rfl, hB, hn, ?_⟩
    obtain ⟨p, hp⟩ := d_some hl
    refine ⟨_, rfl, _, _, _, _, _, rfl, (hB).ins, T.clB, T.nB_days_here, rfl, _, rfl, _, _, rfl, hB.gDs hp, p, _, rfl, .inl (SqL.of (hB.day hp)), fun l hl => ?_⟩
    exact k _ l (.new hl) hl upd_same
end
end KB
/-! part KW4 -/
namespace KB
open PySem L2
section
variable {P : Program} {w : World} {K : PySem.W.Frag} {mg : Str → Option Value} {base : Heap} {A : Ads}
theorem filter_true {α : Type} (l : List α) : (l.filter fun _ => true) = l := List.filter_eq_self.mpr fun _ _ => rfl
theorem bool_not_some {α : Type} {f : α → V} {l : List (Str × α)} {n : Str} : (!((aget l n).map f).isSome) = (aget l n).isNone := by
  rw [Option.isSome_map]
  cases aget l n <;> rfl
theorem namesLen {m : Bk} (ok : m.Ok) : m.names.length ≤ 8 := by
  rw [names_len]
  exact ok.len
theorem namesInLen {m : Bk} (ok : m.Ok) : m.namesIn.length ≤ 8 := Nat.le_trans (List.length_filter_le _ _) (namesLen ok)
theorem l60 {n : Nat} (h : n < 60) : n < sizeLine := Nat.lt_trans h (by decide)
theorem line9 {n : Nat} (h : n ≤ 8) : n < sizeLine := Nat.lt_of_le_of_lt h (by decide)
theorem ok_B_names_in (T : Txt K mg A) : FnOk P w K mg base CX0 2 A.a_B_names_in A.d_B_names_in P_B_names_in (sp_B_names_in A) := by
  have nd := sc_B_names_in.nd
  refine T.F_B_names_in.ok sc_B_names_in (fun vs H Q E h => ?_) (fun cdv Ar outer s H vs Q E hr h => ?_)
  · obtain ⟨B, m, rfl, _⟩ := h
    rfl
  · obtain ⟨B, m, rfl, hB, ok, k⟩ := h
    have hu := hu_of hr
    refine ⟨_, (pss_one (ps_ret (pe_lc (own := [("name", 1)]) (g := gName 1) rfl nd (pi_list (pe_meth0 (pv 0) T.clB T.M_B_names (ok_B_names T) (hr.mono (by decide)) T.b_B_names .nil pass0)) (blkOk_by (N := N_B_names_in) (sc := defScope s_B_names_in) (by decide +kernel)) (fun _ _ _ _ _ => (pg_name (i := 1) nd rfl (Or.inl rfl))) (fun _ _ _ _ _ => pts_one (pt_cmp (pc_dnotin hu (pv 1) (pe_fldK K rfl (pv 0) rfl)))) (fun _ _ _ _ _ => (pv 1))))), ?_⟩
    refine ⟨_, rfl, _, _, _, rfl, (hB).ins, rfl, B, m, rfl, hB, ok, fun H1 p1 k1 hp1 hl1 => ?_⟩
    refine ⟨_, rfl, ⟨_, SqL.of hl1⟩, fun D hD => ?_⟩
    have hB1 := hB.keep0 k1
    refine lcL m.names [] V.str V.str (fun n => (m.r n).isNone) hD (line9 (namesLen ok)) (SqL.of hl1) (fun n H2 R hn k2 kt kf => ⟨rfl, ?_⟩) (fun H2 k2 h2 => ?_)
    · have hB2 := hB1.keep0 k2
      refine ⟨_, rfl, _, rfl, _, _, _, _, _, rfl, (hB2).ins, T.clB, T.nB_out_here, rfl, _, _, rfl, hB2.gO n, _, rfl, ?_⟩
      rw [bool_not_some]
      exact iteB (fun h => ⟨_, rfl, kt _ h .refl⟩) (fun h => kf _ h .refl)
    · exact k _ D (k1.trans k2) (k1.back _ hD) h2
theorem ok_B_outs (T : Txt K mg A) : FnOk P w K mg base CX0 1 A.a_B_outs A.d_B_outs P_B_outs (sp_B_outs A) := by
  have nd := sc_B_outs.nd
  refine T.F_B_outs.ok sc_B_outs (fun vs H Q E h => ?_) (fun cdv Ar outer s H vs Q E hr h => ?_)
  · obtain ⟨B, m, rfl, _⟩ := h
    rfl
  · obtain ⟨B, m, rfl, hB, ok, k⟩ := h
    have hu := hu_of hr
    refine ⟨_, (pss_one (ps_ret (pe_lc (own := [("name", 1)]) (g := gName 1) (tt := tYes) rfl nd (pi_list (pe_callB (call_sortedD rfl) (by rfl) T.m_sorted (by decide +kernel) (pa_cons (pe_fld (pv 0) rfl) pa_nil))) (blkOk_by (N := N_B_outs) (sc := defScope s_B_outs) (by decide +kernel)) (fun _ _ _ _ _ => (pg_name (i := 1) nd rfl (Or.inl rfl))) (fun _ _ _ _ _ => pts_nil) (fun _ _ _ _ _ => (pe_tup (pa_cons (pv 1) (pa_cons (pe_dget hu (pe_fldK K rfl (pv 0) rfl) (pv 1) (fun _ _ => rfl)) pa_nil))))))), ?_⟩
    have hlen : (keys m.out).length ≤ 8 := by
      have := nodup_subset_length ok.kout (fun x hx => ok.sub x hx)
      have h2 : (keys m.kept).length = m.kept.length := List.length_map ..
      have := ok.len
      omega
    refine ⟨_, rfl, _, _, _, _, _, rfl, (hB).ins, T.clB, T.nB_out_here, rfl, _, _, keys m.out, rfl, .inl hB.oo, kvOf_keys _ _, by omega, fun ys p hp hs hn => ?_⟩
    rw [sorted_eq ok.kout hp hs]
    refine ⟨p, rfl, ⟨_, SqL.of upd_same⟩, fun D hD => ?_⟩
    have k1 : Kd [] H (upd H p (.lst ((srt (keys m.out)).map V.str))) := .new hn
    have hB1 := hB.keep0 k1
    refine lcRowsL (srt (keys m.out)) [] V.str (fun n => [.str n, .str ((m.r n).getD Str.empty)]) hD (line9 (by rw [(srt_perm _).length_eq]; exact hlen)) (SqL.of upd_same) (fun n H2 R hn2 k2 kt => ⟨rfl, ?_⟩) (fun H2 k2 h2 => ?_)
    · have hB2 := hB1.keep0 k2
      obtain ⟨z, hz⟩ := keys_some (mem_srt.mp hn2)
      refine ⟨_, rfl, _, rfl, _, _, _, _, _, rfl, (hB2).ins, T.clB, T.nB_out_here, rfl, _, rfl, _, _, rfl, hB2.gOs hz, by (show 2 ≤ sizeLine; decide), fun t ht => ?_⟩
      refine kt _ t (.new ht) ?_
      have e : (m.r n).getD Str.empty = z := by
        show (aget m.out n).getD Str.empty = z
        rw [hz]
        rfl
      rw [upd_same, e]
    · refine k _ D (k1.trans k2) (k1.back _ hD) ?_
      have e : m.outsL.map (fun r => [V.str r.1, V.str r.2]) = (srt (keys m.out)).map fun n => [V.str n, V.str ((m.r n).getD Str.empty)] := by
        unfold Bk.outsL
        rw [List.map_map]
        rfl
      rw [e]
      exact h2
theorem ok_B_used_on (T : Txt K mg A) : FnOk P w K mg base CX0 3 A.a_B_used_on A.d_B_used_on P_B_used_on (sp_B_used_on A) := by
  have nd := sc_B_used_on.nd
  refine T.F_B_used_on.ok sc_B_used_on (fun vs H Q E h => ?_) (fun cdv Ar outer s H vs Q E hr h => ?_)
  · obtain ⟨B, m, n, day, l, rfl, _⟩ := h
    rfl
  · obtain ⟨B, m, n, day, l, rfl, hB, hn, hl, h0, h1, hlen, hdl, kin, kno⟩ := h
    have hu := hu_of hr
    refine ⟨_, (pss_cons (ps_expr (pe_meth (pv 0) T.clB T.M_B_need_there (ok_B_need_there T) (hr.mono (by decide)) T.b_B_need_there .nil pass0 (pa_cons (pv 1) pa_nil)))
      (pss_cons (ps_expr (pe_call (ok_need_day T) (hr.mono (by decide)) rfl T.m_need_day T.F_need_day.kp T.b_need_day .nil pass0 (pa_cons (pv 2) pa_nil)))
      (pss_one (ps_if (pt_cmpR op_notIn_seq (pv 2) (pe_dget hu (pe_fld (pv 0) rfl) (pv 1) (fun _ _ => rfl)) rfl)
        (pss_one (ps_dput hu (pe_fld (pv 0) rfl) (pv 1) (pe_callB cr_sorted (by rfl) T.m_sorted (by decide +kernel) (pa_cons (pe_op op_cat (pe_dget hu (pe_fld (pv 0) rfl) (pv 1) (fun _ _ => rfl)) (pe_lst (pa_cons (pv 2) pa_nil))) pa_nil)) rfl))
        pss_nil)))), ?_⟩
    refine ⟨_, rfl, _, _, _, rfl, (hB).ins, rfl, _, rfl, B, m, n, rfl, hB, hn, ?_⟩
    refine ⟨_, rfl, day, rfl, h0, h1, ?_⟩
    obtain ⟨p, hp⟩ := d_some hl
    have hday := hB.day hp
    refine ⟨_, rfl, _, rfl, _, _, _, _, _, rfl, (hB).ins, T.clB, T.nB_days_here, rfl, _, rfl, _, _, rfl, hB.gDs hp, p, _, rfl, .inl (SqL.of hday), rfl, flat_int _, _, rfl, ?_⟩
    refine iteB (fun h => ?_) (fun h => ?_)
    · have h : (!decide (day ∈ l)) = true := by rw [← inV_int]; exact h
      have hno : day ∉ l := by simpa using h
      refine ⟨_, rfl, _, _, _, _, _, rfl, (hB).ins, T.clB, T.nB_days_here, rfl, _, rfl, _, _, rfl, hB.gDs hp, _, rfl, (by show 1 ≤ sizeLine; decide), fun q hq => ?_⟩
      have k1 : Kd [] H (upd H q (.lst [.int day])) := .new hq
      refine ⟨p, q, _, _, rfl, rfl, k1.lst hday, upd_same, ?_, fun q2 hq2 => ?_⟩
      · rw [List.length_map]
        have : 61 < sizeLine := by decide
        show l.length + 1 ≤ _
        omega
      have k2 : Kd [] H (upd (upd H q (.lst [.int day])) q2 (.lst (l.map V.int ++ [.int day]))) := k1.trans (.new hq2)
      refine ⟨q2, l ++ [day], rfl, SqL.of (by rw [upd_same, List.map_append]; rfl), by rw [List.length_append]; show l.length + 1 < 64; omega, fun ns' r hperm hsort hr => ?_⟩
      have k3 := k2.trans (Kd.new hr (o := .lst (ns'.map V.int)))
      have hB3 := hB.keep0 k3
      refine ⟨_, rfl, _, _, _, _, _, rfl, (hB3).ins, T.clB, T.nB_days_here, rfl, _, rfl, _, _, rfl, DPut.k (k := Sum.inr n) hB3.dd (by rw [kvOf_len]; exact l60 hdl), ?_⟩
      exact kno hno _ r ns' (k3.nil.trans hB3.kdD) (k2.back _ hr) hperm hsort (hB3.putD upd_same)
    · have h : (!decide (day ∈ l)) = false := by rw [← inV_int]; exact h
      exact kin (by simpa using h) _ .refl
theorem ok_B_unused_on (T : Txt K mg A) : FnOk P w K mg base CX0 3 A.a_B_unused_on A.d_B_unused_on P_B_unused_on (sp_B_unused_on A) := by
  have nd := sc_B_unused_on.nd
  refine T.F_B_unused_on.ok sc_B_unused_on (fun vs H Q E h => ?_) (fun cdv Ar outer s H vs Q E hr h => ?_)
  · obtain ⟨B, m, n, day, l, rfl, _⟩ := h
    rfl
  · obtain ⟨B, m, n, day, l, rfl, hB, hn, hl, h0, h1, hin, hlen, hdl, k⟩ := h
    have hu := hu_of hr
    refine ⟨_, (pss_cons (ps_expr (pe_meth (pv 0) T.clB T.M_B_need_there (ok_B_need_there T) (hr.mono (by decide)) T.b_B_need_there .nil pass0 (pa_cons (pv 1) pa_nil)))
      (pss_cons (ps_expr (pe_call (ok_need_day T) (hr.mono (by decide)) rfl T.m_need_day T.F_need_day.kp T.b_need_day .nil pass0 (pa_cons (pv 2) pa_nil)))
      (pss_cons (ps_if (pt_cmpR op_notIn_seq (pv 2) (pe_dget hu (pe_fld (pv 0) rfl) (pv 1) (fun _ _ => rfl)) rfl)
        (pss_one ps_never)
        pss_nil)
      (pss_one (ps_dput hu (pe_fld (pv 0) rfl) (pv 1) (pe_lc (own := [("one", 3)]) (g := gName 3) rfl nd (pi_list (pe_dget hu (pe_fld (pv 0) rfl) (pv 1) (fun _ _ => rfl))) (blkOk_by (N := N_B_unused_on) (sc := defScope s_B_unused_on) (by decide +kernel)) (fun _ _ _ _ _ => (pg_name (i := 3) nd rfl (Or.inl rfl))) (fun _ _ _ _ _ => pts_one (pt_cmpR op_ne (pv 3) (pv 2) (nomark _))) (fun _ _ _ _ _ => (pv 3))) rfl))))), ?_⟩
    refine ⟨_, rfl, _, _, _, rfl, (hB).ins, rfl, _, rfl, B, m, n, rfl, hB, hn, ?_⟩
    refine ⟨_, rfl, day, rfl, h0, h1, ?_⟩
    obtain ⟨p, hp⟩ := d_some hl
    have hday := hB.day hp
    refine ⟨_, rfl, _, rfl, _, _, _, _, _, rfl, (hB).ins, T.clB, T.nB_days_here, rfl, _, rfl, _, _, rfl, hB.gDs hp, p, _, rfl, .inl (SqL.of hday), rfl, flat_int _, _, rfl, ?_⟩
    have h : inV (.int day) (l.map V.int) = true := by rw [inV_int]; exact dT hin
    refine iteN (by rw [if_pos rfl]; show (!inV (V.int day) (l.map V.int)) = false; rw [h]; rfl) ?_
    refine ⟨_, rfl, _, _, _, _, _, rfl, (hB).ins, T.clB, T.nB_days_here, rfl, _, rfl, _, _, rfl, hB.gDs hp, p, rfl, ⟨_, SqL.of hday⟩, fun D hD => ?_⟩
    refine lcL l [] V.int V.int (fun x => decide (x ≠ day)) hD (l60 hlen) (SqL.of hday) (fun x H2 R hx k2 kt kf => ⟨rfl, ?_⟩) (fun H2 k2 h2 => ?_)
    · refine ⟨_, rfl, _, rfl, rfl, _, rfl, ?_⟩
      have e : (!decide (V.int x = V.int day)) = decide (x ≠ day) := by
        rw [dec_int, Bool.eq_iff_iff]
        simp
      rw [e]
      exact iteB (fun h => ⟨_, rfl, kt _ h .refl⟩) (fun h => kf _ h .refl)
    · have hB2 := hB.keep0 k2
      refine ⟨_, rfl, _, _, _, _, _, rfl, (hB2).ins, T.clB, T.nB_days_here, rfl, _, rfl, _, _, rfl, DPut.k (k := Sum.inr n) hB2.dd (by rw [kvOf_len]; exact l60 hdl), ?_⟩
      exact k _ D (k2.nil.trans hB2.kdD) hD (hB2.putD h2)
theorem ok_B_last_day (T : Txt K mg A) : FnOk P w K mg base CX0 3 A.a_B_last_day A.d_B_last_day P_B_last_day (sp_B_last_day A) := by
  have nd := sc_B_last_day.nd
  refine T.F_B_last_day.ok sc_B_last_day (fun vs H Q E h => ?_) (fun cdv Ar outer s H vs Q E hr h => ?_)
  · obtain ⟨B, m, n, day, l, rfl, _⟩ := h
    rfl
  · obtain ⟨B, m, n, day, l, rfl, hB, hn, hl, h0, h1, hlen, k⟩ := h
    have hu := hu_of hr
    refine ⟨_, (pss_cons (ps_expr (pe_meth (pv 0) T.clB T.M_B_need_there (ok_B_need_there T) (hr.mono (by decide)) T.b_B_need_there .nil pass0 (pa_cons (pv 1) pa_nil)))
      (pss_cons (ps_expr (pe_call (ok_need_day T) (hr.mono (by decide)) rfl T.m_need_day T.F_need_day.kp T.b_need_day .nil pass0 (pa_cons (pv 2) pa_nil)))
      (pss_one (ps_ret (pe_callBK (call_maxD rfl hu) (by rfl) T.m_max (by decide +kernel) (pa_cons (pe_lc (own := [("one", 3)]) (g := gName 3) rfl nd (pi_list (pe_dget hu (pe_fld (pv 0) rfl) (pv 1) (fun _ _ => rfl))) (blkOk_by (N := N_B_last_day) (sc := defScope s_B_last_day) (by decide +kernel)) (fun _ _ _ _ _ => (pg_name (i := 3) nd rfl (Or.inl rfl))) (fun _ _ _ _ _ => pts_one (pt_cmpR op_le (pv 3) (pv 2) (nomark _))) (fun _ _ _ _ _ => (pv 3))) pa_nil) (pk_cons (pe_non) pk_nil)))))), ?_⟩
    refine ⟨_, rfl, _, _, _, rfl, (hB).ins, rfl, _, rfl, B, m, n, rfl, hB, hn, ?_⟩
    refine ⟨_, rfl, day, rfl, h0, h1, ?_⟩
    obtain ⟨p, hp⟩ := d_some hl
    have hday := hB.day hp
    refine ⟨_, rfl, _, _, _, _, _, rfl, (hB).ins, T.clB, T.nB_days_here, rfl, _, rfl, _, _, rfl, hB.gDs hp, p, rfl, ⟨_, SqL.of hday⟩, fun D hD => ?_⟩
    refine lcL l [] V.int V.int (fun x => decide (x ≤ day)) hD (l60 hlen) (SqL.of hday) (fun x H2 R hx k2 kt kf => ⟨rfl, ?_⟩) (fun H2 k2 h2 => ?_)
    · refine ⟨_, rfl, _, rfl, _, _, rfl, rfl, _, rfl, ?_⟩
      exact iteB (fun h => ⟨_, rfl, kt _ h .refl⟩) (fun h => kf _ h .refl)
    · refine ⟨D, _, _, rfl, rfl, SqL.of h2, fun e => ?_, fun x r e => ?_⟩
      · have q : optV (lastDay l day) = .non := by
          unfold lastDay
          rw [e]
          rfl
        exact q ▸ k _ k2
      · have q : optV (lastDay l day) = .int (r.foldl max x) := by
          unfold lastDay
          rw [e]
          rfl
        exact q ▸ k _ k2
theorem ok_B_rests (T : Txt K mg A) : FnOk P w K mg base CX0 4 A.a_B_rests A.d_B_rests P_B_rests (sp_B_rests A) := by
  have nd := sc_B_rests.nd
  refine T.F_B_rests.ok sc_B_rests (fun vs H Q E h => ?_) (fun cdv Ar outer s H vs Q E hr h => ?_)
  · obtain ⟨B, m, n, day, rest, l, rfl, _⟩ := h
    rfl
  · obtain ⟨B, m, n, day, rest, l, rfl, hB, hn, hl, h0, h1, hlen, k⟩ := h
    have hu := hu_of hr
    obtain ⟨its_B_last_day_2_day, hk_B_last_day_2_day⟩ := T.bk_B_last_day_2_day
    refine ⟨_, (pss_cons (ps_set (i := 4) nd rfl (Or.inl rfl) (pe_methN (pv 0) T.clB T.M_B_last_day (ok_B_last_day T) (hr.mono (by decide)) hk_B_last_day_2_day pass0 (pa_cons (pv 1) pa_nil) (pk_cons (pv 2) pk_nil)))
      (pss_one (ps_ret (pe_and (pe_cmpR op_notN (pv 4) (pe_non) (nomark _)) (pe_one (pe_cmpR op_lt (pe_op op_sub (pv 2) (pv 4)) (pv 3) (nomark _))))))), ?_⟩
    refine ⟨_, rfl, _, _, _, rfl, (hB).ins, rfl, _, rfl, _, rfl, rfl, rfl, B, m, n, day, l, rfl, hB, hn, hl, h0, h1, hlen, fun H1 k1 => ?_⟩
    refine ⟨_, rfl, rfl, _, rfl, ?_⟩
    cases e : lastDay l day with
    | none =>
      refine iteN rfl ?_
      have q : restsB l day rest = false := by
        unfold restsB
        rw [e]
      exact qb (k _ k1) q.symm
    | some z =>
      refine iteP rfl ?_
      refine ⟨_, rfl, _, rfl, day, z, rfl, rfl, _, rfl, _, _, rfl, rfl, ?_⟩
      have q : restsB l day rest = decide (day - z < rest) := by
        unfold restsB
        rw [e]
      exact qb (k _ k1) q.symm
theorem ok_B_len (T : Txt K mg A) : FnOk P w K mg base CX0 3 A.a_B_len A.d_B_len P_B_len (sp_B_len A) := by
  have nd := sc_B_len.nd
  refine T.F_B_len.ok sc_B_len (fun vs H Q E h => ?_) (fun cdv Ar outer s H vs Q E hr h => ?_)
  · obtain ⟨B, m, rfl, _⟩ := h
    rfl
  · obtain ⟨B, m, rfl, hB, ok, k⟩ := h
    have hu := hu_of hr
    refine ⟨_, (pss_one (ps_ret (pe_callB call_len_seq (by rfl) T.m_len PySem.boot_len (pa_cons (pe_meth0 (pv 0) T.clB T.M_B_names_in (ok_B_names_in T) (hr.mono (by decide)) T.b_B_names_in .nil pass0) pa_nil)))), ?_⟩
    refine ⟨_, rfl, _, _, _, rfl, (hB).ins, rfl, B, m, rfl, hB, ok, fun H1 p1 k1 hp1 hl1 => ?_⟩
    refine ⟨p1, _, rfl, .inl (SqL.of hl1), ?_⟩
    rw [List.length_map]
    exact k _ k1
end
end KB
/-! part KW5 -/
namespace KB
open PySem L2
section
variable {P : Program} {w : World} {K : PySem.W.Frag} {mg : Str → Option Value} {base : Heap} {A : Ads}
theorem in_names {m : Bk} {n : Str} (h : n ∈ m.namesIn) : n ∈ keys m.kept := (mem_namesIn.mp h).1
theorem Bk.Ok.dsome {m : Bk} (ok : m.Ok) {n : Str} (h : n ∈ keys m.kept) : ∃ l, m.d n = some l := by
  have := d_isSome.mpr ((ok.same n).mpr h)
  cases e : m.d n with
  | none => rw [e] at this; cases this
  | some l => exact ⟨l, rfl⟩
theorem Bk.Ok.qsome {m : Bk} (ok : m.Ok) {n : Str} (h : n ∈ keys m.kept) : ∃ d, m.q n = some d := by
  have := q_isSome.mpr h
  cases e : m.q n with
  | none => rw [e] at this; cases this
  | some l => exact ⟨l, rfl⟩
theorem days_len {l : List Int} (h : l.Pairwise (· < ·)) (b : ∀ x ∈ l, 0 ≤ x ∧ x < 14) : l.length ≤ 14 := by
  have key : ∀ (l : List Int) (lo : Int), l.Pairwise (· < ·) → (∀ x ∈ l, lo ≤ x ∧ x < 14) → lo ≤ 14 → (l.length : Int) ≤ 14 - lo := by
    intro l
    induction l with
    | nil =>
      intro lo _ _ h
      show (0 : Int) ≤ _
      omega
    | cons x r ih =>
      intro lo p b h
      have p := List.pairwise_cons.mp p
      have bx := b x (List.mem_cons_self ..)
      have := ih (x + 1) p.2 (fun y hy => ⟨by have := p.1 y hy; omega, (b y (List.mem_cons_of_mem _ hy)).2⟩) (by omega)
      rw [List.length_cons]
      omega
  have := key l 0 h b (by omega)
  omega
theorem Bk.Ok.dlen {m : Bk} (ok : m.Ok) {n : Str} {l : List Int} (h : m.d n = some l) : l.length < 60 := by
  have := days_len (ok.ds n l h).1 (ok.ds n l h).2
  omega
theorem Bk.Ok.daysLen {m : Bk} (ok : m.Ok) : m.days.length ≤ 8 := by
  have := nodup_subset_length ok.kd (fun x hx => (ok.same x).mp hx)
  have h2 : (keys m.kept).length = m.kept.length := List.length_map ..
  have h3 : (keys m.days).length = m.days.length := List.length_map ..
  have := ok.len
  omega
theorem Bk.Ok.outLen {m : Bk} (ok : m.Ok) : m.out.length ≤ 8 := by
  have := nodup_subset_length ok.kout (fun x hx => ok.sub x hx)
  have h2 : (keys m.kept).length = m.kept.length := List.length_map ..
  have h3 : (keys m.out).length = m.out.length := List.length_map ..
  have := ok.len
  omega
/-- whether a name is found -/
def Bk.fP (m : Bk) (matter : Str) (least most : Int) (kin : Str) (day : Option Int) (rest : Int) (n : Str) : Bool := (match m.q n with
  | none => false
  | some q => asked matter least most kin q) && (match day with
  | none => true
  | some dy => !restsB ((m.d n).getD []) dy rest)
theorem foundL_eq (m : Bk) (matter : Str) (least most : Int) (kin : Str) (day : Option Int) (rest : Int) : m.foundL matter least most kin day rest = m.namesIn.filter (m.fP matter least most kin day rest) := rfl
def dayOk (l : List Int) (rest : Int) : Option Int → Bool
  | none => true
  | some y => !restsB l y rest
theorem flat2 (x y : Str) : [V.str x, V.str y].all flatV = true := rfl
theorem in2 (z x : Str) : inV (.str z) [.str "", .str x] = (decide (z = "") || decide (z = x)) := by
  have e : inV (.str z) [.str "", .str x] = decide (z ∈ [("" : Str), x]) := inV_str z ["", x]
  rw [e, Bool.eq_iff_iff]
  simp
theorem ok_resting (T : Txt K mg A) : FnOk P w K mg base CX0 5 A.a_resting A.d_resting P_resting (sp_resting A) := by
  have nd := sc_resting.nd
  refine T.F_resting.ok sc_resting (fun vs H Q E h => ?_) (fun cdv Ar outer s H vs Q E hr h => ?_)
  · obtain ⟨B, m, day, rest, rfl, _⟩ := h
    rfl
  · obtain ⟨B, m, day, rest, rfl, hB, ok, h0, h1, r0, r1, k⟩ := h
    have hu := hu_of hr
    obtain ⟨ds_is_whole1, hv_is_whole1, hb_is_whole1⟩ := T.bd_is_whole1
    refine ⟨_, (pss_cons (ps_expr (pe_call (ok_need_bank T) (hr.mono (by decide)) rfl T.m_need_bank T.F_need_bank.kp T.b_need_bank .nil pass0 (pa_cons (pv 0) pa_nil)))
      (pss_cons (ps_expr (pe_call (ok_need_day T) (hr.mono (by decide)) rfl T.m_need_day T.F_need_day.kp T.b_need_day .nil pass0 (pa_cons (pv 1) pa_nil)))
      (pss_cons (ps_if (pt_not (pt_val (pe_call (ok_is_whole T) (hr.mono (by decide)) rfl T.m_is_whole T.F_is_whole.kp hb_is_whole1 hv_is_whole1 pass0 (pa_cons (pv 2) pa_nil))))
        (pss_one ps_never)
        pss_nil)
      (pss_one (ps_ret (pe_lc (own := [("name", 3)]) (g := gName 3) rfl nd (pi_list (pe_meth0 (pv 0) T.clB T.M_B_names_in (ok_B_names_in T) (hr.mono (by decide)) T.b_B_names_in .nil pass0)) (blkOk_by (N := N_resting) (sc := defScope s_resting) (by decide +kernel)) (fun _ _ _ _ _ => (pg_name (i := 3) nd rfl (Or.inl rfl))) (fun _ _ _ _ _ => pts_one (pt_val (pe_meth (pv 0) T.clB T.M_B_rests (ok_B_rests T) (hr.mono (by decide)) T.b_B_rests .nil pass0 (pa_cons (pv 3) (pa_cons (pv 1) (pa_cons (pv 2) pa_nil)))))) (fun _ _ _ _ _ => (pv 3)))))))), ?_⟩
    refine ⟨_, rfl, B, m, rfl, hB, ?_⟩
    refine ⟨_, rfl, day, rfl, h0, h1, ?_⟩
    refine ⟨_, rfl, rest, 0, 9999, rfl, r0, r1, _, rfl, iteF ?_⟩
    refine ⟨_, rfl, _, _, _, rfl, (hB).ins, rfl, B, m, rfl, hB, ok, fun H1 p1 k1 hp1 hl1 => ?_⟩
    refine ⟨p1, rfl, ⟨_, SqL.of hl1⟩, fun D hD => ?_⟩
    have hB1 := hB.keep0 k1
    refine lcL m.namesIn [] V.str V.str (fun n => restsB ((m.d n).getD []) day rest) hD (line9 (namesInLen ok)) (SqL.of hl1) (fun n H2 R hn k2 kt kf => ⟨rfl, ?_⟩) (fun H2 k2 h2 => ?_)
    · have hB2 := hB1.keep0 k2
      obtain ⟨l, hl⟩ := ok.dsome (in_names hn)
      refine ⟨_, rfl, _, _, _, rfl, (hB2).ins, rfl, _, rfl, _, rfl, _, rfl, B, m, n, day, rest, l, rfl, hB2, in_names hn, hl, h0, h1, ok.dlen hl, fun H3 k3 => ?_⟩
      have e : (m.d n).getD [] = l := by rw [hl]; rfl
      rw [e] at kt kf
      refine ⟨_, rfl, iteB (fun h => ⟨_, rfl, kt _ h k3⟩) (fun h => kf _ h k3)⟩
    · exact k _ D (k1.trans k2) (k1.back _ hD) h2
theorem ok_B_found (T : Txt K mg A) : FnOk P w K mg base CX0 5 A.a_B_found A.d_B_found P_B_found (sp_B_found A) := by
  have nd := sc_B_found.nd
  refine T.F_B_found.ok sc_B_found (fun vs H Q E h => ?_) (fun cdv Ar outer s H vs Q E hr h => ?_)
  · obtain ⟨B, m, matter, least, most, kin, dy, rest, rfl, _⟩ := h
    rfl
  · obtain ⟨B, m, matter, least, most, kin, dy, rest, rfl, hB, ok, hdy, k⟩ := h
    have hu := hu_of hr
    refine ⟨_, PSs.nox (pss_cons (ps_set (i := 7) nd rfl (Or.inl rfl) (pe_lst pa_nil))
      (pss_cons (ps_for PassesOwn.never rfl (pi_list (pe_meth0 (pv 0) T.clB T.M_B_names_in (ok_B_names_in T) (hr.mono (by decide)) T.b_B_names_in .nil pass0)) (pg_name (i := 8) nd rfl (Or.inl rfl))
        (pss_cons (ps_set (i := 9) nd rfl (Or.inl rfl) (pe_dget hu (pe_fld (pv 0) rfl) (pv 8) (fun _ _ => rfl)))
          (pss_cons (ps_set (i := 10) nd rfl (Or.inl rfl) (pe_and (pe_cmpR op_in_seq (pv 1) (pe_tup (pa_cons (pe_str) (pa_cons (pe_fld (pv 9) rfl) pa_nil))) rfl) (pe_and (pe_cmpR op_in_seq (pv 4) (pe_tup (pa_cons (pe_str) (pa_cons (pe_fld (pv 9) rfl) pa_nil))) rfl) (pe_one (pe_chain op_le op_le (pv 2) (pe_fld (pv 9) rfl) (pv 3))))))
          (pss_one (ps_if (PW.pt (pw_and (pt_val (pv 10)) (pw_and1 (PW.pt (pw_or (pt_cmpR op_isN (pv 5) (pe_non) (nomark _)) (pw_or1 (pt_not (pt_val (pe_meth (pv 0) T.clB T.M_B_rests (ok_B_rests T) (hr.mono (by decide)) T.b_B_rests .nil pass0 (pa_cons (pv 8) (pa_cons (pv 5) (pa_cons (pv 6) pa_nil))))))))))))
            (pss_one (ps_expr (pe_bm PySem.F.plainAttrs_list PySem.F.slot_list_append PySem.F.type_list_append mt_append (pv 7) (pa_cons (pv 8) pa_nil))))
            pss_nil)))))
      (pss_one (ps_ret (pv 7))))), ?_⟩
    refine ⟨by decide, fun tp htp => ?_⟩
    have hB1 := hB.keep0 (.new htp (o := .lst []))
    refine ⟨_, rfl, _, _, _, rfl, (hB1).ins, rfl, B, m, rfl, hB1, ok, fun H1 p1 k1 hp1 hl1 => ?_⟩
    refine ⟨p1, rfl, ⟨_, SqL.of hl1⟩, ?_⟩
    have k01 : Kd [] H H1 := (Kd.new htp).trans k1
    refine forL m.namesIn V.str (fun i σ H' => (∃ x8 x9 x10 : Option V, σ = [some (.ref B.b), some (.str matter), some (.int least), some (.int most), some (.str kin), some (optV dy), some (.int rest), some (.ref tp), x8, x9, x10]) ∧ Kd [] H H' ∧ H' p1 = some (.lst (m.namesIn.map V.str)) ∧ H' tp = some (.lst (((m.namesIn.take i).filter (m.fP matter least most kin dy rest)).map V.str)))
      ⟨⟨none, none, none, rfl⟩, k01, hl1, k1.lst upd_same⟩ (fun i σ H' h => SqL.of h.2.2.1) ?_ ?_
    · rintro i n σ H2 hi ⟨⟨x8, x9, x10, rfl⟩, k2, hl2, ht2⟩
      have hn := List.mem_of_getElem? hi
      have hB2 := hB.keep0 k2
      obtain ⟨d, hd⟩ := ok.qsome (in_names hn)
      obtain ⟨p, hp⟩ := q_some hd
      obtain ⟨l, hl⟩ := ok.dsome (in_names hn)
      have hq2 := hB2.q hp
      obtain ⟨dx, t, hi2, hta⟩ := id hq2
      refine ⟨_, rfl, _, _, _, _, _, rfl, (hB2).ins, T.clB, T.nB_kept_here, rfl, _, rfl, _, _, rfl, hB2.gKs hp, ?_⟩
      dsimp only [gName, tSeq, tAsg]
      refine evk_and (b := decide (matter = "") || decide (matter = d.matter)) (c := (decide (kin = "") || decide (kin = d.kin)) && (decide (least ≤ d.toil) && decide (d.toil ≤ most))) (fun Q0 q0 => ?_) (fun _ H3 k3 => evk_and (fun Q0 q0 => ?_) (fun _ H4 k4 Q0 q0 => ?_)) _ (fun H5 k5 => ?_)
      · refine ⟨_, rfl, _, rfl, _, _, _, _, _, rfl, hi2, T.clQ, T.nQ_matter, rfl, (by show 2 ≤ sizeLine; decide), fun q hq => ⟨q, [.str "", .str d.matter], rfl, .inr (.inl (.inl upd_same)), rfl, flat2 _ _, ?_⟩⟩
        refine qb (q0 _ (.new hq)) ?_
        exact in2 _ _
      · have hi3 := k3.ins hi2
        refine ⟨_, rfl, _, rfl, _, _, _, _, _, rfl, hi3, T.clQ, T.nQ_kin, rfl, (by show 2 ≤ sizeLine; decide), fun q hq => ⟨q, [.str "", .str d.kin], rfl, .inr (.inl (.inl upd_same)), rfl, flat2 _ _, ?_⟩⟩
        refine qb (q0 _ (.new hq)) ?_
        exact in2 _ _
      · have hi4 := k4.ins (k3.ins hi2)
        refine ⟨_, rfl, _, rfl, _, _, _, _, _, rfl, hi4, T.clQ, T.nQ_toil, rfl, _, _, rfl, rfl, _, rfl, iteB (fun e => ⟨_, rfl, _, _, rfl, rfl, ?_⟩) (fun e => ?_)⟩
        · exact qb (q0 _ .refl) (by rw [e, Bool.true_and])
        · exact qb (q0 _ .refl) (by rw [e, Bool.false_and])
      · dsimp only [tIfS]
        have k5' : Kd [] H H5 := k2.trans k5
        have hB5 := hB.keep0 k5'
        have hg : (m.d n).getD [] = l := by rw [hl]; rfl
        refine trk_and (b := (decide (matter = "") || decide (matter = d.matter)) && ((decide (kin = "") || decide (kin = d.kin)) && (decide (least ≤ d.toil) && decide (d.toil ≤ most)))) (c := dayOk l rest dy) (fun Q0 q0 => ⟨_, rfl, _, rfl, q0 _ .refl⟩) (fun _ H6 k6 => ?_) _ (fun H6 k6 => ?_)
        · have hB6 := hB5.keep0 k6
          cases dy with
          | none => exact trk_or (b := true) (c := true) (fun Q0 q0 => ⟨_, rfl, rfl, _, rfl, q0 _ .refl⟩) (fun z => nomatch z)
          | some y =>
            refine trk_or (b := false) (fun Q0 q0 => ⟨_, rfl, rfl, _, rfl, q0 _ .refl⟩) (fun _ H7 k7 Q0 q0 => ?_)
            have hB7 := hB6.keep0 k7
            refine ⟨_, rfl, _, _, _, rfl, (hB7).ins, rfl, _, rfl, _, rfl, _, rfl, B, m, n, y, rest, l, rfl, hB7, in_names hn, hl, (hdy y rfl).1, (hdy y rfl).2, ok.dlen hl, fun H8 k8 => ⟨_, rfl, q0 _ k8⟩⟩
        · have e : m.fP matter least most kin dy rest n = (((decide (matter = "") || decide (matter = d.matter)) && ((decide (kin = "") || decide (kin = d.kin)) && (decide (least ≤ d.toil) && decide (d.toil ≤ most)))) && dayOk l rest dy) := by
            unfold Bk.fP asked
            rw [hd, hg]
            cases dy <;> simp only [Bool.and_assoc, dayOk]
          have k6' := k5'.trans k6
          have h6 : H6 tp = some (.lst (((m.namesIn.take i).filter (m.fP matter least most kin dy rest)).map V.str)) := (k5.trans k6).lst ht2
          rw [← e]
          have step : (m.namesIn.take (i + 1)).filter (m.fP matter least most kin dy rest) = (m.namesIn.take i).filter (m.fP matter least most kin dy rest) ++ (if m.fP matter least most kin dy rest n = true then [n] else []) := by
            rw [List.take_add_one, hi, List.filter_append]
            congr 1
            by_cases h : m.fP matter least most kin dy rest n = true <;> simp [h]
          refine iteB (fun h => ?_) (fun h => ?_)
          · have ne : p1 ≠ tp := (ne_of_none upd_same hp1).symm
            refine ⟨_, rfl, .inl ⟨rfl, _, SqL.of h6⟩, _, rfl, tp, _, _, rfl, rfl, h6, ?_, ⟨_, _, _, rfl⟩, k6'.mut htp, ?_, ?_⟩
            · rw [List.length_map]
              have h1 := List.length_filter_le (m.fP matter least most kin dy rest) (m.namesIn.take i)
              have h2 := List.length_take_le' i m.namesIn
              have h3 := namesInLen ok
              exact line9 (by omega)
            · rw [upd_ne ne]
              exact (k5.trans k6).lst hl2
            · rw [upd_same, step, if_pos h, List.map_append]
              rfl
          · refine ⟨⟨_, _, _, rfl⟩, k6', (k5.trans k6).lst hl2, ?_⟩
            rw [step, if_neg (by rw [h]; exact Bool.false_ne_true), List.append_nil]
            exact h6
    · rintro σ H2 ⟨⟨x8, x9, x10, rfl⟩, k2, hl2, ht2⟩
      rw [List.take_length] at ht2
      exact ⟨_, rfl, k _ tp k2 htp ht2⟩
end
end KB
/-! part KM7 -/
/-! A bank under other names tells the same. -/
namespace KB
open PySem L2 PyProof PyProof.Rows
/-! what repr asks -/
theorem showable_kv : ∀ kvs : List (Str × Int), (∀ p, p ∈ kvs → NameOk p.1 ∧ 0 ≤ p.2 ∧ p.2 ≤ 8) → PyData.showableKv (kvs.map fun p => (.str p.1, .int p.2)) = true
  | [], _ => rfl
  | p :: r, h => by
    have h1 := (h p (List.mem_cons_self ..)).2
    show (PyData.showable (.str p.1) && PyData.showable (.int p.2) && PyData.showableKv (r.map fun p => (.str p.1, .int p.2))) = true
    rw [showable_kv r fun q hq => h q (List.mem_cons_of_mem _ hq)]
    have h2 : p.2.natAbs.log2 ≤ p.2.natAbs := Nat.log2_le_self _
    have e : PyData.showable (.int p.2) = true := decide_eq_true (by omega)
    rw [e]
    rfl
theorem depth_kv : ∀ kvs : List (Str × Int), PyData.depthKv (kvs.map fun p => (.str p.1, .int p.2)) = 0
  | [] => rfl
  | p :: r => by
    show max (max (PyData.depth (.str p.1)) (PyData.depth (.int p.2))) (PyData.depthKv (r.map fun p => (.str p.1, .int p.2))) = 0
    rw [depth_kv r]
    rfl
theorem shown_kv : ∀ kvs : List (Str × Int), (∀ p, p ∈ kvs → NameOk p.1 ∧ 0 ≤ p.2 ∧ p.2 ≤ 8) → (PyData.shownKv (kvs.map fun p => (.str p.1, .int p.2))).length = kvs.length ∧ ((PyData.shownKv (kvs.map fun p => (.str p.1, .int p.2))).map (·.length)).sum ≤ 94 * kvs.length
  | [], _ => ⟨rfl, Nat.le_refl _⟩
  | p :: r, h => by
    obtain ⟨h0, h1, h2⟩ := h p (List.mem_cons_self ..)
    obtain ⟨i1, i2⟩ := shown_kv r fun q hq => h q (List.mem_cons_of_mem _ hq)
    have e : PyData.shownKv ((p :: r).map fun p => (.str p.1, .int p.2)) = (reprText p.1 ++ ": " ++ Str.ofString (toString p.2)) :: PyData.shownKv (r.map fun p => (.str p.1, .int p.2)) := rfl
    rw [e, List.length_cons, List.map_cons, List.sum_cons, i1]
    refine ⟨rfl, ?_⟩
    have l1 := StrLaws.reprText_len p.1 fun c hc => Nat.lt_of_lt_of_le (letters_small c (h0.2.2 c hc)) (by decide)
    have l2 := len_str_of_int p.2
    have l3 : (Str.ofString ": ").length = 2 := by decide +kernel
    have l4 := h0.2.1
    rw [Str.length_append, Str.length_append, l3, List.length_cons]
    omega
theorem show_ok {kvs : List (Str × Int)} (h : ∀ p, p ∈ kvs → NameOk p.1 ∧ 0 ≤ p.2 ∧ p.2 ≤ 8) (hl : kvs.length ≤ 8) : (showD kvs).showable = true ∧ (showD kvs).depth ≤ 5 ∧ (showD kvs).shown.length ≤ sizeLine := by
  refine ⟨showable_kv kvs h, ?_, ?_⟩
  · show PyData.depthKv (kvs.map fun p => (.str p.1, .int p.2)) + 1 ≤ 5
    rw [depth_kv]
    decide
  · obtain ⟨h1, h2⟩ := shown_kv kvs h
    have h3 := dictText_len_le (PyData.shownKv (kvs.map fun p => (.str p.1, .int p.2)))
    show (dictText (PyData.shownKv (kvs.map fun p => (.str p.1, .int p.2)))).length ≤ _
    have : 1000 < sizeLine := by decide
    omega
theorem counts_ok {m : Bk} (ok : m.Ok) : ∀ p, p ∈ countsOf m.mattersL → NameOk p.1 ∧ 0 ≤ p.2 ∧ p.2 ≤ 8 := by
  intro p hp
  obtain ⟨x, hx, rfl⟩ := List.mem_map.mp hp
  have h1 := hx
  rw [mem_srt, mem_uniq, mattersL_eq] at h1
  obtain ⟨n, hn, rfl⟩ := List.mem_map.mp h1
  obtain ⟨q, hq, okq⟩ := qget ok hn
  refine ⟨?_, by show (0 : Int) ≤ ((_ : Nat) : Int); omega, ?_⟩
  · show NameOk (m.matterOf n)
    unfold Bk.matterOf
    rw [hq]
    exact okq.matter
  · show ((m.mattersL.count (m.matterOf n) : Nat) : Int) ≤ 8
    have h2 : m.mattersL.count (m.matterOf n) ≤ m.mattersL.length := List.count_le_length
    have h3 : m.mattersL.length = m.namesIn.length := List.length_map ..
    have h4 : m.namesIn.length ≤ m.names.length := List.length_filter_le _ _
    have h5 : m.names.length ≤ 8 := by rw [names_len]; exact ok.len
    omega
/-! names in the same order -/
section
variable {m m2 : Bk} {f : Str → Str}
theorem Called.keys (h : Called m f m2) {x : Str} : x ∈ keys m2.kept ↔ ∃ n, n ∈ KB.keys m.kept ∧ f n = x := by
  constructor
  · intro hx
    by_cases e : ∃ n, n ∈ KB.keys m.kept ∧ f n = x
    · exact e
    · have := (h.no x fun n hn z => e ⟨n, hn, z⟩).1
      have h2 := q_isSome.mpr hx
      rw [this] at h2
      cases h2
  · rintro ⟨n, hn, rfl⟩
    refine q_isSome.mp ?_
    rw [h.q n hn, Option.isSome_map]
    exact q_isSome.mpr hn
theorem Called.names (h : Called m f m2) (hs : SS (m.names.map f)) : m2.names = m.names.map f := by
  refine SS_unique (names_SS h.ok) hs fun x => ?_
  rw [mem_names, h.keys, List.mem_map]
  constructor
  · rintro ⟨n, hn, e⟩
    exact ⟨n, mem_names.mpr hn, e⟩
  · rintro ⟨n, hn, e⟩
    exact ⟨n, mem_names.mp hn, e⟩
theorem Called.namesIn (h : Called m f m2) (hs : SS (m.names.map f)) : m2.namesIn = m.namesIn.map f := by
  have e : m2.namesIn = m2.names.filter fun n => (m2.r n).isNone := rfl
  have e2 : m.namesIn = m.names.filter fun n => (m.r n).isNone := rfl
  rw [e, h.names hs, List.filter_map, e2]
  congr 1
  refine filter_cg fun n hn => ?_
  show (m2.r (f n)).isNone = _
  rw [h.r n (mem_names.mp hn)]
theorem Called.fP (h : Called m f m2) (a : Str) (b c : Int) (d : Str) (e : Option Int) (r : Int) {n : Str} (hn : n ∈ KB.keys m.kept) : m2.fP a b c d e r (f n) = m.fP a b c d e r n := by
  unfold Bk.fP
  rw [h.q n hn, h.d n hn]
  cases m.q n <;> rfl
theorem Called.found (h : Called m f m2) (hs : SS (m.names.map f)) (a : Str) (b c : Int) (d : Str) (e : Option Int) (r : Int) : m2.foundL a b c d e r = (m.foundL a b c d e r).map f := by
  rw [foundL_eq, foundL_eq, h.namesIn hs, List.filter_map]
  congr 1
  exact filter_cg fun n hn => h.fP a b c d e r (mem_namesIn.mp hn).1
theorem Called.resting (h : Called m f m2) (hs : SS (m.names.map f)) (w span : Int) : (m2.namesIn.filter fun n => restsB ((m2.d n).getD []) w span) = (m.namesIn.filter fun n => restsB ((m.d n).getD []) w span).map f := by
  rw [h.namesIn hs, List.filter_map]
  congr 1
  refine filter_cg fun n hn => ?_
  show restsB ((m2.d (f n)).getD []) w span = _
  rw [h.d n (mem_namesIn.mp hn).1]
theorem Called.outs (h : Called m f m2) (ok : m.Ok) (hs : SS (m.names.map f)) : m2.outsL = m.outsL.map fun p => (f p.1, p.2) := by
  have hsub : (srt (KB.keys m.out)).map f = m2.names.filter fun n => (m2.r n).isSome := by
    have e : srt (KB.keys m.out) = m.names.filter fun n => (m.r n).isSome := by
      refine SS_unique (srt_SS ok.kout) (SS_filter _ (names_SS ok)) fun x => ?_
      rw [mem_srt, List.mem_filter, mem_names, r_isSome]
      exact ⟨fun hx => ⟨ok.sub x hx, hx⟩, fun hx => hx.2⟩
    rw [e, h.names hs, List.filter_map]
    congr 1
    refine filter_cg fun n hn => ?_
    show _ = (m2.r (f n)).isSome
    rw [h.r n (mem_names.mp hn)]
  have e2 : srt (KB.keys m2.out) = (srt (KB.keys m.out)).map f := by
    rw [hsub]
    refine SS_unique (srt_SS h.ok.kout) (SS_filter _ (names_SS h.ok)) fun x => ?_
    rw [mem_srt, List.mem_filter, mem_names, r_isSome]
    exact ⟨fun hx => ⟨h.ok.sub x hx, hx⟩, fun hx => hx.2⟩
  unfold Bk.outsL
  rw [e2, List.map_map, List.map_map]
  apply List.map_congr_left
  intro n hn
  show (f n, (m2.r (f n)).getD Str.empty) = (f n, (m.r n).getD Str.empty)
  rw [h.r n (ok.sub n (mem_srt.mp hn))]
theorem Called.matters (h : Called m f m2) (hs : SS (m.names.map f)) : m2.mattersL = m.mattersL := by
  rw [mattersL_eq, mattersL_eq, h.namesIn hs, List.map_map]
  apply List.map_congr_left
  intro n hn
  show m2.matterOf (f n) = m.matterOf n
  unfold Bk.matterOf
  rw [h.q n (mem_namesIn.mp hn).1]
  cases m.q n <;> rfl
theorem Called.back {m3 : Bk} {g : Str → Str} (h : Called m f m2) (h2 : Called m2 g m3) (ok : m.Ok) (hg : ∀ n, n ∈ KB.keys m.kept → g (f n) = n) : Same m3 m := by
  have hk : ∀ n, n ∈ KB.keys m.kept → f n ∈ KB.keys m2.kept := fun n hn => h.keys.mpr ⟨n, hn, rfl⟩
  have hq : ∀ n, n ∈ KB.keys m.kept → m3.q n = m.q n := fun n hn => by
    have e := h2.q (f n) (hk n hn)
    rw [hg n hn, h.q n hn] at e
    rw [e]
    cases hd : m.q n with
    | none => rfl
    | some d =>
      have e3 := (ok.nm n d hd).1
      show some ({ (({ d with name := f n } : Qn)) with name := n } : Qn) = some d
      rw [← e3]
  have hno : ∀ n, n ∉ KB.keys m.kept → m3.q n = none ∧ m3.r n = none ∧ m3.d n = none := fun n hn => h2.no n fun x hx e => by
    obtain ⟨k, hk, rfl⟩ := h.keys.mp hx
    rw [hg k hk] at e
    exact hn (e ▸ hk)
  have hmno : ∀ n, n ∉ KB.keys m.kept → m.q n = none ∧ m.r n = none ∧ m.d n = none := fun n hn => by
    refine ⟨?_, ?_, ?_⟩
    · cases e : m.q n with
      | none => rfl
      | some d => exact absurd (q_isSome.mp (by rw [e]; rfl)) hn
    · cases e : m.r n with
      | none => rfl
      | some d => exact absurd (ok.sub n (r_isSome.mp (by rw [e]; rfl))) hn
    · cases e : m.d n with
      | none => rfl
      | some d => exact absurd ((ok.same n).mp (d_isSome.mp (by rw [e]; rfl))) hn
  refine ⟨fun n => ?_, fun n => ?_, fun n => ?_⟩
  · by_cases hn : n ∈ KB.keys m.kept
    · exact hq n hn
    · rw [(hno n hn).1, (hmno n hn).1]
  · by_cases hn : n ∈ KB.keys m.kept
    · have e := h2.r (f n) (hk n hn)
      rw [hg n hn, h.r n hn] at e
      exact e
    · rw [(hno n hn).2.1, (hmno n hn).2.1]
  · by_cases hn : n ∈ KB.keys m.kept
    · have e := h2.d (f n) (hk n hn)
      rw [hg n hn, h.d n hn] at e
      exact e
    · rw [(hno n hn).2.2, (hmno n hn).2.2]
end
/-! the words -/
def wordsL : List Str := ["all", "bank", "in", "kin", "many", "marks", "none", "out", "rest", "toil", "used", "with", "wrong"]
theorem wordsL_ok : ∀ z, z ∈ wordsL → NameOk z := by decide +kernel
theorem wordsL_SS : SS wordsL := SS_of_sorted (by decide +kernel) (by decide +kernel)
/-- the calls -/
def callsOf (ns : List Str) (j : Nat) : List (Str × Str) := ns.zip (wordsL.drop j)
def fOf (ns : List Str) (j : Nat) (n : Str) : Str := (aget (callsOf ns j) n).getD Str.empty
section
variable {ns : List Str} {j : Nat}
theorem calls_keys (hn : ns.length ≤ 8) (hj : j ≤ 2) : keys (callsOf ns j) = ns := by
  unfold keys callsOf
  refine List.map_fst_zip ?_
  rw [List.length_drop]
  show _ ≤ 13 - j
  omega
theorem calls_snd (hn : ns.length ≤ 8) (hj : j ≤ 2) (nd : ns.Nodup) : ns.map (fOf ns j) = (callsOf ns j).map (·.2) := by
  have e : ns.map (fOf ns j) = (keys (callsOf ns j)).map (fOf ns j) := by rw [calls_keys hn hj]
  rw [e]
  unfold keys
  rw [List.map_map]
  apply List.map_congr_left
  intro p hp
  show fOf ns j p.1 = p.2
  unfold fOf
  rw [aget_of_mem (by rw [calls_keys hn hj]; exact nd) (show (p.1, p.2) ∈ callsOf ns j from hp)]
  rfl
theorem calls_get (hn : ns.length ≤ 8) (hj : j ≤ 2) {n : Str} (h : n ∈ ns) : aget (callsOf ns j) n = some (fOf ns j n) := by
  have h1 : n ∈ keys (callsOf ns j) := by rw [calls_keys hn hj]; exact h
  have := aget_isSome.mpr h1
  unfold fOf
  cases e : aget (callsOf ns j) n with
  | none => rw [e] at this; cases this
  | some z => rfl
theorem calls_SS (hn : ns.length ≤ 8) (hj : j ≤ 2) (nd : ns.Nodup) : SS (ns.map (fOf ns j)) := by
  rw [calls_snd hn hj nd]
  have e : (callsOf ns j).map (·.2) = (wordsL.drop j).take ns.length := by
    unfold callsOf
    generalize wordsL.drop j = k
    induction ns generalizing k with
    | nil => simp
    | cons x r ih =>
      cases k with
      | nil => rfl
      | cons y k =>
        show y :: ((r.zip k).map (·.2)) = y :: k.take r.length
        have hr : r.length ≤ 8 := by simp at hn; omega
        rw [ih hr (List.nodup_cons.mp nd).2]
  rw [e]
  exact wordsL_SS.sublist ((List.take_sublist _ _).trans (List.drop_sublist _ _))
theorem calls_ok (hn : ns.length ≤ 8) (hj : j ≤ 2) {n : Str} (h : n ∈ ns) : NameOk (fOf ns j n) := by
  have h1 := aget_some_mem (calls_get hn hj h)
  exact wordsL_ok _ (List.mem_of_mem_drop (List.of_mem_zip h1).2)
theorem calls_inj (hn : ns.length ≤ 8) (hj : j ≤ 2) (nd : ns.Nodup) {n k : Str} (h : n ∈ ns) (hk : k ∈ ns) (e : fOf ns j n = fOf ns j k) : n = k := by
  have h1 := (calls_SS hn hj nd).nodup
  obtain ⟨a, ha, e1⟩ := List.mem_iff_getElem.mp h
  obtain ⟨b, hb, e2⟩ := List.mem_iff_getElem.mp hk
  have g1 : (ns.map (fOf ns j))[a]? = some (fOf ns j n) := by rw [List.getElem?_map, List.getElem?_eq_getElem ha, e1]; rfl
  have g2 : (ns.map (fOf ns j))[b]? = some (fOf ns j n) := by rw [List.getElem?_map, List.getElem?_eq_getElem hb, e2, e]; rfl
  have := (List.getElem?_inj (by rw [List.length_map]; exact ha) h1).mp (g1.trans g2.symm)
  subst this
  rw [← e1, ← e2]
/-- the calls back -/
def backOf (ns : List Str) (j : Nat) : List (Str × Str) := ns.map fun n => (fOf ns j n, n)
def gOf (ns : List Str) (j : Nat) (x : Str) : Str := (aget (backOf ns j) x).getD Str.empty
theorem back_keys : keys (backOf ns j) = ns.map (fOf ns j) := by
  unfold keys backOf
  rw [List.map_map]
  rfl
theorem back_get (hn : ns.length ≤ 8) (hj : j ≤ 2) (nd : ns.Nodup) {n : Str} (h : n ∈ ns) : aget (backOf ns j) (fOf ns j n) = some n :=
  aget_of_mem (by rw [back_keys]; exact (calls_SS hn hj nd).nodup) (List.mem_map.mpr ⟨n, h, rfl⟩)
theorem gOf_f (hn : ns.length ≤ 8) (hj : j ≤ 2) (nd : ns.Nodup) {n : Str} (h : n ∈ ns) : gOf ns j (fOf ns j n) = n := by
  unfold gOf
  rw [back_get hn hj nd h]
  rfl
end
end KB
/-! part KW6 -/
namespace KB
open PySem L2
section
variable {P : Program} {w : World} {K : PySem.W.Frag} {mg : Str → Option Value} {base : Heap} {A : Ads}
theorem matters_len {m : Bk} : m.mattersL.length = m.namesIn.length := List.length_map ..
theorem addC_of {l : List (Str × Int)} {x : Str} {c : Int} (h : aget l x = some c) : addC l x = aput l x (c + 1) := by
  unfold addC
  rw [h]
  rfl
theorem addC_new {l : List (Str × Int)} {x : Str} (h : aget l x = none) : addC l x = aput l x (0 + 1) := by
  unfold addC
  rw [h]
  rfl
theorem adds_len (M : List Str) : (M.foldl addC []).length ≤ M.length := by
  have nd : (keys (M.foldl addC [])).Nodup := nodup_addC M [] List.nodup_nil
  have := nodup_subset_length nd fun x hx => keys_addC.mp hx
  unfold keys at this
  rw [List.length_map] at this
  exact this
theorem ok_B_matters (T : Txt K mg A) : FnOk P w K mg base CX0 3 A.a_B_matters A.d_B_matters P_B_matters (sp_B_matters A) := by
  have nd := sc_B_matters.nd
  refine T.F_B_matters.ok sc_B_matters (fun vs H Q E h => ?_) (fun cdv Ar outer s H vs Q E hr h => ?_)
  · obtain ⟨B, m, rfl, _⟩ := h
    rfl
  · obtain ⟨B, m, rfl, hB, ok, k⟩ := h
    have hu := hu_of hr
    refine ⟨_, PSs.nox (pss_cons (ps_set (i := 1) nd rfl (Or.inr rfl) (pe_dnewK))
      (pss_cons (ps_for PassesOwn.never rfl (pi_list (pe_meth0 (pv 0) T.clB T.M_B_names_in (ok_B_names_in T) (hr.mono (by decide)) T.b_B_names_in .nil pass0)) (pg_name (i := 2) nd rfl (Or.inl rfl))
        (pss_cons (ps_set (i := 3) nd rfl (Or.inl rfl) (pe_fld (pe_dget hu (pe_fld (pv 0) rfl) (pv 2) (fun _ _ => rfl)) rfl))
          (pss_one (ps_dput hu (pv 1) (pv 3) (pe_op op_add (pe_dsetd (pv 1) (pv 3) (pe_int) ⟨rfl, rfl, rfl, rfl⟩) (pe_int)) rfl))))
      (pss_one (ps_ret (pe_callTy (call_dictP rfl) (by rfl) T.m_dict (by decide +kernel) (pa_cons (pe_lc (own := [("matter", 3)]) (g := gName 3) (tt := tYes) rfl nd (pi_list (pe_callB (call_sortedD rfl) (by rfl) T.m_sorted (by decide +kernel) (pa_cons (pv 1) pa_nil))) (blkOk_by (N := N_B_matters) (sc := defScope s_B_matters) (by decide +kernel)) (fun _ _ _ _ _ => (pg_name (i := 3) nd rfl (Or.inl rfl))) (fun _ _ _ _ _ => pts_nil) (fun _ _ _ _ _ => (pe_tup (pa_cons (pv 3) (pa_cons (pe_dget hu (pv 1) (pv 3) (fun _ _ => rfl)) pa_nil))))) pa_nil)))))), ?_⟩
    refine fun mp hmp => ?_
    have hB1 := hB.keep0 (.new hmp (o := .dK []))
    refine ⟨_, rfl, _, _, _, rfl, (hB1).ins, rfl, B, m, rfl, hB1, ok, fun H1 p1 k1 hp1 hl1 => ?_⟩
    refine ⟨p1, rfl, ⟨_, SqL.of hl1⟩, ?_⟩
    have k01 : Kd [] H H1 := (Kd.new hmp).trans k1
    have ne : p1 ≠ mp := (ne_of_none upd_same hp1).symm
    refine forL m.namesIn V.str (fun i σ H' => (∃ x2 x3 : Option V, σ = [some (.ref B.b), some (.ref mp), x2, x3]) ∧ Kd [] H H' ∧ H' p1 = some (.lst (m.namesIn.map V.str)) ∧ H' mp = some (.dK (kvOf V.int ((m.mattersL.take i).foldl addC []))))
      ⟨⟨none, none, rfl⟩, k01, hl1, k1.dK upd_same (by simp)⟩ (fun i σ H' h => SqL.of h.2.2.1) ?_ ?_
    · rintro i n σ H2 hi ⟨⟨x2, x3, rfl⟩, k2, hl2, ht2⟩
      have hn := List.mem_of_getElem? hi
      have hB2 := hB.keep0 k2
      obtain ⟨d, hd⟩ := ok.qsome (in_names hn)
      obtain ⟨p, hp⟩ := q_some hd
      have hq2 := hB2.q hp
      obtain ⟨dx, t, hi2, hta⟩ := id hq2
      have hM : m.mattersL[i]? = some d.matter := by
        unfold Bk.mattersL
        rw [List.getElem?_map, hi, Option.map_some, hd]
      have hL : (m.mattersL.take (i + 1)).foldl addC [] = addC ((m.mattersL.take i).foldl addC []) d.matter := by
        rw [List.take_add_one, hM, List.foldl_append]
        rfl
      have hlen : ((m.mattersL.take i).foldl addC []).length ≤ 8 := by
        have h1 := adds_len (m.mattersL.take i)
        have h2 := List.length_take_le' i m.mattersL
        have h3 := namesInLen ok
        rw [matters_len] at h2
        omega
      refine ⟨_, rfl, _, _, _, _, _, rfl, (hB2).ins, T.clB, T.nB_kept_here, rfl, _, rfl, _, _, rfl, hB2.gKs hp, _, _, _, _, _, rfl, hi2, T.clQ, T.nQ_matter, rfl, ?_⟩
      refine ⟨_, rfl, mp, rfl, .inl ⟨_, .inl ht2⟩, _, rfl, _, Sum.inr d.matter, ht2, rfl, by rw [kvOf_len]; exact line9 hlen, fun v hv => ?_, fun hv => ?_⟩
      · rw [valV_kv] at hv
        cases hc : aget ((m.mattersL.take i).foldl addC []) d.matter with
        | none => rw [hc] at hv; cases hv
        | some c =>
          rw [hc] at hv
          cases hv
          refine ⟨c, 1, rfl, rfl, _, rfl, _, rfl, mp, _, rfl, DPut.k (k := Sum.inr d.matter) ht2 (by rw [kvOf_len]; exact line9 hlen), ⟨_, _, rfl⟩, k2.mut hmp, by rw [upd_ne ne]; exact hl2, ?_⟩
          rw [upd_same, putK_kv V.int, hL, addC_of hc]
      · rw [valV_kv, Option.map_eq_none_iff] at hv
        refine ⟨0, 1, rfl, rfl, _, rfl, _, rfl, mp, _, rfl, DPut.k (k := Sum.inr d.matter) upd_same ?_, ⟨_, _, rfl⟩, (k2.mut hmp).mut hmp, by rw [upd_ne ne, upd_ne ne]; exact hl2, ?_⟩
        · have h1 : (L2.putK (kvOf V.int ((m.mattersL.take i).foldl addC [])) (Sum.inr d.matter) (V.int 0)).length ≤ 9 := by
            rw [putK_kv V.int, kvOf_len]
            have := length_aput_le ((m.mattersL.take i).foldl addC []) d.matter (0 : Int)
            omega
          exact Nat.lt_of_le_of_lt h1 (by decide)
        · rw [upd_same, putK_kv V.int, putK_kv V.int, aput_aput, hL, addC_new hv]
    · rintro σ H2 ⟨⟨x2, x3, rfl⟩, k2, hl2, ht2⟩
      have hlenE : m.namesIn.length = m.mattersL.length := matters_len.symm
      rw [hlenE, List.take_length] at ht2
      have hlen : (m.mattersL.foldl addC []).length ≤ 8 := by
        have h1 := adds_len m.mattersL
        have h3 := namesInLen ok
        omega
      have nd : (keys (m.mattersL.foldl addC [])).Nodup := nodup_addC m.mattersL [] List.nodup_nil
      refine ⟨_, rfl, _, _, keys (m.mattersL.foldl addC []), rfl, .inl ht2, kvOf_keys _ _, by unfold keys; rw [List.length_map]; omega, fun ys q hperm hsort hq => ?_⟩
      rw [sorted_eq nd hperm hsort, srt_addC]
      refine ⟨q, rfl, ⟨_, SqL.of upd_same⟩, fun D hD => ?_⟩
      have k3 : Kd [] H2 (upd H2 q (.lst ((srt (uniq m.mattersL)).map V.str))) := .new hq
      refine lcRowsL (srt (uniq m.mattersL)) [] V.str (fun x => [.str x, .int (m.mattersL.count x : Nat)]) hD (line9 ?_) (SqL.of upd_same) (fun x H4 R hx k4 kt => ⟨rfl, ?_⟩) (fun H4 k4 h4 => ?_)
      · rw [← srt_addC, (srt_perm _).length_eq]
        unfold keys
        rw [List.length_map]
        exact hlen
      · have ht4 := k4.dK (k3.dK ht2 (by simp)) (by simp)
        have hg : DGet H4 mp (.str x) (some (.int (m.mattersL.count x : Nat))) := by
          have g := DGet.k (k := Sum.inr x) ht4
          rw [valV_kv, aget_addC, if_pos (mem_uniq.mp (mem_srt.mp hx))] at g
          have e0 : (aget ([] : List (Str × Int)) x).getD 0 + ((m.mattersL.count x : Nat) : Int) = (m.mattersL.count x : Nat) := Int.zero_add _
          rw [e0] at g
          exact g
        exact ⟨_, rfl, _, rfl, _, rfl, mp, _, rfl, hg, by show 2 ≤ sizeLine; decide, fun t ht => kt _ t (.new ht) upd_same⟩
      · obtain ⟨ts, hts, htl, hrows⟩ := h4
        refine ⟨D, ts, kvOf V.int (countsOf m.mattersL), rfl, SqL.of hts, ?_, fun r hr => ?_⟩
        · have e : kvOf V.int (countsOf m.mattersL) = (srt (uniq m.mattersL)).map fun x => ((Sum.inr x : Key), V.int (m.mattersL.count x : Nat)) := by
            unfold kvOf countsOf
            rw [List.map_map]
            rfl
          rw [e]
          refine paired_of _ ts (srt (uniq m.mattersL)) (by rw [htl, List.length_map]) fun i t x h1 h2 => .inl (.inl ?_)
          exact hrows i t _ h1 (by rw [List.getElem?_map, h2]; rfl)
        · rw [mergeK_nil V.int _ (nodup_counts _)]
          exact k _ r (((k2.trans k3).trans k4).trans (.new hr)) ((k2.trans (k3.trans k4)).back _ hr) upd_same
end
end KB
/-! part KW7 -/
namespace KB
open PySem L2
section
variable {P : Program} {w : World} {K : PySem.W.Frag} {mg : Str → Option Value} {base : Heap} {A : Ads}
theorem list3 {α : Type} {x y z : α} {P : α → Prop} (h1 : P x) (h2 : P y) (h3 : P z) : ∀ w, w ∈ [x, y, z] → P w := by
  intro w hw
  simp only [List.mem_cons, List.not_mem_nil, or_false] at hw
  rcases hw with rfl | rfl | rfl
  · exact h1
  · exact h2
  · exact h3
theorem init_loop (T : Txt K mg A) {B : Bh} {l : Addr} {x1 x2 : Option V} {H : Hp} {D : Ends} {m0 : Bk} {ql : List (Addr × Qn)} (hB : BankAt A H B m0) (e1 : m0.kept = []) (e2 : m0.out = []) (e3 : m0.days = []) (hl : H l = some (.lst (ql.map fun p => .ref p.1)))
    (hq : ∀ p ∈ ql, QAt A H p.1 p.2) (nd : (ql.map (·.2.name)).Nodup) (hlen : ql.length ≤ 8)
    (hd : ∀ σ' H' m, Kd B.F H H' → BankAt A H' B m → m.kept = ql.map (fun p => (p.2.name, p)) → m.out = [] → m.days.map (fun p => (p.1, p.2.2)) = ql.map (fun p => (p.2.name, [])) → D.nx σ' H') :
    ForW (Itl K l) (gName 2) (tDrop (tMeth A.cB "added" (sp_B_added A) [] E0 (tVar 0) (tCons (tVar 2) tNil))) D [some (.ref B.b), x1, x2] H := by
  refine forL ql (fun p => V.ref p.1) (fun i σ H' => (∃ x2, σ = [some (.ref B.b), x1, x2]) ∧ Kd B.F H H' ∧ ∃ m, BankAt A H' B m ∧ m.kept = (ql.take i).map (fun p => (p.2.name, p)) ∧ m.out = [] ∧ m.days.map (fun p => (p.1, p.2.2)) = (ql.take i).map (fun p => (p.2.name, [])))
    ⟨⟨x2, rfl⟩, .refl, m0, hB, e1, e2, by rw [e3]; rfl⟩ (fun i σ H' h => SqL.of (h.2.1.lst hl)) ?_ ?_
  · rintro i p σ H' hi ⟨⟨x2, rfl⟩, k1, m, hm, f1, f2, f3⟩
    have hp := List.mem_of_getElem? hi
    have hil : i < ql.length := (List.getElem?_eq_some_iff.mp hi).1
    have hno : p.2.name ∉ (ql.take i).map (·.2.name) := by
      intro h
      have e : (ql.take (i + 1)).map (·.2.name) = (ql.take i).map (·.2.name) ++ [p.2.name] := by
        rw [List.take_add_one, hi, List.map_append]
        rfl
      have nd2 : ((ql.take (i + 1)).map (·.2.name)).Nodup := nd.sublist ((List.take_sublist _ _).map _)
      rw [e, List.nodup_append] at nd2
      exact nd2.2.2 _ h _ (List.mem_singleton.mpr rfl) rfl
    have hk : keys m.kept = (ql.take i).map (·.2.name) := by
      unfold keys
      rw [f1, List.map_map]
      rfl
    have hdk : keys m.days = (ql.take i).map (·.2.name) := by
      have e : keys m.days = (m.days.map (fun p => (p.1, p.2.2))).map (·.1) := by
        unfold keys
        rw [List.map_map]
        rfl
      rw [e, f3, List.map_map]
      rfl
    have l1 : m.kept.length ≤ 8 := by
      rw [f1, List.length_map]
      have := List.length_take_le' i ql
      omega
    have l2 : m.days.length ≤ 8 := by
      have e : m.days.length = (keys m.days).length := (List.length_map ..).symm
      rw [e, hdk, List.length_map]
      have := List.length_take_le' i ql
      omega
    refine ⟨_, rfl, _, _, _, rfl, hm.ins, rfl, _, rfl, B, m, p.1, p.2, rfl, hm, (hq p hp).keep k1, by rw [hk]; exact hno, by omega, by omega, fun H2 q k2 hq2 hB2 => ?_⟩
    refine ⟨⟨_, rfl⟩, k1.trans k2, _, hB2, ?_, f2, ?_⟩
    · show aput m.kept p.2.name (p.1, p.2) = _
      rw [aput_new (by rw [hk]; exact hno), f1, List.take_add_one, hi, List.map_append]
      rfl
    · show (aput m.days p.2.name (q, [])).map (fun p => (p.1, p.2.2)) = _
      rw [aput_new (by rw [hdk]; exact hno), List.map_append, f3, List.take_add_one, hi, List.map_append]
      rfl
  · rintro σ H' ⟨⟨x2, rfl⟩, k1, m, hm, f1, f2, f3⟩
    rw [List.take_length] at f1 f3
    exact hd _ H' m k1 hm f1 f2 f3
theorem lt1 : Paired ClsV [.ty "list", .ty "tuple"] [.type "list", .type "tuple"] := .cons (.ty _) (.cons (.ty _) .nil)
theorem lt2 : PySem.W.kitAny K (.type "list") [.type "list", .type "tuple"] = some true := kitAny_cons (b := true) (kit_ty (by decide +kernel)) (fun z => nomatch z) (fun _ => rfl)
theorem ok_Q_eq (T : Txt K mg A) : FnOk P w K mg base CX0 2 A.a_Q_eq A.d_Q_eq P_Q_eq (spEqB (RQ A)) := by
  have nd := sc_Q_eq.nd
  refine T.F_Q_eq.ok sc_Q_eq (fun vs H Q E h => ?_) (fun cdv Ar outer s H vs Q E hr h => ?_)
  · obtain ⟨a, c, b, rfl, _⟩ := h
    rfl
  · obtain ⟨a, c, b, rfl, R, k⟩ := h
    have hu := hu_of hr
    refine ⟨_, (pss_one (ps_ret (pe_and (pe_callB call_isi (by rfl) T.m_isinstance (by decide +kernel) (pa_cons (pv 1) (pa_cons (pe_glob rfl T.m_Question (v := .ref A.cQ) rfl) pa_nil))) (pe_one (pe_cmpR (op_eqD hr.units) (pe_meth0 (pv 0) T.clQ T.M_Q_parts (ok_Q_parts T) (hr.mono (by decide)) T.b_Q_parts .nil pass0) (pe_meth0 (pv 1) T.clQ T.M_Q_parts (ok_Q_parts T) (hr.mono (by decide)) T.b_Q_parts .nil pass0) (nomark _)))))), ?_⟩
    obtain ⟨d, e, ⟨dx, t, hi1, ht1⟩, ⟨dx2, t2, hi2, ht2⟩, ok1, ok2, rfl⟩ := R
    refine ⟨_, rfl, _, _, _, _, true, rfl, .own _, isQT T hi2, T.isQ, _, rfl, iteT ?_⟩
    refine ⟨_, rfl, _, _, _, rfl, hi1, rfl, _, _, _, _, rfl, hi1, fun p hp => ?_⟩
    have k1 : Kd [] H (upd H p (.tup (rowV t d))) := .new hp
    refine ⟨_, rfl, _, _, _, rfl, k1.ins hi2, rfl, _, _, _, _, rfl, k1.ins hi2, fun q hq => ?_⟩
    have k2 : Kd [] (upd H p (.tup (rowV t d))) (upd (upd H p (.tup (rowV t d))) q (.tup (rowV t2 e))) := .new hq
    refine ⟨qd d, qd e, dp_qd (.inl (.inl (k2.tup upd_same))) (k2.tupA (k1.tupA ht1)).sqT, dp_qd (.inl (.inl upd_same)) (k2.tupA (k1.tupA ht2)).sqT, shaped_qd ok1, shaped_qd ok2, ?_⟩
    exact qb (k _ (k1.trans k2).ext) (eqv_qd d e)
theorem ok_B_init (T : Txt K mg A) : FnOk P w K mg base CX0 3 A.a_B_init A.d_B_init P_B_init (sp_B_init A) := by
  have nd := sc_B_init.nd
  refine T.F_B_init.ok sc_B_init (fun vs H Q E h => ?_) (fun cdv Ar outer s H vs Q E hr h => ?_)
  · obtain ⟨H0, b, dx, arg, ql, rfl, _⟩ := h
    rfl
  · obtain ⟨H0, b, dx, arg, ql, rfl, hb0, k0, hi, harg, hql, hnd, hlen, k⟩ := h
    have hu := hu_of hr
    refine ⟨_, PSs.nox (pss_cons (ps_fld (pv 0) (pe_dnewK) rfl)
      (pss_cons (ps_fld (pv 0) (pe_dnewK) rfl)
      (pss_cons (ps_fld (pv 0) (pe_dnewK) rfl)
      (pss_cons (ps_if (pt_cmpR op_isN (pv 1) (pe_non) (nomark _))
        (pss_one (ps_set (i := 1) nd rfl (Or.inl rfl) (pe_lst pa_nil)))
        pss_nil)
      (pss_cons (ps_if (pt_not (pt_val (pe_callB call_isiT (by rfl) T.m_isinstance (by decide +kernel) (pa_cons (pv 1) (pa_cons (pe_tup (pa_cons (pe_bltn (v := .ty "list") rfl T.m_list (by decide +kernel) rfl) (pa_cons (pe_bltn (v := .ty "tuple") rfl T.m_tuple (by decide +kernel) rfl) pa_nil))) pa_nil)))))
        (pss_one ps_never)
        pss_nil)
      (pss_one (ps_for PassesOwn.never rfl (pi_list (pv 1)) (pg_name (i := 2) nd rfl (Or.inl rfl))
        (pss_one (ps_expr (pe_meth (pv 0) T.clB T.M_B_added (ok_B_added T) (hr.mono (by decide)) T.b_B_added .nil pass0 (pa_cons (pv 2) pa_nil))))))))))), ?_⟩
    intro pk hpk
    have nbk : b ≠ pk := ne_of_none hi hpk
    refine ⟨_, rfl, b, _, dx, _, rfl, (by rw [upd_ne nbk]; exact hi), T.clB, T.nB_kept_here, (by show 0 < 1000; decide), ?_⟩
    intro po hpo
    have nbo : b ≠ po := ne_of_none upd_same hpo
    have npo : pk ≠ po := ne_of_none (by rw [upd_ne nbk.symm]; exact upd_same) hpo
    refine ⟨_, rfl, b, _, dx, _, rfl, (by rw [upd_ne nbo]; exact upd_same), T.clB, T.nB_out_here, (by show 1 < 1000; decide), ?_⟩
    intro pd hpd
    have nbd : b ≠ pd := ne_of_none upd_same hpd
    have npd : pk ≠ pd := ne_of_none (by rw [upd_ne nbk.symm, upd_ne npo, upd_ne nbk.symm]; exact upd_same) hpd
    have nod : po ≠ pd := ne_of_none (by rw [upd_ne nbo.symm]; exact upd_same) hpd
    refine ⟨_, rfl, b, _, dx, _, rfl, (by rw [upd_ne nbd]; exact upd_same), T.clB, T.nB_days_here, (by show 2 < 1000; decide), ?_⟩
    have kA : Kd [] H0 (upd H pk (.dK [])) := k0.trans (.new hpk)
    have kB := kA.mut (o := .ins A.cB dx (putF "kept_here" (.ref pk) [])) hb0
    have kC := kB.trans (Kd.new (o := .dK []) hpo)
    have kD := kC.mut (o := .ins A.cB dx (putF "out_here" (.ref po) (putF "kept_here" (.ref pk) []))) hb0
    have kE := kD.trans (Kd.new (o := .dK []) hpd)
    have kF := kE.mut (o := .ins A.cB dx (putF "days_here" (.ref pd) (putF "out_here" (.ref po) (putF "kept_here" (.ref pk) [])))) hb0
    have hB : BankAt A (upd (upd (upd (upd (upd (upd H pk (.dK [])) b (.ins A.cB dx (putF "kept_here" (.ref pk) []))) po (.dK [])) b (.ins A.cB dx (putF "out_here" (.ref po) (putF "kept_here" (.ref pk) [])))) pd (.dK [])) b (.ins A.cB dx (putF "days_here" (.ref pd) (putF "out_here" (.ref po) (putF "kept_here" (.ref pk) []))))) ⟨b, dx, pk, po, pd⟩ ⟨[], [], []⟩ := by
      refine ⟨upd_same, ?_, ?_, ?_, (fun p hp => nomatch hp), (fun p hp => nomatch hp), npo, npd, nod⟩
      · rw [upd_ne nbk.symm, upd_ne npd, upd_ne nbk.symm, upd_ne npo, upd_ne nbk.symm]
        exact upd_same
      · rw [upd_ne nbo.symm, upd_ne nod, upd_ne nbo.symm]
        exact upd_same
      · rw [upd_ne nbd.symm]
        exact upd_same
    have hfr : Fresh H0 ⟨b, dx, pk, po, pd⟩ := list3 (k0.back _ hpk) (kB.back _ hpo) (kD.back _ hpd)
    rcases harg with ⟨rfl, rfl⟩ | ⟨l, rfl, hl⟩
    · refine ⟨_, rfl, rfl, _, rfl, iteT ?_⟩
      refine ⟨by decide, fun l hl => ?_⟩
      have k1 := Kd.new (F := []) (o := .lst []) hl
      refine ⟨_, rfl, by decide, fun tp htp => ?_⟩
      have k2 := Kd.new (F := []) (o := .tup [.ty "list", .ty "tuple"]) htp
      refine ⟨_, tp, _, _, _, true, rfl, upd_same, lt1, .base (.lst (k2.lst upd_same)), lt2, _, rfl, iteF ?_⟩
      refine ⟨_, rfl, l, rfl, ⟨_, SqL.of (k2.lst upd_same)⟩, ?_⟩
      have hB2 := (hB.keep0 k1).keep0 k2
      refine init_loop T (ql := []) hB2 rfl rfl rfl (k2.lst upd_same) (fun p hp => nomatch hp) List.nodup_nil (by decide) (fun σ' H' m k3 hm f1 f2 f3 => ?_)
      exact k H' _ m (((kF.trans k1).trans k2).over k3 fun x hx => .inr (hfr x hx)) rfl hfr hm f1 f2 f3
    · refine ⟨_, rfl, rfl, _, rfl, iteF ?_⟩
      refine ⟨_, rfl, by decide, fun tp htp => ?_⟩
      have k2 := Kd.new (F := []) (o := .tup [.ty "list", .ty "tuple"]) htp
      have hl2 := k2.lst (kF.lst hl)
      refine ⟨_, tp, _, _, _, true, rfl, upd_same, lt1, .base (.lst hl2), lt2, _, rfl, iteF ?_⟩
      refine ⟨_, rfl, l, rfl, ⟨_, SqL.of hl2⟩, ?_⟩
      have hB2 := hB.keep0 k2
      refine init_loop T hB2 rfl rfl rfl hl2 (fun p hp => ((hql p hp).keep kF).keep k2) hnd hlen (fun σ' H' m k3 hm f1 f2 f3 => ?_)
      exact k H' _ m ((kF.trans k2).over k3 fun x hx => .inr (hfr x hx)) rfl hfr hm f1 f2 f3
theorem ok_w_made (T : Txt K mg A) : FnOk P w K mg base CX0 5 A.a_w_made A.d_w_made P_w_made (sp_w_made A) := by
  have nd := sc_w_made.nd
  refine T.F_w_made.ok sc_w_made (fun vs H Q E h => ?_) (fun cdv Ar outer s H vs Q E hr h => ?_)
  · obtain ⟨p, t, d, rfl, _⟩ := h
    rfl
  · obtain ⟨p, t, d, rfl, hp, ht, ok, k⟩ := h
    have hu := hu_of hr
    obtain ⟨its_Q_init_4_right_toil_marks_kin, hk_Q_init_4_right_toil_marks_kin⟩ := T.bk_Q_init_4_right_toil_marks_kin
    refine ⟨_, (pss_one (ps_ret (pe_makeN (n := 3) T.mkQ (ok_Q_init T) (hr.mono (by decide)) rfl T.m_Question hk_Q_init_4_right_toil_marks_kin pass0 (pa_cons (pe_ix ix_tup (pv 0) (pe_int) (fun _ _ => rfl)) (pa_cons (pe_ix ix_tup (pv 0) (pe_int) (fun _ _ => rfl)) (pa_cons (pe_ix ix_tup (pv 0) (pe_int) (fun _ _ => rfl)) pa_nil))) (pk_cons (pe_ix ix_tup (pv 0) (pe_int) (fun _ _ => rfl)) (pk_cons (pe_ix ix_tup (pv 0) (pe_int) (fun _ _ => rfl)) (pk_cons (pe_ix ix_tup (pv 0) (pe_int) (fun _ _ => rfl)) (pk_cons (pe_ix ix_tup (pv 0) (pe_int) (fun _ _ => rfl)) pk_nil))))))), ?_⟩
    have hx : SqT K H p (rowV t d) := .inl (.inl hp)
    refine ⟨_, rfl, p, _, 0, _, rfl, rfl, hx, rfl, _, rfl, p, _, 1, _, rfl, rfl, hx, rfl, _, rfl, p, _, 2, _, rfl, rfl, hx, rfl, _, rfl, p, _, 3, _, rfl, rfl, hx, rfl, _, rfl, p, _, 4, _, rfl, rfl, hx, rfl, _, rfl, p, _, 5, _, rfl, rfl, hx, rfl, _, rfl, p, _, 6, _, rfl, rfl, hx, rfl, rfl, rfl, fun x dx hx0 hdx ne => ?_⟩
    refine ⟨H, x, dx, t, d, rfl, ok, hx0, (Kd.new hdx).mut hx0, upd_same, ht, fun H' k1 hq => ⟨rfl, k _ x k1 hx0 hq⟩⟩
end
end KB
/-! part KW8 -/
namespace KB
open PySem L2
section
variable {P : Program} {w : World} {K : PySem.W.Frag} {mg : Str → Option Value} {base : Heap} {A : Ads}
theorem paired_map {α β γ : Type} {F : α → β → Prop} (f : γ → α) (g : γ → β) : ∀ (z : List γ), (∀ q ∈ z, F (f q) (g q)) → Paired F (z.map f) (z.map g)
  | [], _ => .nil
  | x :: r, h => .cons (h x (List.mem_cons_self ..)) (paired_map f g r fun q hq => h q (List.mem_cons_of_mem _ hq))
theorem Kd.unlock {F : List Addr} {H H' : Hp} {d : Addr} {od : Obj} {u : HO} (k : Kd F (upd H d (.frz od u)) H') (h : H d = some u) : Kd F H (upd H' d u) := by
  refine ⟨fun a o e n => ?_, fun a e => ?_⟩
  · by_cases z : a = d
    · subst z
      rw [h] at e
      cases e
      exact upd_same
    · rw [upd_ne z]
      exact k.keep a o (by rw [upd_ne z]; exact e) n
  · by_cases z : a = d
    · subst z
      rw [upd_same] at e
      cases e
    · rw [upd_ne z] at e
      have := k.back a e
      rw [upd_ne z] at this
      exact this
theorem ok_B_twin (T : Txt K mg A) : FnOk P w K mg base CX0 5 A.a_B_twin A.d_B_twin P_B_twin (sp_B_twin A) := by
  have nd := sc_B_twin.nd
  refine T.F_B_twin.ok sc_B_twin (fun vs H Q E h => ?_) (fun cdv Ar outer s H vs Q E hr h => ?_)
  · obtain ⟨B, m, rfl, _⟩ := h
    rfl
  · obtain ⟨B, m, rfl, hB, ok, k⟩ := h
    have hu := hu_of hr
    obtain ⟨ds_B_init1, hv_B_init1, hb_B_init1⟩ := T.bd_B_init1
    refine ⟨_, (pss_cons (ps_set (i := 1) nd rfl (Or.inl rfl) (pe_make0 T.mkB (ok_B_init T) (hr.mono (by decide)) rfl T.m_Bank hb_B_init1 hv_B_init1 pass0))
      (pss_cons (ps_fld (pv 1) (pe_callTy call_dictD (by rfl) T.m_dict (by decide +kernel) (pa_cons (pe_fld (pv 0) rfl) pa_nil)) rfl)
      (pss_cons (ps_fld (pv 1) (pe_callTy call_dictD (by rfl) T.m_dict (by decide +kernel) (pa_cons (pe_fld (pv 0) rfl) pa_nil)) rfl)
      (pss_cons (ps_fld (pv 1) (pe_callTy (call_dictP rfl) (by rfl) T.m_dict (by decide +kernel) (pa_cons (pe_lock (pe_lc (own := [("name", 2)]) (g := gName 2) (tt := tYes) rfl nd (pi_keys (pe_fld (pv 0) rfl)) (blkOk_by (N := N_B_twin) (sc := defScope s_B_twin) (by decide +kernel)) (fun _ _ _ _ _ => (pg_name (i := 2) nd rfl (Or.inl rfl))) (fun _ _ _ _ _ => pts_nil) (fun _ _ _ _ _ => (pe_tup (pa_cons (pv 2) (pa_cons (pe_callTy (call_list_ofK K rfl) (by rfl) T.m_list (by decide +kernel) (pa_cons (pe_dget hu (pe_fldK K rfl (pv 0) rfl) (pv 2) (fun _ _ => rfl)) pa_nil)) pa_nil)))))) pa_nil)) rfl)
      (pss_one (ps_ret (pv 1))))))), ?_⟩
    intro x dx hx hdx ne
    have kx : Kd [] H (upd (upd H dx (.own x)) x (.ins A.cB dx [])) := (Kd.new hdx).mut hx
    refine ⟨H, x, dx, .non, [], rfl, hx, kx, upd_same, .inl ⟨rfl, rfl⟩, (fun p hp => nomatch hp), List.nodup_nil, by decide, fun H1 B1 m1 k1 hb hfr hB1 f1 f2 f3 => ⟨rfl, ?_⟩⟩
    subst hb
    have hBa := hB.keep0 k1
    refine ⟨_, rfl, _, _, _, _, _, rfl, (hBa).ins, T.clB, T.nB_kept_here, rfl, B.k, _, rfl, .inl hBa.kk, fun p1 hp1 => ?_⟩
    have e1 := Kd.new (F := []) (o := .dK (kvOf (fun p : Addr × Qn => V.ref p.1) m.kept)) hp1
    refine ⟨_, rfl, B1.b, _, B1.dx, _, rfl, e1.ins hB1.ins, T.clB, T.nB_kept_here, (by show 3 < 1000; decide), ?_⟩
    have ka := (k1.trans e1).mut (o := .ins A.cB B1.dx (putF "kept_here" (.ref p1) (bf B1))) hx
    have hBb := hB.keep0 ka
    refine ⟨_, rfl, _, _, _, _, _, rfl, (hBb).ins, T.clB, T.nB_out_here, rfl, B.o, _, rfl, .inl hBb.oo, fun p2 hp2 => ?_⟩
    have e2 := Kd.new (F := []) (o := .dK (kvOf V.str m.out)) hp2
    refine ⟨_, rfl, B1.b, _, B1.dx, _, rfl, e2.ins upd_same, T.clB, T.nB_out_here, (by show 3 < 1000; decide), ?_⟩
    have kb := (ka.trans e2).mut (o := .ins A.cB B1.dx (putF "out_here" (.ref p2) (putF "kept_here" (.ref p1) (bf B1)))) hx
    have hBc := hB.keep0 kb
    have nb1 : B1.b ≠ p1 := ne_of_none hB1.ins hp1
    have nb2 : B1.b ≠ p2 := ne_of_none upd_same hp2
    have n12 : p1 ≠ p2 := ne_of_none (by rw [upd_ne nb1.symm]; exact upd_same) hp2
    have hsb : (upd (upd (upd (upd H1 p1 (.dK (kvOf (fun p : Addr × Qn => V.ref p.1) m.kept))) B1.b (.ins A.cB B1.dx (putF "kept_here" (.ref p1) (bf B1)))) p2 (.dK (kvOf V.str m.out))) B1.b (.ins A.cB B1.dx (putF "out_here" (.ref p2) (putF "kept_here" (.ref p1) (bf B1))))) B1.b = some (.ins A.cB B1.dx (putF "out_here" (.ref p2) (putF "kept_here" (.ref p1) (bf B1)))) := upd_same
    have hs1 : (upd (upd (upd (upd H1 p1 (.dK (kvOf (fun p : Addr × Qn => V.ref p.1) m.kept))) B1.b (.ins A.cB B1.dx (putF "kept_here" (.ref p1) (bf B1)))) p2 (.dK (kvOf V.str m.out))) B1.b (.ins A.cB B1.dx (putF "out_here" (.ref p2) (putF "kept_here" (.ref p1) (bf B1))))) p1 = some (.dK (kvOf (fun p : Addr × Qn => V.ref p.1) m.kept)) := by
      rw [upd_ne nb1.symm, upd_ne n12, upd_ne nb1.symm]
      exact upd_same
    have hs2 : (upd (upd (upd (upd H1 p1 (.dK (kvOf (fun p : Addr × Qn => V.ref p.1) m.kept))) B1.b (.ins A.cB B1.dx (putF "kept_here" (.ref p1) (bf B1)))) p2 (.dK (kvOf V.str m.out))) B1.b (.ins A.cB B1.dx (putF "out_here" (.ref p2) (putF "kept_here" (.ref p1) (bf B1))))) p2 = some (.dK (kvOf V.str m.out)) := by
      rw [upd_ne nb2.symm]
      exact upd_same
    have hf1 := k1.back _ hp1
    have hf2 := ka.back _ hp2
    generalize (upd (upd (upd (upd H1 p1 (.dK (kvOf (fun p : Addr × Qn => V.ref p.1) m.kept))) B1.b (.ins A.cB B1.dx (putF "kept_here" (.ref p1) (bf B1)))) p2 (.dK (kvOf V.str m.out))) B1.b (.ins A.cB B1.dx (putF "out_here" (.ref p2) (putF "kept_here" (.ref p1) (bf B1))))) = Hs at kb hBc hsb hs1 hs2 ⊢
    refine ⟨B.d, _, hBc.dd, trivial, fun od => ?_⟩
    have kL : Kd [B.d] Hs (upd Hs B.d (.frz od (.dK (kvOf (fun p : Addr × List Int => V.ref p.1) m.days)))) := .put hBc.dd (List.mem_singleton.mpr rfl)
    refine ⟨_, rfl, _, _, _, _, _, rfl, kL.ins hBc.ins, T.clB, T.nB_days_here, rfl, B.d, od, rfl, .inl ⟨_, upd_same, ?_⟩⟩
    intro D hD
    refine lc_it (walk_keysS m.days (fun p => V.ref p.1)) (fun i H' => Kd [] (upd Hs B.d (.frz od (.dK (kvOf (fun p : Addr × List Int => V.ref p.1) m.days)))) H' ∧ ∃ z : List (Addr × (Str × Addr × List Int)), H' D = some (.lst (z.map fun q => .ref q.1)) ∧ (z.map fun q => (q.2.1, q.2.2.2)) = (m.days.take i).map (fun p => (p.1, p.2.2)) ∧ ∀ q ∈ z, q.1 ≠ D ∧ q.2.2.1 ≠ D ∧ H' q.1 = some (.tup [.str q.2.1, .ref q.2.2.1]) ∧ H' q.2.2.1 = some (.lst (q.2.2.2.map V.int)))
      ⟨Kd.new hD, [], upd_same, rfl, fun q hq => nomatch hq⟩ (fun i H' _ h => h.1.frz upd_same) ?_ ?_
    · rintro i y H5 H6 hi ⟨k5, z, hz, hzm, hzf⟩ ⟨rfl, a, ha, rfl⟩
      obtain ⟨⟨n, p, l⟩, hp⟩ : ∃ q, m.days[i]? = some q := ⟨m.days[i]'(by unfold keys at hi; rw [List.length_map] at hi; exact hi), List.getElem?_eq_getElem _⟩
      have ean : a = n := by
        unfold keys at ha
        rw [List.getElem?_map, hp] at ha
        exact (Option.some.inj ha).symm
      subst ean
      have hag : aget m.days a = some (p, l) := aget_of_mem ok.kd (List.mem_of_getElem? hp)
      have hil : i < m.days.length := (List.getElem?_eq_some_iff.mp hp).1
      have hg : DGet H6 B.d (.str a) (some (.ref p)) := by
        have g : DGet H6 B.d (kV (Sum.inr a)) (valV (kvOf (fun p : Addr × List Int => V.ref p.1) m.days) (Sum.inr a)) := .inl ⟨_, Sum.inr a, .inr ⟨od, k5.frz upd_same⟩, rfl, rfl⟩
        rw [valV_kv, hag] at g
        exact g
      have hl6 := k5.lst (kL.lst (hBc.day hag))
      refine ⟨rfl, _, rfl, _, rfl, _, _, _, _, _, rfl, k5.ins (kL.ins hBc.ins), T.clB, T.nB_days_here, rfl, _, rfl, _, _, rfl, hg, p, _, rfl, .inl (SqL.of hl6), fun q hq => ⟨by (show 2 ≤ sizeLine; decide), fun t ht => ?_⟩⟩
      have kq := Kd.new (F := []) (o := .lst (l.map V.int)) hq
      have kt := Kd.new (F := []) (o := .tup [.str a, .ref q]) ht
      have hDq := kt.lst (kq.lst hz)
      have nDq : q ≠ D := (ne_of_none hz hq).symm
      have nDt : t ≠ D := (ne_of_none (kq.lst hz) ht).symm
      have nqt : q ≠ t := ne_of_none upd_same ht
      refine ⟨_, hDq, ?_, ?_, z ++ [(t, a, q, l)], ?_, ?_, ?_⟩
      · have e : (z.map fun q => (q.2.1, q.2.2.2)).length = ((m.days.take i).map (fun p => (p.1, p.2.2))).length := by rw [hzm]
        rw [List.length_map, List.length_map] at e
        rw [List.length_map]
        have h1 := List.length_take_le' i m.days
        have h2 := ok.daysLen
        exact line9 (by omega)
      · exact ((k5.trans kq).trans kt).mut hD
      · rw [upd_same, List.map_append]
        rfl
      · rw [List.map_append, hzm, List.take_add_one, hp, List.map_append]
        rfl
      · intro w hw
        rcases List.mem_append.mp hw with hw | hw
        · obtain ⟨w1, w2, w3, w4⟩ := hzf w hw
          refine ⟨w1, w2, ?_, ?_⟩
          · rw [upd_ne w1]
            exact kt.tup (kq.tup w3)
          · rw [upd_ne w2]
            exact kt.lst (kq.lst w4)
        · have := List.mem_singleton.mp hw
          subst this
          refine ⟨nDt, nDq, ?_, ?_⟩
          · rw [upd_ne nDt]
            exact upd_same
          · rw [upd_ne nDq, upd_ne nqt]
            exact upd_same
    · rintro H5 ⟨k5, z, hz, hzm, hzf⟩
      refine ⟨k5.frz upd_same, ?_⟩
      have ku := k5.unlock hBc.dd
      have hd5 := k5.frz (o := od) (u := .dK (kvOf (fun p : Addr × List Int => V.ref p.1) m.days)) upd_same
      have nD : D ≠ B.d := fun e => by rw [e, hd5] at hz; cases hz
      have huD : (upd H5 B.d (.dK (kvOf (fun p : Addr × List Int => V.ref p.1) m.days))) D = some (.lst (z.map fun q => .ref q.1)) := by rw [upd_ne nD]; exact hz
      have huz : ∀ q ∈ z, (upd H5 B.d (.dK (kvOf (fun p : Addr × List Int => V.ref p.1) m.days))) q.1 = some (.tup [.str q.2.1, .ref q.2.2.1]) ∧ (upd H5 B.d (.dK (kvOf (fun p : Addr × List Int => V.ref p.1) m.days))) q.2.2.1 = some (.lst (q.2.2.2.map V.int)) := by
        intro q hq
        obtain ⟨w1, w2, w3, w4⟩ := hzf q hq
        refine ⟨?_, ?_⟩
        · rw [upd_ne fun e => by rw [e, hd5] at w3; cases w3]
          exact w3
        · rw [upd_ne fun e => by rw [e, hd5] at w4; cases w4]
          exact w4
      generalize (upd H5 B.d (.dK (kvOf (fun p : Addr × List Int => V.ref p.1) m.days))) = Hu at ku huD huz ⊢
      have ez : (z.map fun q => V.ref q.1) = (z.map (·.1)).map V.ref := by rw [List.map_map]; rfl
      have ndz : (keys (z.map (·.2))).Nodup := by
        have e : keys (z.map (·.2)) = keys m.days := by
          have e1 : keys (z.map (·.2)) = (z.map fun q => (q.2.1, q.2.2.2)).map (·.1) := by
            unfold keys
            rw [List.map_map, List.map_map]
            rfl
          have e2 : (keys m.days).length = m.days.length := List.length_map ..
          rw [e1, hzm, e2, List.take_length, List.map_map]
          rfl
        rw [e]
        exact ok.kd
      refine ⟨D, z.map (·.1), kvOf (fun p => V.ref p.1) (z.map (·.2)), rfl, by rw [← ez]; exact SqL.of huD, ?_, fun p3 hp3 => ?_⟩
      · have e : kvOf (fun p : Addr × List Int => V.ref p.1) (z.map (·.2)) = z.map fun q => ((Sum.inr q.2.1 : Key), V.ref q.2.2.1) := by
          unfold kvOf
          rw [List.map_map]
          rfl
        rw [e]
        exact paired_map _ _ z fun q hq => .inl (.inl (huz q hq).1)
      rw [mergeK_nil _ _ ndz]
      have k3 := Kd.new (F := []) (o := .dK (kvOf (fun p : Addr × List Int => V.ref p.1) (z.map (·.2)))) hp3
      have nb3 : B1.b ≠ p3 := ne_of_none (ku.ins hsb) hp3
      have n13 : p1 ≠ p3 := ne_of_none (ku.dK hs1 (fun z => nomatch z)) hp3
      have n23 : p2 ≠ p3 := ne_of_none (ku.dK hs2 (fun z => nomatch z)) hp3
      refine ⟨_, rfl, B1.b, _, B1.dx, _, rfl, k3.ins (ku.ins hsb), T.clB, T.nB_days_here, (by show 3 < 1000; decide), _, rfl, ?_⟩
      have kf := ((kb.trans ku).trans k3).mut (o := .ins A.cB B1.dx (putF "days_here" (.ref p3) (putF "out_here" (.ref p2) (putF "kept_here" (.ref p1) (bf B1))))) hx
      have kf2 : ∀ a o, Hu a = some o → a ≠ B1.b → (upd (upd Hu p3 (.dK (kvOf (fun p : Addr × List Int => V.ref p.1) (z.map (·.2))))) B1.b (.ins A.cB B1.dx (putF "days_here" (.ref p3) (putF "out_here" (.ref p2) (putF "kept_here" (.ref p1) (bf B1)))))) a = some o := fun a o e n => by
        rw [upd_ne n, upd_ne (ne_of_none e hp3)]
        exact e
      refine k _ ⟨B1.b, B1.dx, p1, p2, p3⟩ ⟨m.kept, m.out, z.map (·.2)⟩ kf (list3 hf1 hf2 ((kb.trans ku).back _ hp3)) ⟨upd_same, kf2 _ _ (ku.dK hs1 (fun z => nomatch z)) nb1.symm, kf2 _ _ (ku.dK hs2 (fun z => nomatch z)) nb2.symm, ?_, fun p hp => (hB.qs p hp).keep kf, fun p hp => ?_, n12, n13, n23⟩ rfl rfl ?_
      · rw [upd_ne nb3.symm]
        exact upd_same
      · obtain ⟨q, hq, rfl⟩ := List.mem_map.mp hp
        have h1 := (huz q hq).2
        exact kf2 _ _ h1 fun e => by
          have h2 := ku.ins hsb
          rw [← e, h1] at h2
          cases h2
      · show (z.map (·.2)).map (fun p => (p.1, p.2.2)) = m.days.map (fun p => (p.1, p.2.2))
        have e2 : (keys m.days).length = m.days.length := List.length_map ..
        rw [e2, List.take_length] at hzm
        rw [List.map_map]
        exact hzm
end
end KB
/-! part KW9 -/
namespace KB
open PySem L2
section
variable {P : Program} {w : World} {K : PySem.W.Frag} {mg : Str → Option Value} {base : Heap} {A : Ads}
theorem q_inj {H : Hp} {a : Addr} {d e : Qn} (h1 : QAt A H a d) (h2 : QAt A H a e) : d = e := by
  obtain ⟨dx, t, i1, t1, ht1, _⟩ := h1
  obtain ⟨dx2, t2, i2, t3, ht2, _⟩ := h2
  rw [i1] at i2
  have e1 := Option.some.inj i2
  obtain ⟨n, m, a, r, tl, k, c⟩ := d
  obtain ⟨n', m', a', r', tl', k', c'⟩ := e
  simp only [qf, HO.ins.injEq, List.cons.injEq, Prod.mk.injEq, V.str.injEq, V.ref.injEq, V.int.injEq, true_and, and_true] at e1
  obtain ⟨_, rfl, rfl, rfl, rfl, rfl, rfl, rfl⟩ := e1
  rw [ht1] at ht2
  have e2 := Option.some.inj ht2
  simp only [HO.frz.injEq, HO.tup.injEq] at e2
  have e3 : a = a' := by
    have h := e2.2
    exact (List.map_inj_right (fun x y z => V.str.inj z)).mp h
  rw [e3]
theorem dictB {α β : Type} {H : Hp} {a c : Addr} {oa oc : Obj} {l : List (Str × α)} {ms : List (Str × β)} (g : α → V) (g' : β → V) (f : α → β → Bool) {D : Cmp} (nd : (keys l).Nodup) (hac : a ≠ c)
    (ha : H a = some (.frz oa (.dK (kvOf g l)))) (hc : H c = some (.frz oc (.dK (kvOf g' ms)))) (hD : ∀ p ∈ l, ∀ y, aget ms p.1 = some y → D (g p.2) (g' y) (f p.2 y) H) : DDictB D (.ref a) (.ref c) (deq f l ms) H := by
  refine ⟨a, c, oa, oc, _, _, rfl, rfl, hac, ha, hc, fun k => match k with
    | .inl _ => true
    | .inr n => match aget l n, aget ms n with
      | some x, some y => f x y
      | _, _ => true, ?_, ?_⟩
  · intro k v w hk hw
    obtain ⟨p, hp, e⟩ := List.mem_map.mp hk
    cases e
    rw [valV_kv] at hw
    cases hy : aget ms p.1 with
    | none => rw [hy] at hw; cases hw
    | some y =>
      rw [hy] at hw
      cases hw
      have e1 : aget l p.1 = some p.2 := aget_of_mem nd hp
      show D (g p.2) (g' y) (match aget l p.1, aget ms p.1 with
        | some x, some y => f x y
        | _, _ => true) H
      rw [e1, hy]
      exact hD p hp y hy
  · unfold deq hits
    rw [kvOf_len, kvOf_len]
    congr 1
    unfold kvOf
    rw [List.all_map, Bool.eq_iff_iff, List.all_eq_true, List.all_eq_true]
    refine forall_congr' fun p => forall_congr' fun hp => ?_
    have e1 : aget l p.1 = some p.2 := aget_of_mem nd hp
    show (match aget ms p.1 with
      | some y => f p.2 y
      | none => false) = true ↔ ((valV (kvOf g' ms) (Sum.inr p.1)).isSome && (match aget l p.1, aget ms p.1 with
        | some x, some y => f x y
        | _, _ => true)) = true
    rw [valV_kv, e1]
    cases aget ms p.1 with
    | none => exact Iff.rfl
    | some y => exact Iff.rfl
/-- a text, a list of ints -/
def DSI (K : PySem.W.Frag) : Cmp := fun x y b H => (∃ s t, x = .str s ∧ y = .str t ∧ PyData.strOk s = true ∧ PyData.strOk t = true ∧ b = decide (s = t)) ∨ ∃ (a c : Addr) (l k : List Int), x = .ref a ∧ y = .ref c ∧ H a = some (.lst (l.map V.int)) ∧ H c = some (.lst (k.map V.int)) ∧ b = decide (l = k)
theorem shaped_str {s : Str} (h : PyData.strOk s = true) : SeqAt.shaped (.str s) = true := by
  unfold SeqAt.shaped
  have e : PyData.canLay0 (.str s) = PyData.strOk s := rfl
  rw [e, h]
  rfl
theorem eqv_str (s t : Str) : PyData.eqv (.str s) (.str t) = decide (s = t) := by
  rw [Bool.eq_iff_iff]
  simp [PyData.eqv]
theorem DSI.data {x y : V} {b : Bool} {H : Hp} (h : DSI K x y b H) : DData K x y b H := by
  rcases h with ⟨s, t, rfl, rfl, h1, h2, rfl⟩ | ⟨a, c, l, k, rfl, rfl, h1, h2, rfl⟩
  · exact ⟨.str s, .str t, .str s, .str t, shaped_str h1, shaped_str h2, (eqv_str s t).symm⟩
  · exact ⟨_, _, dp_ints (SqL.of h1), dp_ints (SqL.of h2), shaped_ints l, shaped_ints k, (eqv_ints l k).symm⟩
theorem mon_DSI : CMon (DSI K) := by
  rintro x y b H H' e (h | ⟨a, c, l, k, hx, hy, h1, h2, hb⟩)
  · exact .inl h
  · exact .inr ⟨a, c, l, k, hx, hy, e _ _ h1, e _ _ h2, hb⟩
/-- one of the three dicts of two banks -/
def DSt (K : PySem.W.Frag) (A : Ads) : Cmp := fun x y b H => DDictB (DInsB A.cQ (RQ A)) x y b H ∨ DDictB (DSI K) x y b H
theorem RQ_mono : ∀ a c b H H', Ext H H' → RQ A a c b H → RQ A a c b H' := by
  rintro a c b H H' e ⟨d, e2, h1, h2, ok1, ok2, hb⟩
  exact ⟨d, e2, h1.keep (Kd.of_ext (F := []) e), h2.keep (Kd.of_ext (F := []) e), ok1, ok2, hb⟩
theorem mon_DSt : CMon (DSt K A) := by
  rintro x y b H H' e (h | h)
  · exact .inl (mon_dictB (mon_insB RQ_mono) x y b H H' e h)
  · exact .inr (mon_dictB mon_DSI x y b H H' e h)
theorem eqB_DSI {X : Cx} {n : Nat} : EqB X n (DSI X.K) := fun A pins s σ H x y u v b sb I rx ry h => eqB_data A pins s σ H x y u v b sb I rx ry h.data
theorem eqQn {X : Cx} (T : Txt X.K X.mg A) : EqB X 2 (DInsB A.cQ (RQ A)) := (rcB_ins (E := E0) (ok_Q_eq T) T.eqQ T.eqQf T.b_Q_eq pass0).eqB fun x y b H d => by
  obtain ⟨a, c, dx, dy, fs, gs, hx, hy, h1, h2, d, e, q1, q2, ok1, ok2, hb⟩ := d
  exact ⟨a, c, hx, hy, fun z => by
    subst z
    rw [hb]
    exact dT (q_inj q1 q2)⟩
theorem eqSt {X : Cx} (T : Txt X.K X.mg A) : EqB X 3 (DSt X.K A) := fun C pins s σ H x y u v b sb I rx ry h => by
  rcases h with h | h
  · exact eqB_dict (mon_insB RQ_mono) (eqQn T) C pins s σ H x y u v b sb I rx ry h
  · exact eqB_dict mon_DSI eqB_DSI C pins s σ H x y u v b sb I rx ry h
theorem ok_B_eq (T : Txt K mg A) : FnOk P w K mg base CX0 5 A.a_B_eq A.d_B_eq P_B_eq (spEqB (RB A)) := by
  have nd := sc_B_eq.nd
  refine T.F_B_eq.ok sc_B_eq (fun vs H Q E h => ?_) (fun cdv Ar outer s H vs Q E hr h => ?_)
  · obtain ⟨a, c, b, rfl, _⟩ := h
    rfl
  · obtain ⟨a, c, b, rfl, R, k⟩ := h
    have hu := hu_of hr
    have opS : OpR (cxOf CX0 P w K mg base N_B_eq "Bank.__eq__" (defScope s_B_eq) A.a_B_eq cdv Ar outer s H E) (compareOp .Eq) (rEqB (DTupB K (DSt K A))) := op_eqB (rcB_tup mon_DSt (eqSt T)) hr
    refine ⟨_, (pss_one (ps_ret (pe_and (pe_callB call_isi (by rfl) T.m_isinstance (by decide +kernel) (pa_cons (pv 1) (pa_cons (pe_glob rfl T.m_Bank (v := .ref A.cB) rfl) pa_nil))) (pe_one (pe_lock (pe_lock (pe_lock (pe_lock (pe_lock (pe_lock (pe_cmpR opS (pe_meth0 (pv 0) T.clB T.M_B_standing (ok_B_standing T) (hr.mono (by decide)) T.b_B_standing .nil pass0) (pe_meth0 (pv 1) T.clB T.M_B_standing (ok_B_standing T) (hr.mono (by decide)) T.b_B_standing .nil pass0) (nomark _)))))))))))), ?_⟩
    obtain ⟨B, m, B2, m2, rfl, rfl, hB, hB2, ap, ok, ok2, rfl⟩ := R
    have hib2 := isBT T hB2
    refine ⟨_, rfl, _, _, _, _, true, rfl, .own _, hib2, T.isB, _, rfl, iteT ?_⟩
    have akk : B2.k ≠ B.k := fun e => ap _ B.hk (by rw [← e]; exact B2.hk)
    have ako : B2.k ≠ B.o := fun e => ap _ B.ho (by rw [← e]; exact B2.hk)
    have akd : B2.k ≠ B.d := fun e => ap _ B.hd (by rw [← e]; exact B2.hk)
    have aok : B2.o ≠ B.k := fun e => ap _ B.hk (by rw [← e]; exact B2.ho)
    have aoo : B2.o ≠ B.o := fun e => ap _ B.ho (by rw [← e]; exact B2.ho)
    have aod : B2.o ≠ B.d := fun e => ap _ B.hd (by rw [← e]; exact B2.ho)
    have adk : B2.d ≠ B.k := fun e => ap _ B.hk (by rw [← e]; exact B2.hd)
    have ado : B2.d ≠ B.o := fun e => ap _ B.ho (by rw [← e]; exact B2.hd)
    have add_ : B2.d ≠ B.d := fun e => ap _ B.hd (by rw [← e]; exact B2.hd)
    have not1 : ∀ {x y : Addr}, x ≠ y → x ∉ [y] := fun h z => h (List.mem_singleton.mp z)
    -- the six locks
    refine ⟨B.k, _, hB.kk, trivial, fun o1 => ?_⟩
    have k1 : Kd [B.k] H (upd H B.k (.frz o1 (.dK (kvOf (fun p : Addr × Qn => V.ref p.1) m.kept)))) := .put hB.kk (List.mem_singleton.mpr rfl)
    generalize e1 : upd H B.k (.frz o1 (.dK (kvOf (fun p : Addr × Qn => V.ref p.1) m.kept))) = H1 at k1 ⊢
    have g1 : H1 B.k = some (.frz o1 (.dK (kvOf (fun p : Addr × Qn => V.ref p.1) m.kept))) := by rw [← e1]; exact upd_same
    have c2 := k1.dK hB.oo (not1 hB.ko.symm)
    refine ⟨B.o, _, c2, trivial, fun o2 => ?_⟩
    have k2 : Kd [B.o] H1 (upd H1 B.o (.frz o2 (.dK (kvOf V.str m.out)))) := .put c2 (List.mem_singleton.mpr rfl)
    generalize e2 : upd H1 B.o (.frz o2 (.dK (kvOf V.str m.out))) = H2 at k2 ⊢
    have g2 : H2 B.o = some (.frz o2 (.dK (kvOf V.str m.out))) := by rw [← e2]; exact upd_same
    have c3 := k2.dK (k1.dK hB.dd (not1 hB.kd.symm)) (not1 hB.od.symm)
    refine ⟨B.d, _, c3, trivial, fun o3 => ?_⟩
    have k3 : Kd [B.d] H2 (upd H2 B.d (.frz o3 (.dK (kvOf (fun p : Addr × List Int => V.ref p.1) m.days)))) := .put c3 (List.mem_singleton.mpr rfl)
    generalize e3 : upd H2 B.d (.frz o3 (.dK (kvOf (fun p : Addr × List Int => V.ref p.1) m.days))) = H3 at k3 ⊢
    have g3 : H3 B.d = some (.frz o3 (.dK (kvOf (fun p : Addr × List Int => V.ref p.1) m.days))) := by rw [← e3]; exact upd_same
    have c4 := k3.dK (k2.dK (k1.dK hB2.kk (not1 akk)) (not1 ako)) (not1 akd)
    refine ⟨B2.k, _, c4, trivial, fun o4 => ?_⟩
    have k4 : Kd [B2.k] H3 (upd H3 B2.k (.frz o4 (.dK (kvOf (fun p : Addr × Qn => V.ref p.1) m2.kept)))) := .put c4 (List.mem_singleton.mpr rfl)
    generalize e4 : upd H3 B2.k (.frz o4 (.dK (kvOf (fun p : Addr × Qn => V.ref p.1) m2.kept))) = H4 at k4 ⊢
    have g4 : H4 B2.k = some (.frz o4 (.dK (kvOf (fun p : Addr × Qn => V.ref p.1) m2.kept))) := by rw [← e4]; exact upd_same
    have c5 := k4.dK (k3.dK (k2.dK (k1.dK hB2.oo (not1 aok)) (not1 aoo)) (not1 aod)) (not1 hB2.ko.symm)
    refine ⟨B2.o, _, c5, trivial, fun o5 => ?_⟩
    have k5 : Kd [B2.o] H4 (upd H4 B2.o (.frz o5 (.dK (kvOf V.str m2.out)))) := .put c5 (List.mem_singleton.mpr rfl)
    generalize e5 : upd H4 B2.o (.frz o5 (.dK (kvOf V.str m2.out))) = H5 at k5 ⊢
    have g5 : H5 B2.o = some (.frz o5 (.dK (kvOf V.str m2.out))) := by rw [← e5]; exact upd_same
    have c6 := k5.dK (k4.dK (k3.dK (k2.dK (k1.dK hB2.dd (not1 adk)) (not1 ado)) (not1 add_)) (not1 hB2.kd.symm)) (not1 hB2.od.symm)
    refine ⟨B2.d, _, c6, trivial, fun o6 => ?_⟩
    have k6 : Kd [B2.d] H5 (upd H5 B2.d (.frz o6 (.dK (kvOf (fun p : Addr × List Int => V.ref p.1) m2.days)))) := .put c6 (List.mem_singleton.mpr rfl)
    generalize e6 : upd H5 B2.d (.frz o6 (.dK (kvOf (fun p : Addr × List Int => V.ref p.1) m2.days))) = H6 at k6 ⊢
    have g6 : H6 B2.d = some (.frz o6 (.dK (kvOf (fun p : Addr × List Int => V.ref p.1) m2.days))) := by rw [← e6]; exact upd_same
    let F : List Addr := [B.k, B.o, B.d, B2.k, B2.o, B2.d]
    have kk : Kd F H H6 := (((((k1.mono (G := F) (by intro x hx; simp [F] at hx ⊢; simp [hx])).trans (k2.mono (by intro x hx; simp [F] at hx ⊢; simp [hx]))).trans (k3.mono (by intro x hx; simp [F] at hx ⊢; simp [hx]))).trans (k4.mono (by intro x hx; simp [F] at hx ⊢; simp [hx]))).trans (k5.mono (by intro x hx; simp [F] at hx ⊢; simp [hx]))).trans (k6.mono (by intro x hx; simp [F] at hx ⊢; simp [hx]))
    have hi := kk.ins hB.ins
    have hi2 := kk.ins hB2.ins
    refine ⟨_, rfl, _, _, _, rfl, hi, rfl, B, rfl, hi, fun p hp => ?_⟩
    have k7 := Kd.new (F := []) (o := .tup [.ref B.k, .ref B.o, .ref B.d]) hp
    refine ⟨_, rfl, _, _, _, rfl, k7.ins hi2, rfl, B2, rfl, k7.ins hi2, fun q hq => ?_⟩
    have k8 := Kd.new (F := []) (o := .tup [.ref B2.k, .ref B2.o, .ref B2.d]) hq
    have npq : p ≠ q := ne_of_none upd_same hq
    have k78 := k7.trans k8
    have kall : Kd F H _ := kk.trans k78.nil
    refine ⟨m.beq m2, ⟨p, q, _, _, rfl, rfl, npq, .inl (.inl (k8.tup upd_same)), .inl (.inl upd_same), rfl, fun i => [deq (fun x y => decide (x.2 = y.2)) m.kept m2.kept, deq (fun x y => decide (x = y)) m.out m2.out, deq (fun x y => decide (x.2 = y.2)) m.days m2.days].getD i true, ?_, ?_⟩, fun H9 k9 => ?_⟩
    · intro i x y hx hy
      match i, hx, hy with
      | 0, hx, hy =>
        cases hx
        cases hy
        refine .inl (dictB (fun p : Addr × Qn => V.ref p.1) (fun p : Addr × Qn => V.ref p.1) (fun x y => decide (x.2 = y.2)) ok.kk akk.symm (k78.frz (k6.frz (k5.frz (k4.frz (k3.frz (k2.frz g1)))))) (k78.frz (k6.frz (k5.frz g4))) fun w hw z hz => ?_)
        have hw' : aget m.kept w.1 = some w.2 := aget_of_mem ok.kk hw
        have q1 := (hB.qs w hw).keep kall
        have q2 := (hB2.qs _ (aget_some_mem hz)).keep kall
        obtain ⟨dx, t, i1, _⟩ := id q1
        obtain ⟨dy, t2, i2, _⟩ := id q2
        have f1 : m.q w.1 = some w.2.2 := by unfold Bk.q; rw [hw']; rfl
        have f2 : m2.q w.1 = some z.2 := by unfold Bk.q; rw [hz]; rfl
        exact ⟨w.2.1, z.1, dx, dy, _, _, rfl, rfl, i1, i2, w.2.2, z.2, q1, q2, (ok.nm _ _ f1).2, (ok2.nm _ _ f2).2, rfl⟩
      | 1, hx, hy =>
        cases hx
        cases hy
        refine .inr (dictB V.str V.str (fun x y => decide (x = y)) ok.kout aoo.symm (k78.frz (k6.frz (k5.frz (k4.frz (k3.frz g2))))) (k78.frz (k6.frz g5)) fun w hw z hz => ?_)
        have hw' : aget m.out w.1 = some w.2 := aget_of_mem ok.kout hw
        exact .inl ⟨w.2, z, rfl, rfl, strOk_text (ok.txt _ _ hw'), strOk_text (ok2.txt _ _ hz), rfl⟩
      | 2, hx, hy =>
        cases hx
        cases hy
        refine .inr (dictB (fun p : Addr × List Int => V.ref p.1) (fun p : Addr × List Int => V.ref p.1) (fun x y => decide (x.2 = y.2)) ok.kd add_.symm (k78.frz (k6.frz (k5.frz (k4.frz g3)))) (k78.frz g6) fun w hw z hz => ?_)
        exact .inr ⟨w.2.1, z.1, w.2.2, z.2, rfl, rfl, kall.lst (hB.ds w hw), kall.lst (hB2.ds _ (aget_some_mem hz)), rfl⟩
      | i + 3, hx, hy => simp at hx
    · show m.beq m2 = _
      unfold Bk.beq
      simp [List.range, List.range.loop]
    · have u : Kd [] _ H9 := (k78.trans (Kd.of_ext k9))
      have u6 := (show Kd [] (upd H5 B2.d (.frz o6 (.dK (kvOf (fun p : Addr × List Int => V.ref p.1) m2.days)))) H9 by rw [e6]; exact u).unlock c6
      have u5 := (show Kd [] (upd H4 B2.o (.frz o5 (.dK (kvOf V.str m2.out)))) _ by rw [e5]; exact u6).unlock c5
      have u4 := (show Kd [] (upd H3 B2.k (.frz o4 (.dK (kvOf (fun p : Addr × Qn => V.ref p.1) m2.kept)))) _ by rw [e4]; exact u5).unlock c4
      have u3 := (show Kd [] (upd H2 B.d (.frz o3 (.dK (kvOf (fun p : Addr × List Int => V.ref p.1) m.days)))) _ by rw [e3]; exact u4).unlock c3
      have u2 := (show Kd [] (upd H1 B.o (.frz o2 (.dK (kvOf V.str m.out)))) _ by rw [e2]; exact u3).unlock c2
      have u1 := (show Kd [] (upd H B.k (.frz o1 (.dK (kvOf (fun p : Addr × Qn => V.ref p.1) m.kept)))) _ by rw [e1]; exact u2).unlock hB.kk
      exact ⟨u.frz g6, u6.frz g5, u5.frz g4, u4.frz g3, u3.frz g2, u2.frz g1, k _ u1.ext⟩
end
end KB
/-! part KW10 -/
namespace KB
open PySem L2
section
variable {P : Program} {w : World} {K : PySem.W.Frag} {mg : Str → Option Value} {base : Heap} {A : Ads}
theorem pick3 (k : Int) : ∃ M : Int, atI [V.int 2147483629, V.int 2147483587, V.int 2147483579] (k % 3) = some (.int M) ∧ 0 < M ∧ M ≤ 2147483629 := by
  have h : k % 3 = 0 ∨ k % 3 = 1 ∨ k % 3 = 2 := by omega
  rcases h with h | h | h
  · rw [h]; exact ⟨_, rfl, by decide, by decide⟩
  · rw [h]; exact ⟨_, rfl, by decide, by decide⟩
  · rw [h]; exact ⟨_, rfl, by decide, by decide⟩
theorem lt64 {i : Int} (h0 : 0 ≤ i) (h1 : i < 1000000000000) : -(2 ^ 64) < i ∧ i < 2 ^ 64 := by
  have : (2 : Int) ^ 64 = 18446744073709551616 := by decide
  omega
theorem abs64 {i : Int} (h0 : 0 ≤ i) (h1 : i < 1000000000000) : i.natAbs < 2 ^ 64 := by
  have : (2 : Nat) ^ 64 = 18446744073709551616 := by decide
  omega
theorem stg {H : Hp} {st : Addr} {l own other at_ : Int} (h : H st = some (.dK (stL l own other at_))) (n : Str) : DGet H st (.str n) (valV (stL l own other at_) (Sum.inr n)) := DGet.k (k := Sum.inr n) h
theorem ok_w_mixed (T : Txt K mg A) : FnOk P w K mg base CX0 1 A.a_w_mixed A.d_w_mixed P_w_mixed (sp_w_mixed) := by
  have nd := sc_w_mixed.nd
  refine T.F_w_mixed.ok sc_w_mixed (fun vs H Q E h => ?_) (fun cdv Ar outer s H vs Q E hr h => ?_)
  · obtain ⟨c, k, rfl, _⟩ := h
    rfl
  · obtain ⟨c, k, rfl, k0, k1, kk⟩ := h
    have hu := hu_of hr
    refine ⟨_, (pss_cons (ps_set (i := 2) nd rfl (Or.inl rfl) (pe_op op_add (pe_op op_add (pe_op op_mod (pv 0) (pe_ix ix_list (pe_lst (pa_cons (pe_int) (pa_cons (pe_int) (pa_cons (pe_int) pa_nil)))) (pe_op op_mod (pv 1) (pe_int)) (fun _ _ => rfl))) (pe_op op_mul (pe_int) (pv 1))) (pe_int)))
      (pss_one (ps_ret (pe_op op_mod (pe_op op_mul (pe_op op_mod (pe_op op_pow (pv 2) (pe_int)) (pe_int)) (pe_op op_add (pe_int) (pe_op op_mul (pe_int) (pv 1)))) (pe_int))))), ?_⟩
    refine ⟨_, rfl, by (show 3 ≤ sizeLine; decide), fun p hp => ?_⟩
    obtain ⟨M, hM, M0, M1⟩ := pick3 k
    have m0 : 0 ≤ c % M := Int.emod_nonneg _ (by omega)
    have m1 : c % M < M := Int.emod_lt_of_pos _ M0
    refine ⟨_, rfl, k, 3, rfl, rfl, (by show (0 : Int) < _; decide), p, _, k % 3, _, rfl, rfl, SqL.of upd_same, hM, c, M, rfl, rfl, M0, _, rfl, 104729, k, rfl, rfl, .inl (by decide), _, _, rfl, rfl, _, 17, rfl, rfl, ?_⟩
    refine ⟨_, rfl, _, 3, rfl, rfl, ⟨by decide, by decide, abs64 (by omega) (by omega)⟩, _, 2147483647, rfl, rfl, (by show (0 : Int) < _; decide), _, rfl, 2, k, rfl, rfl, .inl (by decide), 48271, _, rfl, rfl, _, _, rfl, rfl, .inl (lt64 ?_ ?_), _, 2147483629, rfl, rfl, (by show (0 : Int) < _; decide), ?_⟩
    · exact Int.emod_nonneg _ (by decide)
    · exact Int.lt_trans (Int.emod_lt_of_pos _ (by decide)) (by decide)
    · exact kk _ _ (.new hp) (Int.emod_nonneg _ (by decide)) (Int.emod_lt_of_pos _ (by decide))
theorem cut_two (L : List Int) (h : 2 ≤ L.length) : ∃ x y : Int, cutV (L.map V.int) none (some 2) = [.int x, .int y] := by
  match L, h with
  | x :: y :: r, h =>
    refine ⟨x, y, ?_⟩
    have e1 : HT.sIx (List.map V.int (x :: y :: r)).length 0 none = 0 := rfl
    have e2 : HT.sIx (List.map V.int (x :: y :: r)).length (List.map V.int (x :: y :: r)).length (some 2) = 2 := by
      unfold HT.sIx
      simp
    unfold cutV
    rw [e1, e2]
    rfl
theorem ok_w_begun (T : Txt K mg A) : FnOk P w K mg base CX0 1 A.a_w_begun A.d_w_begun P_w_begun (sp_w_begun K) := by
  have nd := sc_w_begun.nd
  refine T.F_w_begun.ok sc_w_begun (fun vs H Q E h => ?_) (fun cdv Ar outer s H vs Q E hr h => ?_)
  · obtain ⟨a, ns, k, rfl, _⟩ := h
    rfl
  · obtain ⟨a, ns, k, rfl, hs, hl, k0, k1, kk⟩ := h
    have hu := hu_of hr
    refine ⟨_, (pss_cons (ps_asg (pe_slice sl_list (pe_op op_cat (pe_slice sl_list (pv 0) (po_some (pv 1)) (po_some (pe_op op_add (pv 1) (pe_int)))) (pe_lst (pa_cons (pe_int) (pa_cons (pe_int) pa_nil)))) po_none (po_some (pe_int))) (pg_unl rfl (pgs_cons (pg_name (i := 2) nd rfl (Or.inl rfl)) (pgs_cons (pg_name (i := 3) nd rfl (Or.inl rfl)) pgs_nil))))
      (pss_one (ps_ret (pe_disp (pps_cons (pe_str) (pe_ifExp (pt_cmpR op_ge (pv 2) (pe_op op_pow (pe_int) (pe_int)) (nomark _)) (pv 2) (pe_int)) (pps_cons (pe_str) (pv 2) (pps_cons (pe_str) (pv 3) (pps_cons (pe_str) (pe_op op_mul (pe_int) (pv 1)) pps_nil)))) (by rfl) (by rfl) (fun z => by cases z) (by decide))))), ?_⟩
    refine ⟨_, rfl, _, rfl, k, rfl, _, rfl, k, 2, rfl, rfl, _, rfl, a, _, rfl, hs, fun p1 hp1 => ⟨by (show 2 ≤ sizeLine; decide), fun p2 hp2 => ?_⟩⟩
    obtain ⟨L, eL, hL⟩ : ∃ L : List Int, cutV (ns.map V.int) (some k) (some (k + 2)) = L.map V.int ∧ L.length ≤ 63 := by
      refine ⟨(ns.drop (HT.sIx (ns.map V.int).length 0 (some k))).take (HT.sIx (ns.map V.int).length (ns.map V.int).length (some (k + 2)) - HT.sIx (ns.map V.int).length 0 (some k)), ?_, ?_⟩
      · unfold cutV
        rw [List.map_take, List.map_drop]
      · rw [List.length_take, List.length_drop]
        omega
    rw [eL]
    have e1 := Kd.new (F := []) (o := .lst (L.map V.int)) hp1
    rw [eL] at hp2
    have e2 := Kd.new (F := []) (o := .lst [.int 5, .int 7]) hp2
    refine ⟨p1, p2, _, _, rfl, rfl, e2.lst upd_same, upd_same, ?_, fun p3 hp3 => ⟨2, rfl, p3, _, rfl, SqL.of upd_same, fun p4 hp4 => ?_⟩⟩
    · rw [List.length_map]
      have : 65 < sizeLine := by decide
      show L.length + 2 ≤ _
      omega
    have eM : L.map V.int ++ [.int 5, .int 7] = (L ++ [5, 7]).map V.int := by rw [List.map_append]; rfl
    obtain ⟨x, y, exy⟩ := cut_two (L ++ [5, 7]) (by rw [List.length_append]; show 2 ≤ L.length + 2; omega)
    rw [eM] at hp4
    rw [eM, exy]
    have e3 := (e1.trans e2).trans (Kd.new (o := .lst ((L ++ [5, 7]).map V.int)) hp3)
    have e4 := e3.trans (Kd.new (o := .lst [.int x, .int y]) hp4)
    refine ⟨p4, _, rfl, SqL.of upd_same, rfl, _, _, rfl, _, _, rfl, rfl, ?_⟩
    intro p5 hp5
    have e5 := e4.trans (Kd.new (o := .dK []) hp5)
    have hn := e4.back _ hp5
    refine ⟨_, rfl, 10, 18, rfl, rfl, ⟨by decide, by decide, by decide⟩, _, _, rfl, rfl, _, rfl, iteB (fun _ => ?_) (fun _ => ?_)⟩
    · refine ⟨_, rfl, _, rfl, _, rfl, _, rfl, 64, k, rfl, rfl, .inl (by decide), upd_same, [(Sum.inr "left", .int x), (Sum.inr "own", .int x), (Sum.inr "other", .int y), (Sum.inr "at", .int (64 * k))], rfl, (by show 4 ≤ 15; decide), ?_⟩
      exact kk _ p5 (e5.mut hn) hn ⟨x, x, y, 64 * k, upd_same, by omega, by omega⟩
    · refine ⟨_, rfl, _, rfl, _, rfl, 64, k, rfl, rfl, .inl (by decide), upd_same, [(Sum.inr "left", .int 0), (Sum.inr "own", .int x), (Sum.inr "other", .int y), (Sum.inr "at", .int (64 * k))], rfl, (by show 4 ≤ 15; decide), ?_⟩
      exact kk _ p5 (e5.mut hn) hn ⟨0, x, y, 64 * k, upd_same, by omega, by omega⟩
theorem ok_w_take (T : Txt K mg A) : FnOk P w K mg base CX0 2 A.a_w_take A.d_w_take P_w_take (sp_w_take) := by
  have nd := sc_w_take.nd
  refine T.F_w_take.ok sc_w_take (fun vs H Q E h => ?_) (fun cdv Ar outer s H vs Q E hr h => ?_)
  · obtain ⟨st, many, n, rfl, _⟩ := h
    rfl
  · obtain ⟨st, many, n, rfl, m0, m1, hst, hn, k⟩ := h
    have hu := hu_of hr
    refine ⟨_, (pss_cons (ps_if (pt_cmpR op_gt (pe_dget hu (pv 0) (pe_str) (fun _ _ => rfl)) (pe_int) (nomark _))
        (pss_cons (ps_set (i := 2) nd rfl (Or.inl rfl) (pe_op op_mod (pe_dget hu (pv 0) (pe_str) (fun _ _ => rfl)) (pv 1)))
          (pss_cons (ps_dput hu (pv 0) (pe_str) (pe_op op_fdiv (pe_dget hu (pv 0) (pe_str) (fun _ _ => rfl)) (pv 1)) rfl)
          (pss_one (ps_ret (pv 2)))))
        pss_nil)
      (pss_cons (ps_dput hu (pv 0) (pe_str) (pe_op op_add (pe_dget hu (pv 0) (pe_str) (fun _ _ => rfl)) (pe_int)) rfl)
      (pss_cons (ps_set (i := 3) nd rfl (Or.inl rfl) (pe_op op_add (pe_op op_mul (pe_call (ok_w_mixed T) (hr.mono (by decide)) rfl T.m_w_mixed T.F_w_mixed.kp T.b_w_mixed .nil pass0 (pa_cons (pe_dget hu (pv 0) (pe_str) (fun _ _ => rfl)) (pa_cons (pe_dget hu (pv 0) (pe_str) (fun _ _ => rfl)) pa_nil))) (pe_int)) (pe_call (ok_w_mixed T) (hr.mono (by decide)) rfl T.m_w_mixed T.F_w_mixed.kp T.b_w_mixed .nil pass0 (pa_cons (pe_dget hu (pv 0) (pe_str) (fun _ _ => rfl)) (pa_cons (pe_op op_add (pe_dget hu (pv 0) (pe_str) (fun _ _ => rfl)) (pe_int)) pa_nil)))))
      (pss_one (ps_ret (pe_op op_mod (pe_op op_fdiv (pv 3) (pe_int)) (pv 1))))))), ?_⟩
    obtain ⟨l, own, other, at_, h1, h2, h3⟩ := hst
    refine ⟨_, rfl, st, _, rfl, stg h1 "left", _, _, rfl, rfl, _, rfl, iteB (fun hl => ?_) (fun hl => ?_)⟩
    · have hl : 0 < l := of_decide_eq_true hl
      refine ⟨_, rfl, st, _, rfl, stg h1 "left", _, rfl, l, many, rfl, rfl, m0, ?_⟩
      refine ⟨_, rfl, st, _, rfl, stg h1 "left", _, rfl, l, many, rfl, rfl, ⟨m0, by omega⟩, _, rfl, st, _, rfl, DPut.k (k := Sum.inr "left") h1 (by show 4 < sizeLine; decide), ?_⟩
      refine ⟨_, rfl, k _ _ (.put h1 (List.mem_singleton.mpr rfl)) (Int.emod_nonneg _ (by omega)) (Int.emod_lt_of_pos _ m0) ⟨l / many, own, other, at_, ?_, h2, by omega⟩⟩
      exact upd_same
    · refine ⟨_, rfl, st, _, rfl, stg h1 "at", _, _, rfl, rfl, _, rfl, st, _, rfl, DPut.k (k := Sum.inr "at") h1 (by show 4 < sizeLine; decide), ?_⟩
      have h1' : (upd H st (.dK (stL l own other (at_ + 1)))) st = some (.dK (stL l own other (at_ + 1))) := upd_same
      have k1 : Kd [st] H (upd H st (.dK (stL l own other (at_ + 1)))) := .put h1 (List.mem_singleton.mpr rfl)
      refine ⟨_, rfl, st, _, rfl, stg h1' "own", _, rfl, st, _, rfl, stg h1' "at", own, at_ + 1, rfl, by omega, by omega, fun H2 r2 k2 r20 r21 => ?_⟩
      have h2' := k2.dK h1' (fun z => nomatch z)
      refine ⟨r2, 2147483579, rfl, rfl, .inl (lt64 r20 (by omega)), ?_⟩
      refine ⟨_, rfl, st, _, rfl, stg h2' "other", _, rfl, st, _, rfl, stg h2' "at", _, _, rfl, rfl, other, at_ + 1 + 9001, rfl, by omega, by omega, fun H3 r3 k3 r30 r31 => ?_⟩
      have h3' := k3.dK h2' (fun z => nomatch z)
      refine ⟨_, _, rfl, rfl, ?_⟩
      refine ⟨_, rfl, _, 11, rfl, rfl, ⟨by decide, by decide⟩, _, rfl, _, many, rfl, rfl, m0, ?_⟩
      exact k _ _ ((k1.trans k2.nil).trans k3.nil) (Int.emod_nonneg _ (by omega)) (Int.emod_lt_of_pos _ m0) ⟨l, own, other, at_ + 1, h3', by omega, by omega⟩
end
end KB
/-! part KW11 -/
namespace KB
open PySem L2
section
variable {P : Program} {w : World} {K : PySem.W.Frag} {mg : Str → Option Value} {base : Heap} {A : Ads}
def someL : List Str := ["yes", "no", "7", "- 1", "a  b", "~", "A:b, c", "never"]
theorem someL_ok : ∀ z ∈ someL, TextOk z := by decide +kernel
theorem someL_nd : someL.Nodup := by decide +kernel
def ansAt (f s : Int) (k : Nat) : Str := (someL[((f + s * (0 + (k : Int))) % 8).toNat]?).getD Str.empty
theorem ansAt_get (f s : Int) (k : Nat) : someL[((f + s * (0 + (k : Int))) % 8).toNat]? = some (ansAt f s k) := by
  have h0 : 0 ≤ (f + s * (0 + (k : Int))) % 8 := Int.emod_nonneg _ (by decide)
  have h1 : (f + s * (0 + (k : Int))) % 8 < 8 := Int.emod_lt_of_pos _ (by decide)
  have hl : ((f + s * (0 + (k : Int))) % 8).toNat < someL.length := by show _ < 8; omega
  unfold ansAt
  rw [List.getElem?_eq_getElem hl]
  rfl
theorem atI_some {α : Type} {l : List Str} {i : Int} (h0 : 0 ≤ i) (h1 : i < (l.length : Int)) : ∃ z, z ∈ l ∧ atI (l.map V.str) i = some (.str z) := by
  obtain ⟨j, rfl⟩ : ∃ j : Nat, i = (j : Int) := ⟨i.toNat, by omega⟩
  have hj : j < l.length := by omega
  refine ⟨l[j], List.getElem_mem hj, ?_⟩
  exact atI_nat (by rw [List.getElem?_map, List.getElem?_eq_getElem hj]; rfl)
theorem stride_of {r : Int} (h0 : 0 ≤ r) (h1 : r < 4) : ∃ s : Int, atI [V.int 1, V.int 3, V.int 5, V.int 7] r = some (.int s) ∧ (s = 1 ∨ s = 3 ∨ s = 5 ∨ s = 7) := by
  have h : r = 0 ∨ r = 1 ∨ r = 2 ∨ r = 3 := by omega
  rcases h with rfl | rfl | rfl | rfl
  · exact ⟨1, rfl, by omega⟩
  · exact ⟨3, rfl, by omega⟩
  · exact ⟨5, rfl, by omega⟩
  · exact ⟨7, rfl, by omega⟩
theorem ans_ok {f s : Int} {n : Nat} (h2 : 2 ≤ n) (h6 : n ≤ 6) (hs : s = 1 ∨ s = 3 ∨ s = 5 ∨ s = 7) : AnsOk ((List.range n).map (ansAt f s)) := by
  refine ⟨by rw [List.length_map, List.length_range]; exact h2, by rw [List.length_map, List.length_range]; exact h6, ?_, ?_⟩
  · rw [List.Nodup, List.pairwise_map]
    refine (List.Pairwise.and_mem.mp (List.pairwise_lt_range (n := n))).imp ?_
    intro i j h
    have hj := List.mem_range.mp h.2.1
    have hij := h.2.2
    intro e
    have e1 := ansAt_get f s i
    have e2 := ansAt_get f s j
    rw [← e] at e2
    have h1 : (f + s * (0 + (i : Int))) % 8 < 8 := Int.emod_lt_of_pos _ (by decide)
    have h0 : 0 ≤ (f + s * (0 + (i : Int))) % 8 := Int.emod_nonneg _ (by decide)
    have h0' : 0 ≤ (f + s * (0 + (j : Int))) % 8 := Int.emod_nonneg _ (by decide)
    have e3 := (List.getElem?_inj (by show _ < 8; omega) someL_nd).mp (e1.trans e2.symm)
    rcases hs with rfl | rfl | rfl | rfl <;> omega
  · intro z hz
    obtain ⟨k, _, rfl⟩ := List.mem_map.mp hz
    exact someL_ok _ (List.mem_of_getElem? (ansAt_get f s k))
theorem ok_w_row (T : Txt K mg A) : FnOk P w K mg base CX0 3 A.a_w_row A.d_w_row P_w_row (sp_w_row) := by
  have nd := sc_w_row.nd
  refine T.F_w_row.ok sc_w_row (fun vs H Q E h => ?_) (fun cdv Ar outer s H vs Q E hr h => ?_)
  · obtain ⟨st, label, kd, ks, n, rfl, _⟩ := h
    rfl
  · obtain ⟨st, label, kd, ks, n, rfl, hlab, hkd, hk3, hks, hst, hn, kk⟩ := h
    have hu := hu_of hr
    refine ⟨_, (pss_cons (ps_set (i := 3) nd rfl (Or.inr rfl) (pe_lst (pa_cons (pe_str) (pa_cons (pe_str) (pa_cons (pe_str) (pa_cons (pe_str) (pa_cons (pe_str) (pa_cons (pe_str) (pa_cons (pe_str) (pa_cons (pe_str) pa_nil))))))))))
      (pss_cons (ps_asg (pe_tup (pa_cons (pe_op op_add (pe_int) (pe_call (ok_w_take T) (hr.mono (by decide)) rfl T.m_w_take T.F_w_take.kp T.b_w_take .nil pass0 (pa_cons (pv 0) (pa_cons (pe_int) pa_nil)))) (pa_cons (pe_call (ok_w_take T) (hr.mono (by decide)) rfl T.m_w_take T.F_w_take.kp T.b_w_take .nil pass0 (pa_cons (pv 0) (pa_cons (pe_int) pa_nil))) (pa_cons (pe_ix ix_list (pe_lst (pa_cons (pe_int) (pa_cons (pe_int) (pa_cons (pe_int) (pa_cons (pe_int) pa_nil))))) (pe_call (ok_w_take T) (hr.mono (by decide)) rfl T.m_w_take T.F_w_take.kp T.b_w_take .nil pass0 (pa_cons (pv 0) (pa_cons (pe_int) pa_nil))) (fun _ _ => rfl)) pa_nil)))) (pg_tup rfl (pgs_cons (pg_name (i := 4) nd rfl (Or.inl rfl)) (pgs_cons (pg_name (i := 5) nd rfl (Or.inr rfl)) (pgs_cons (pg_name (i := 6) nd rfl (Or.inr rfl)) pgs_nil)))))
      (pss_cons (ps_set (i := 7) nd rfl (Or.inl rfl) (pe_callTy call_tuple_ofF (by rfl) T.m_tuple (by decide +kernel) (pa_cons (pe_lc (own := [("_law_k", 11)]) (g := gName 11) (tt := tYes) rfl nd (pi_range1 rfl T.m_range (pa_cons (pv 4) pa_nil)) (blkOk_by (N := N_w_row) (sc := defScope s_w_row) (by decide +kernel)) (fun _ _ _ _ _ => (pg_name (i := 11) nd rfl (Or.inl rfl))) (fun _ _ _ _ _ => pts_nil) (fun _ _ _ _ _ => (pe_ix (ix_listK K rfl) (pv 3) (pe_op op_mod (pe_op op_add (pv 5) (pe_op op_mul (pv 6) (pv 11))) (pe_int)) (fun _ _ => rfl)))) pa_nil)))
      (pss_cons (ps_set (i := 8) nd rfl (Or.inl rfl) (pe_ix ix_list (pe_op op_cat (pv 2) (pe_lst (pa_cons (pe_str) (pa_cons (pe_str) pa_nil)))) (pe_call (ok_w_take T) (hr.mono (by decide)) rfl T.m_w_take T.F_w_take.kp T.b_w_take .nil pass0 (pa_cons (pv 0) (pa_cons (pe_op op_add (pe_callB call_len_seq (by rfl) T.m_len PySem.boot_len (pa_cons (pv 2) pa_nil)) (pe_int)) pa_nil))) (fun _ _ => rfl)))
      (pss_cons (ps_par (i := 9) (j := 10) rfl nd rfl rfl (by decide) rfl rfl (pa_cons (pe_ix ix_list (pv 2) (pe_call (ok_w_take T) (hr.mono (by decide)) rfl T.m_w_take T.F_w_take.kp T.b_w_take .nil pass0 (pa_cons (pv 0) (pa_cons (pe_callB call_len_seq (by rfl) T.m_len PySem.boot_len (pa_cons (pv 2) pa_nil)) pa_nil))) (fun _ _ => rfl)) (pa_cons (pe_call (ok_w_take T) (hr.mono (by decide)) rfl T.m_w_take T.F_w_take.kp T.b_w_take .nil pass0 (pa_cons (pv 0) (pa_cons (pv 4) pa_nil))) pa_nil)) rfl)
      (pss_one (ps_ret (pe_tup (pa_cons (pv 1) (pa_cons (pv 9) (pa_cons (pv 7) (pa_cons (pv 10) (pa_cons (pe_op op_add (pe_int) (pe_call (ok_w_take T) (hr.mono (by decide)) rfl T.m_w_take T.F_w_take.kp T.b_w_take .nil pass0 (pa_cons (pv 0) (pa_cons (pe_int) pa_nil)))) (pa_cons (pe_op op_add (pe_int) (pe_call (ok_w_take T) (hr.mono (by decide)) rfl T.m_w_take T.F_w_take.kp T.b_w_take .nil pass0 (pa_cons (pv 0) (pa_cons (pe_int) pa_nil)))) (pa_cons (pv 8) pa_nil))))))))))))))), ?_⟩
    refine ⟨by (show 8 ≤ sizeLine; decide), fun ps hps => ?_⟩
    have a1 : Kd [st] H (upd H ps (.lst (someL.map V.str))) := .new hps
    have hs1 : (upd H ps (.lst (someL.map V.str))) ps = some (.lst (someL.map V.str)) := upd_same
    have st1 := hst.keep (Kd.new (F := []) (o := .lst (someL.map V.str)) hps) (fun z => nomatch z)
    refine ⟨_, rfl, st, 5, n, rfl, by decide, by decide, st1, by omega, fun H1 r1 k1 r10 r11 st2 => ⟨2, r1, rfl, rfl, ?_⟩⟩
    refine ⟨_, rfl, st, 8, _, rfl, by decide, by decide, st2, by omega, fun H2 r2 k2 r20 r21 st3 => ?_⟩
    refine ⟨by (show 4 ≤ sizeLine; decide), fun pl hpl => ?_⟩
    have b1 := Kd.new (F := []) (o := .lst [.int 1, .int 3, .int 5, .int 7]) hpl
    refine ⟨_, rfl, st, 4, _, rfl, by decide, by decide, st3.keep b1 (fun z => nomatch z), by omega, fun H3 r3 k3 r30 r31 st4 => ?_⟩
    obtain ⟨sd, hsd, hsd4⟩ := stride_of r30 r31
    refine ⟨pl, _, r3, _, rfl, rfl, SqL.of (k3.lst upd_same), hsd, by (show 3 ≤ sizeLine; decide), fun pt hpt => ?_⟩
    have b2 := Kd.new (F := []) (o := .tup [.int (2 + r1), .int r2, .int sd]) hpt
    refine ⟨pt, _, rfl, .inl (.inl upd_same), rfl, _, _, rfl, _, _, rfl, _, _, rfl, rfl, ?_⟩
    have ka : Kd [st] H (upd H3 pt (.tup [.int (2 + r1), .int r2, .int sd])) := ((((a1.trans k1).trans k2).trans b1.nil).trans k3).trans b2.nil
    have kb : Kd [st] (upd H ps (.lst (someL.map V.str))) (upd H3 pt (.tup [.int (2 + r1), .int r2, .int sd])) := (((k1.trans k2).trans b1.nil).trans k3).trans b2.nil
    have st5 := st4.keep b2 (fun z => nomatch z)
    have hs5 := kb.lst hs1
    generalize upd H3 pt (.tup [.int (2 + r1), .int r2, .int sd]) = H4 at ka kb st5 hs5 ⊢
    -- the answers
    refine ⟨_, rfl, 2 + r1, rfl, by omega, by omega, fun D hD => ?_⟩
    obtain ⟨N, hN⟩ : ∃ N : Nat, (2 + r1).toNat = N := ⟨_, rfl⟩
    rw [hN]
    refine lcR N [] (fun k => .str (ansAt r2 sd k)) (fun _ => true) hD (Nat.lt_trans (show N < 7 by omega) (by decide)) (fun c H5 R hc k5 kt kf => ⟨rfl, ?_⟩) (fun H5 k5 h5 => ?_)
    · refine ⟨_, rfl, _, rfl, _, rfl, _, rfl, sd, _, rfl, rfl, .inl (by omega), r2, _, rfl, rfl, _, 8, rfl, rfl, (by show (0 : Int) < _; decide), ps, _, _, _, rfl, rfl, SqL.of (k5.lst hs5), ?_, kt _ rfl .refl⟩
      have h0 : 0 ≤ (r2 + sd * (0 + (c : Int))) % 8 := Int.emod_nonneg _ (by decide)
      have e : (r2 + sd * (0 + (c : Int))) % 8 = ((((r2 + sd * (0 + (c : Int))) % 8).toNat : Nat) : Int) := by omega
      have g := atI_nat (xs := someL.map V.str) (j := ((r2 + sd * (0 + (c : Int))) % 8).toNat) (v := .str (ansAt r2 sd c)) (by rw [List.getElem?_map, ansAt_get]; rfl)
      rw [← e] at g
      exact g
    have eA : ((List.range N).filter fun _ => true).map (fun k => V.str (ansAt r2 sd k)) = ((List.range N).map (ansAt r2 sd)).map V.str := by
      rw [filter_true, List.map_map]
      rfl
    rw [eA] at h5
    have hans : AnsOk ((List.range N).map (ansAt r2 sd)) := ans_ok (by omega) (by omega) hsd4
    have hlenA : ((List.range N).map (ansAt r2 sd)).length = N := by rw [List.length_map, List.length_range]
    generalize (List.range N).map (ansAt r2 sd) = ans at h5 hans hlenA ⊢
    refine ⟨D, _, rfl, SqL.of h5, fun t o ht ho1 ho2 => ?_⟩
    have hta : TupA (upd H5 t (.frz o (.tup (ans.map V.str)))) t (ans.map V.str) := ⟨o, upd_same, ho1, ho2⟩
    have kc : Kd [st] H (upd H5 t (.frz o (.tup (ans.map V.str)))) := (ka.trans k5.nil).trans (Kd.new (F := []) ht).nil
    have st6 := (st5.keep k5 (fun z => nomatch z)).keep (Kd.new (F := []) (o := .frz o (.tup (ans.map V.str))) ht) (fun z => nomatch z)
    generalize upd H5 t (.frz o (.tup (ans.map V.str))) = H6 at hta kc st6 ⊢
    -- the clan
    have hkd6 := kc.lst hkd
    refine ⟨_, rfl, by (show 2 ≤ sizeLine; decide), fun pe hpe => ?_⟩
    have c1 := Kd.new (F := []) (o := .lst [.str "", .str ""]) hpe
    refine ⟨kd, pe, _, _, rfl, rfl, c1.lst hkd6, upd_same, (by rw [List.length_map, hk3]; show 5 ≤ sizeLine; decide), fun pc hpc => ?_⟩
    have c2 := Kd.new (F := []) (o := .lst (ks.map V.str ++ [.str "", .str ""])) hpc
    have c12 := c1.trans c2
    refine ⟨_, rfl, _, rfl, kd, _, rfl, .inl (SqL.of (c12.lst hkd6)), _, 2, rfl, rfl, ?_⟩
    refine ⟨st, ((ks.map V.str).length : Nat) + 2, _, rfl, by omega, by rw [List.length_map, hk3]; decide, st6.keep c12 (fun z => nomatch z), by omega, fun H7 r7 k7 r70 r71 st7 => ?_⟩
    rw [List.length_map, hk3] at r71
    have eK : ks.map V.str ++ [.str "", .str ""] = (ks ++ [("" : Str), ("" : Str)]).map V.str := by rw [List.map_append]; rfl
    obtain ⟨clan, hclan, hat⟩ := atI_some (α := Unit) (l := ks ++ [("" : Str), ("" : Str)]) (i := r7) r70 (by rw [List.length_append, hk3]; exact r71)
    rw [← eK] at hat
    refine ⟨pc, _, r7, _, rfl, rfl, SqL.of (k7.lst upd_same), hat, ?_⟩
    have kd_ : Kd [st] H H7 := (kc.trans c12.nil).trans k7
    have hkd7 := kd_.lst hkd
    have hclan' : clan = "" ∨ clan ∈ ks := by
      rcases List.mem_append.mp hclan with h | h
      · exact .inr h
      · simp only [List.mem_cons, List.not_mem_nil, or_false, or_self] at h
        exact .inl h
    have hta7 := k7.tupA (c12.tupA hta)
    -- the field, the hit
    refine ⟨_, rfl, _, rfl, _, rfl, kd, _, rfl, .inl (SqL.of hkd7), st, ((ks.map V.str).length : Nat), _, rfl, by rw [List.length_map, hk3]; decide, by rw [List.length_map, hk3]; decide, st7, by omega, fun H8 r8 k8 r80 r81 st8 => ?_⟩
    rw [List.length_map] at r81
    obtain ⟨field, hfield, hatf⟩ := atI_some (α := Unit) (l := ks) (i := r8) r80 r81
    refine ⟨kd, _, r8, _, rfl, rfl, SqL.of (k8.lst hkd7), hatf, ?_⟩
    refine ⟨_, rfl, _, rfl, st, 2 + r1, _, rfl, by omega, by omega, st8, by omega, fun H9 r9 k9 r90 r91 st9 => ?_⟩
    refine ⟨_, _, rfl, ?_⟩
    refine ⟨_, rfl, _, rfl, _, rfl, _, rfl, ?_⟩
    refine ⟨_, rfl, st, 9, _, rfl, by decide, by decide, st9, by omega, fun H10 r10' k10 r100 r101 st10 => ⟨1, r10', rfl, rfl, ?_⟩⟩
    refine ⟨_, rfl, st, 9, _, rfl, by decide, by decide, st10, by omega, fun H11 r11' k11 r110 r111 st11 => ⟨1, r11', rfl, rfl, ?_⟩⟩
    refine ⟨_, rfl, by (show 7 ≤ sizeLine; decide), fun p hp => ?_⟩
    have ke : Kd [st] H H11 := (((kd_.trans k8).trans k9).trans k10).trans k11
    have knew := Kd.new (F := []) (o := .tup (rowV t ⟨label, field, ans, r9, 1 + r10', 1 + r11', clan⟩)) hp
    have ok : QOk ⟨label, field, ans, r9, 1 + r10', 1 + r11', clan⟩ := ⟨hlab, hks _ hfield, hans, r90, by show r9 ≤ (ans.length : Int) - 1; rw [hlenA]; omega, by show 1 ≤ 1 + r10'; omega, by show 1 + r10' ≤ 9; omega, by show 1 ≤ 1 + r11'; omega, by show 1 + r11' ≤ 9; omega, hclan'.imp id (hks _)⟩
    exact kk _ p t ⟨label, field, ans, r9, 1 + r10', 1 + r11', clan⟩ (ke.trans knew.nil) (ke.back _ hp) upd_same (knew.tupA (k11.tupA (k10.tupA (k9.tupA (k8.tupA hta7))))) ok rfl hfield hclan' ((st11.keep knew (fun z => nomatch z)).mono (by omega))
end
end KB
/-! part KW12 -/
namespace KB
open PySem L2
section
variable {P : Program} {w : World} {K : PySem.W.Frag} {mg : Str → Option Value} {base : Heap} {A : Ads}
theorem StAt.neNew {H : Hp} {st p : Addr} {n : Nat} (h : StAt H st n) (hp : H p = none) : p ≠ st := by
  obtain ⟨l1, l2, l3, l4, hh, _⟩ := h
  exact (ne_of_none hh hp).symm
theorem StAt.upd {H : Hp} {st p : Addr} {n : Nat} {o : HO} (h : StAt H st n) (hp : p ≠ st) : StAt (upd H p o) st n := by
  obtain ⟨l1, l2, l3, l4, hh, h4⟩ := h
  exact ⟨l1, l2, l3, l4, by rw [upd_ne hp.symm]; exact hh, h4⟩
theorem ok_w_names (T : Txt K mg A) : FnOk P w K mg base CX0 3 A.a_w_names A.d_w_names P_w_names (sp_w_names) := by
  have nd := sc_w_names.nd
  refine T.F_w_names.ok sc_w_names (fun vs H Q E h => ?_) (fun cdv Ar outer s H vs Q E hr h => ?_)
  · obtain ⟨st, many, n, rfl, _⟩ := h
    rfl
  · obtain ⟨st, many, n, rfl, hm1, hm8, hst, hn, kk⟩ := h
    have hu := hu_of hr
    refine ⟨_, PSs.nox (pss_cons (ps_set (i := 2) nd rfl (Or.inr rfl) (pe_str))
      (pss_cons (ps_set (i := 3) nd rfl (Or.inl rfl) (pe_lst (pa_cons (pe_str) (pa_cons (pe_str) (pa_cons (pe_str) (pa_cons (pe_str) (pa_cons (pe_str) (pa_cons (pe_str) (pa_cons (pe_str) (pa_cons (pe_str) (pa_cons (pe_str) (pa_cons (pe_str) (pa_cons (pe_str) (pa_cons (pe_str) (pa_cons (pe_str) (pa_cons (pe_str) pa_nil))))))))))))))))
      (pss_cons (ps_set (i := 3) nd rfl (Or.inl rfl) (pe_op op_cat (pv 3) (pe_lst (pa_cons (pe_str) (pa_cons (pe_str) (pa_cons (pe_str) (pa_cons (pe_str) (pa_cons (pe_str) pa_nil))))))))
      (pss_cons (ps_par3 (i := 4) (j := 5) (l := 6) rfl nd rfl rfl rfl (by decide) (by decide) (by decide) rfl rfl rfl (pa_cons (pe_call (ok_w_take T) (hr.mono (by decide)) rfl T.m_w_take T.F_w_take.kp T.b_w_take .nil pass0 (pa_cons (pv 0) (pa_cons (pe_int) pa_nil))) (pa_cons (pe_call (ok_w_take T) (hr.mono (by decide)) rfl T.m_w_take T.F_w_take.kp T.b_w_take .nil pass0 (pa_cons (pv 0) (pa_cons (pe_int) pa_nil))) (pa_cons (pe_call (ok_w_take T) (hr.mono (by decide)) rfl T.m_w_take T.F_w_take.kp T.b_w_take .nil pass0 (pa_cons (pv 0) (pa_cons (pe_int) pa_nil))) pa_nil))) rfl)
      (pss_cons (ps_asg (pe_tup (pa_cons (pe_lc (own := [("_law_k", 9)]) (g := gName 9) (tt := tYes) rfl nd (pi_range1 rfl T.m_range (pa_cons (pe_int) pa_nil)) (blkOk_by (N := N_w_names) (sc := defScope s_w_names) (by decide +kernel)) (fun _ _ _ _ _ => (pg_name (i := 9) nd rfl (Or.inl rfl))) (fun _ _ _ _ _ => pts_nil) (fun _ _ _ _ _ => (pe_ix ix_str (pv 2) (pe_call (ok_w_take T) (hr.mono (by decide)) rfl T.m_w_take T.F_w_take.kp T.b_w_take .nil pass0 (pa_cons (pv 0) (pa_cons (pe_int) pa_nil))) (fun _ _ => rfl)))) (pa_cons (pe_lst pa_nil) pa_nil))) (pg_tup rfl (pgs_cons (pg_name (i := 7) nd rfl (Or.inl rfl)) (pgs_cons (pg_name (i := 8) nd rfl (Or.inr rfl)) pgs_nil))))
      (pss_cons (ps_for PassesOwn.never rfl (pi_range1 rfl T.m_range (pa_cons (pv 1) pa_nil)) (pg_name (i := 9) nd rfl (Or.inl rfl))
        (pss_cons (ps_set (i := 10) nd rfl (Or.inl rfl) (pe_join (pe_str) (pe_op op_cat (pe_slice sl_list (pv 7) po_none (po_some (pv 6))) (pe_lst (pa_cons (pe_ix ix_str (pv 2) (pe_op op_mod (pe_op op_add (pv 5) (pe_op op_mul (pe_int) (pv 9))) (pe_int)) (fun _ _ => rfl)) pa_nil)))))
          (pss_one (ps_expr (pe_bm PySem.F.plainAttrs_list PySem.F.slot_list_append PySem.F.type_list_append mt_append (pv 8) (pa_cons (pe_ix ix_list (pe_lst (pa_cons (pe_ix ix_list (pv 3) (pe_op op_mod (pe_op op_add (pv 5) (pe_op op_mul (pe_int) (pv 9))) (pe_int)) (fun _ _ => rfl)) (pa_cons (pe_join (pe_str) (pe_slice sl_list (pv 7) po_none (po_some (pe_op op_add (pv 9) (pe_int))))) (pa_cons (pv 10) pa_nil)))) (pv 4) (fun _ _ => rfl)) pa_nil))))))
      (pss_one (ps_ret (pe_lc (own := [("_law_k", 9)]) (g := gName 9) (tt := tYes) rfl nd (pi_range1 rfl T.m_range (pa_cons (pv 1) pa_nil)) (blkOk_by (N := N_w_names) (sc := defScope s_w_names) (by decide +kernel)) (fun _ _ _ _ _ => (pg_name (i := 9) nd rfl (Or.inl rfl))) (fun _ _ _ _ _ => pts_nil) (fun _ _ _ _ _ => (pe_bmK K rfl PySem.F.plainAttrs_list PySem.F.slot_list_pop PySem.F.type_list_pop mt_popAt (pv 8) (pa_cons (pe_call (ok_w_take T) (hr.mono (by decide)) rfl T.m_w_take T.F_w_take.kp T.b_w_take .nil pass0 (pa_cons (pv 0) (pa_cons (pe_callB (call_len_seqK K rfl) (by rfl) T.m_len PySem.boot_len (pa_cons (pv 8) pa_nil)) pa_nil))) pa_nil)))))))))))), ?_⟩
    refine ⟨by (show 14 ≤ sizeLine; decide), fun q1 hq1 => ?_⟩
    have a1 := Kd.new (F := []) (o := .lst ((ownL.take 14).map V.str)) hq1
    refine ⟨_, rfl, by (show 5 ≤ sizeLine; decide), fun q2 hq2 => ?_⟩
    have a2 := Kd.new (F := []) (o := .lst ((ownL.drop 14).map V.str)) hq2
    refine ⟨q1, q2, _, _, rfl, rfl, a2.lst upd_same, upd_same, by (show 19 ≤ sizeLine; decide), fun po hpo => ?_⟩
    have a3 := Kd.new (F := []) (o := .lst (ownL.map V.str)) hpo
    have ka := (a1.trans a2).trans a3
    have hown : (upd (upd (upd H q1 (.lst ((ownL.take 14).map V.str))) q2 (.lst ((ownL.drop 14).map V.str))) po (.lst (ownL.map V.str))) po = some (.lst (ownL.map V.str)) := upd_same
    have st1 := hst.keep ka (fun z => nomatch z)
    refine ⟨_, rfl, st, 3, n, rfl, by decide, by decide, st1, by omega, fun H1 way k1 w0 w3 st2 => ?_⟩
    refine ⟨_, rfl, st, 26, _, rfl, by decide, by decide, st2, by omega, fun H2 first k2 f0 f26 st3 => ?_⟩
    refine ⟨_, rfl, st, 8, _, rfl, by decide, by decide, st3, by omega, fun H3 size k3 s0 s8 st4 => ⟨_, _, _, rfl, ?_⟩⟩
    have kb : Kd [st] H H3 := ((ka.nil.trans k1).trans k2).trans k3
    have hown3 := ((k1.trans k2).trans k3).lst hown
    -- the letters
    refine ⟨8, rfl, by decide, by decide, fun D hD => ?_⟩
    refine lc_range (lo := 0) (n := 8) (fun i H' => Kd [st] H3 H' ∧ StAt H' st (n + 3 + i) ∧ ∃ cs : List Nat, H' D = some (.lst ((ones cs).map V.str)) ∧ cs.length = i ∧ ∀ c ∈ cs, c ∈ letL) ⟨Kd.new hD, st4.keep (Kd.new (F := []) hD) (fun z => nomatch z), [], upd_same, rfl, fun c hc => nomatch hc⟩ ?_ ?_
    · rintro i H4 hi ⟨k4, st5, cs, hc, hcl, hcm⟩
      refine ⟨rfl, ?_⟩
      refine ⟨_, rfl, _, rfl, st, 26, _, rfl, by decide, by decide, st5, by omega, fun H5 r k5 r0 r26 st6 => ?_⟩
      obtain ⟨j, rfl⟩ : ∃ j : Nat, r = (j : Int) := ⟨r.toNat, by omega⟩
      have hj : j < letL.length := by rw [letL_len]; omega
      refine ⟨letters, j, letL[j], rfl, rfl, by decide +kernel, atI_nat (List.getElem?_eq_getElem hj), ?_⟩
      have nd : D ≠ st := fun e => by
        obtain ⟨l1, l2, l3, l4, hh, _⟩ := st5
        rw [e, hh] at hc
        cases hc
      refine ⟨_, k5.lst hc, ?_, (k4.trans k5).mut hD, ?_, cs ++ [letL[j]], ?_, by rw [List.length_append, hcl]; rfl, ?_⟩
      · unfold ones
        rw [List.length_map, List.length_map, hcl]
        exact line9 (by omega)
      · obtain ⟨l1, l2, l3, l4, hh, h4⟩ := st6
        exact ⟨l1, l2, l3, l4, by rw [upd_ne nd.symm]; exact hh, by omega⟩
      · rw [upd_same]
        unfold ones
        rw [List.map_append, List.map_append]
        rfl
      · intro c hc
        rcases List.mem_append.mp hc with h | h
        · exact hcm c h
        · rw [List.mem_singleton.mp h]
          exact List.getElem_mem hj
    rintro H4 ⟨k4, st5, cs, hcs, hcl, hcm⟩
    refine ⟨by (show 0 ≤ sizeLine; decide), fun pf hpf => ⟨by (show 2 ≤ sizeLine; decide), fun pt hpt => ?_⟩⟩
    have b1 := Kd.new (F := []) (o := .lst []) hpf
    have b2 := Kd.new (F := []) (o := .tup [.ref D, .ref pf]) hpt
    refine ⟨pt, _, rfl, .inl (.inl upd_same), rfl, _, _, rfl, _, _, rfl, rfl, ?_⟩
    have hD0 : H D = none := kb.back _ hD
    have hpf0 : H pf = none := (kb.trans k4).back _ hpf
    have b12 := b1.trans b2
    have npD : pf ≠ D := (ne_of_none hcs hpf).symm
    have npo : pf ≠ po := (ne_of_none (k4.lst hown3) hpf).symm
    have npst : pf ≠ st := st5.neNew hpf
    have kc : Kd [st] H (upd (upd H4 pf (.lst [])) pt (.tup [.ref D, .ref pf])) := (kb.trans k4).trans b12.nil
    have hcs5 := b12.lst hcs
    have hf5 := b2.lst (upd_same (H := H4) (a := pf) (o := .lst []))
    have ho5 := b12.lst (k4.lst hown3)
    have st6 := st5.keep b12 (fun z => nomatch z)
    generalize upd (upd H4 pf (.lst [])) pt (.tup [.ref D, .ref pf]) = H5 at kc hcs5 hf5 ho5 st6 ⊢
    -- the loop
    obtain ⟨M, rfl⟩ : ∃ M : Nat, many = (M : Int) := ⟨many.toNat, by omega⟩
    refine ⟨_, rfl, M, rfl, by omega, by omega, ?_⟩
    have eM : ((M : Int)).toNat = M := by omega
    rw [eM]
    refine forR M (fun i σ H' => (∃ x9 x10 : Option V, σ = [some (.ref st), some (.int M), some (.str letters), some (.ref po), some (.int way), some (.int first), some (.int size), some (.ref D), some (.ref pf), x9, x10]) ∧ Kd [st] H H' ∧ StAt H' st (n + 3 + 8) ∧ H' D = some (.lst ((ones cs).map V.str)) ∧ H' po = some (.lst (ownL.map V.str)) ∧ H' pf = some (.lst (((List.range i).map (nmAt way first size.toNat cs)).map V.str)))
      ⟨⟨none, none, rfl⟩, kc, st6, hcs5, ho5, hf5⟩ ?_ ?_
    · rintro i σ H6 hi ⟨⟨x9, x10, rfl⟩, k6, st7, hc6, ho6, hf6⟩
      have hsz : size.toNat ≤ cs.length := by omega
      have hli := letAt_get first i
      have hoi := ownAt_get first i
      have l0 : 0 ≤ (first + 5 * (0 + (i : Int))) % 26 := Int.emod_nonneg _ (by decide)
      have o0 : 0 ≤ (first + 3 * (0 + (i : Int))) % 19 := Int.emod_nonneg _ (by decide)
      have hlat : atI letters.cps.toList ((first + 5 * (0 + (i : Int))) % 26) = some (letAt first i) := by
        have g := atI_nat hli
        rw [show ((((first + 5 * (0 + (i : Int))) % 26).toNat : Nat) : Int) = (first + 5 * (0 + (i : Int))) % 26 by omega] at g
        exact g
      have hoat : atI (ownL.map V.str) ((first + 3 * (0 + (i : Int))) % 19) = some (.str (ownAt first i)) := by
        have g := atI_nat (xs := ownL.map V.str) (j := ((first + 3 * (0 + (i : Int))) % 19).toNat) (v := .str (ownAt first i)) (by rw [List.getElem?_map, hoi]; rfl)
        rw [show ((((first + 3 * (0 + (i : Int))) % 19).toNat : Nat) : Int) = (first + 3 * (0 + (i : Int))) % 19 by omega] at g
        exact g
      refine ⟨⟨_, rfl⟩, _, rfl, _, rfl, size, rfl, D, _, rfl, SqL.of hc6, fun s1 hs1 => ?_⟩
      rw [cut_ones cs s0 hsz]
      have d1 := Kd.new (F := []) (o := .lst ((ones (cs.take size.toNat)).map V.str)) hs1
      refine ⟨_, rfl, _, rfl, _, rfl, 5, _, rfl, rfl, .inl (by decide), first, _, rfl, rfl, _, 26, rfl, rfl, (by show (0 : Int) < _; decide), letters, _, _, rfl, rfl, by decide +kernel, hlat, by (show 1 ≤ sizeLine; decide), fun s2 hs2 => ?_⟩
      have d2 := Kd.new (F := []) (o := .lst [.str ⟨#[letAt first i]⟩]) hs2
      refine ⟨s1, s2, _, _, rfl, rfl, d2.lst upd_same, upd_same, ?_, fun s3 hs3 => ?_⟩
      · unfold ones
        rw [List.length_map, List.length_map, List.length_take]
        exact Nat.le_of_lt (line9 (by show _ + 1 ≤ 8; omega))
      have eJ : (ones (cs.take size.toNat)).map V.str ++ [.str ⟨#[letAt first i]⟩] = (ones (cs.take size.toNat ++ [letAt first i])).map V.str := by
        unfold ones
        rw [List.map_append, List.map_append]
        rfl
      rw [eJ]
      have d3 := Kd.new (F := []) (o := .lst ((ones (cs.take size.toNat ++ [letAt first i])).map V.str)) hs3
      have d123 := (d1.trans d2).trans d3
      refine ⟨_, s3, _, rfl, rfl, .inl (SqL.of upd_same), ones_join_ok (by rw [List.length_append, List.length_take]; show _ + 1 ≤ 20; omega), ?_⟩
      rw [join_ones]
      have hf7 := d123.lst hf6
      have hc7 := d123.lst hc6
      have ho7 := d123.lst ho6
      have k7 := k6.trans d123.nil
      have st8 := st7.keep d123 (fun z => nomatch z)
      generalize (upd (upd (upd H6 s1 _) s2 _) s3 _) = H7 at hf7 hc7 ho7 k7 st8 ⊢
      refine ⟨_, rfl, .inl ⟨rfl, _, SqL.of hf7⟩, ?_⟩
      refine ⟨_, rfl, _, rfl, _, rfl, 3, _, rfl, rfl, .inl (by decide), first, _, rfl, rfl, _, 19, rfl, rfl, (by show (0 : Int) < _; decide), po, _, _, _, rfl, rfl, SqL.of ho7, hoat, ?_⟩
      refine ⟨⟨_, rfl⟩, _, rfl, _, rfl, _, 1, rfl, rfl, _, rfl, D, _, rfl, SqL.of hc7, fun s4 hs4 => ?_⟩
      rw [cut_ones cs (i := 0 + (i : Int) + 1) (by omega) (by omega)]
      have d4 := Kd.new (F := []) (o := .lst ((ones (cs.take (0 + (i : Int) + 1).toNat)).map V.str)) hs4
      refine ⟨_, s4, _, rfl, rfl, .inl (SqL.of upd_same), ones_join_ok (by rw [List.length_take]; omega), ?_⟩
      rw [join_ones]
      refine ⟨_, rfl, by (show 3 ≤ sizeLine; decide), fun s5 hs5 => ?_⟩
      have d5 := Kd.new (F := []) (o := .lst [.str (ownAt first i), .str (sOf (cs.take (0 + (i : Int) + 1).toNat)), .str (sOf (cs.take size.toNat ++ [letAt first i]))]) hs5
      have hat : atI [V.str (ownAt first i), .str (sOf (cs.take (0 + (i : Int) + 1).toNat)), .str (sOf (cs.take size.toNat ++ [letAt first i]))] way = some (.str (nmAt way first size.toNat cs i)) := by
        have hw : way = 0 ∨ way = 1 ∨ way = 2 := by omega
        have e : (0 + (i : Int) + 1).toNat = i + 1 := by omega
        rcases hw with rfl | rfl | rfl
        · rfl
        · rw [e]
          rfl
        · rfl
      refine ⟨_, rfl, s5, _, way, _, rfl, rfl, SqL.of upd_same, hat, ?_⟩
      have d45 := d4.trans d5
      refine ⟨pf, _, _, rfl, rfl, d45.lst hf7, ?_, ⟨_, _, rfl⟩, (k7.trans d45.nil).mut hpf0, ?_, ?_, ?_, ?_⟩
      · rw [List.length_map, List.length_map, List.length_range]
        exact line9 (by omega)
      · exact (st8.keep d45 (fun z => nomatch z)).upd npst
      · rw [upd_ne npD.symm]
        exact d45.lst hc7
      · rw [upd_ne npo.symm]
        exact d45.lst ho7
      · rw [upd_same, List.range_succ, List.map_append, List.map_append]
        rfl
    rintro σ H6 ⟨⟨x9, x10, rfl⟩, k6, st7, hc6, ho6, hf6⟩
    refine ⟨_, rfl, M, rfl, by omega, by omega, fun D2 hD2 => ?_⟩
    rw [eM]
    have hnd := nm_nd (way := way) (first := first) (size := size.toNat) hcl (n := M) (by omega)
    have hok : ∀ z ∈ (List.range M).map (nmAt way first size.toNat cs), NameOk z := by
      intro z hz
      obtain ⟨k, hk, rfl⟩ := List.mem_map.mp hz
      have := List.mem_range.mp hk
      exact nmAt_ok hcl hcm (by omega) (by omega)
    have hlen : ((List.range M).map (nmAt way first size.toNat cs)).length = M := by rw [List.length_map, List.length_range]
    generalize (List.range M).map (nmAt way first size.toNat cs) = fl at hf6 hnd hok hlen
    have nD2f : D2 ≠ pf := (ne_of_none hf6 hD2).symm
    have nD2st : D2 ≠ st := st7.neNew hD2
    refine lc_range (lo := 0) (n := M) (fun i H' => (∀ a o, H6 a = some o → a ≠ pf → (∀ kvs, o = HO.dK kvs → a ∉ [st]) → H' a = some o) ∧ (∀ a, H' a = none → H6 a = none) ∧ StAt H' st (n + 3 + 8 + i) ∧ ∃ rem done : List Str, H' pf = some (.lst (rem.map V.str)) ∧ H' D2 = some (.lst (done.map V.str)) ∧ (done ++ rem).Perm fl ∧ done.length = i) ?_ ?_ ?_
    · refine ⟨fun a o h _ _ => by rw [upd_ne (ne_of_none h hD2)]; exact h, fun a h => (Kd.new (F := []) hD2).back a h, st7.upd nD2st, fl, [], by rw [upd_ne nD2f.symm]; exact hf6, upd_same, .refl _, rfl⟩
    · rintro i H7 hi ⟨kk7, kb7, st8, rem, done, hr7, hd7, hp7, hl7⟩
      have hrl : rem.length + done.length = M := by
        have := hp7.length_eq
        rw [List.length_append, hlen] at this
        omega
      refine ⟨rfl, ?_⟩
      refine ⟨_, rfl, .inl ⟨rfl, _, SqL.of hr7⟩, _, rfl, _, rfl, pf, _, rfl, .inl (SqL.of hr7), st, ((rem.map V.str).length : Nat), _, rfl, by rw [List.length_map]; omega, by rw [List.length_map]; omega, st8, by omega, fun H8 r k8 r0 r1 st9 => ?_⟩
      rw [List.length_map] at r1
      obtain ⟨j, rfl⟩ : ∃ j : Nat, r = (j : Int) := ⟨r.toNat, by omega⟩
      have hj : j < rem.length := by omega
      have hr8 := k8.lst hr7
      have hd8 := k8.lst hd7
      refine ⟨pf, _, (j : Int), j, .str rem[j], rfl, rfl, hr8, by omega, by omega, ?_, by rw [List.getElem?_map, List.getElem?_eq_getElem hj]; rfl, ?_⟩
      · exact seqIx (by rw [List.length_map]; exact hj)
      · have hd9 : (upd H8 pf (.lst ((rem.map V.str).eraseIdx j))) D2 = some (.lst (done.map V.str)) := by rw [upd_ne nD2f]; exact hd8
        refine ⟨_, hd9, by rw [List.length_map]; exact line9 (by omega), ?_, ?_, ((st9.upd npst).upd nD2st).mono (by omega), rem.eraseIdx j, done ++ [rem[j]], ?_, ?_, ?_, by rw [List.length_append, hl7]; rfl⟩
        · intro a o h h1 h2
          rw [upd_ne (ne_of_none h hD2), upd_ne h1]
          exact k8.keep a o (kk7 a o h h1 h2) h2
        · intro a h
          by_cases e : a = D2
          · rw [e]; exact hD2
          · rw [upd_ne e] at h
            by_cases e2 : a = pf
            · rw [e2, upd_same] at h; cases h
            · rw [upd_ne e2] at h
              exact kb7 a (k8.back a h)
        · rw [upd_ne nD2f.symm, upd_same, map_erase]
        · rw [upd_same, List.map_append]
          rfl
        · have e := erase_perm (l := rem) (k := j) (List.getElem?_eq_getElem hj)
          refine List.Perm.trans ?_ hp7
          rw [List.append_assoc]
          exact e.append_left done
    · rintro H7 ⟨kk7, kb7, st8, rem, done, hr7, hd7, hp7, hl7⟩
      have hrl := hp7.length_eq
      rw [List.length_append, hlen] at hrl
      have hrem : rem = [] := List.length_eq_zero_iff.mp (by omega)
      rw [hrem, List.append_nil] at hp7
      refine kk H7 D2 done ⟨fun a o h h2 => ?_, fun a h => k6.back a (kb7 a h)⟩ (k6.back _ hD2) hd7 (by omega) (hp7.nodup_iff.mpr hnd) (fun z hz => hok z (hp7.mem_iff.mp hz)) (st8.mono (by omega))
      exact kk7 a o (k6.keep a o h h2) (ne_of_none h hpf0) h2
end
end KB
/-! part KW13 -/
namespace KB
open PySem L2
section
variable {P : Program} {w : World} {K : PySem.W.Frag} {mg : Str → Option Value} {base : Heap} {A : Ads}
theorem why_of (w : Int) : ∃ z : Str, atI [V.str "told twice", V.str "~"] (w % 2) = some (.str z) ∧ TextOk z := by
  have h : w % 2 = 0 ∨ w % 2 = 1 := by omega
  rcases h with h | h
  · rw [h]; exact ⟨"told twice", rfl, by decide +kernel⟩
  · rw [h]; exact ⟨"~", rfl, by decide +kernel⟩
theorem keys_of_kept {ql : List (Addr × Qn)} {m : Bk} (f1 : m.kept = ql.map (fun p => (p.2.name, p))) : keys m.kept = ql.map (·.2.name) := by
  unfold keys
  rw [f1, List.map_map]
  rfl
theorem keys_of_days {ql : List (Addr × Qn)} {m : Bk} (f3 : m.days.map (fun p => (p.1, p.2.2)) = ql.map (fun p => (p.2.name, []))) : keys m.days = ql.map (·.2.name) := by
  have e : keys m.days = (m.days.map (fun p => (p.1, p.2.2))).map (·.1) := by
    unfold keys
    rw [List.map_map]
    rfl
  rw [e, f3, List.map_map]
  rfl
theorem ok_init {ql : List (Addr × Qn)} {m : Bk} (f1 : m.kept = ql.map (fun p => (p.2.name, p))) (f2 : m.out = []) (f3 : m.days.map (fun p => (p.1, p.2.2)) = ql.map (fun p => (p.2.name, []))) (nd : (ql.map (·.2.name)).Nodup) (hl : ql.length ≤ 8) (ok : ∀ p ∈ ql, QOk p.2) : m.Ok := by
  refine ⟨by rw [keys_of_kept f1]; exact nd, by rw [f2]; exact List.nodup_nil, by rw [keys_of_days f3]; exact nd, fun n => by rw [keys_of_days f3, keys_of_kept f1], fun n h => ?_, fun n q h => ?_, fun n l h => ?_, fun n t h => ?_, by rw [f1, List.length_map]; exact hl⟩
  · rw [f2] at h
    cases h
  · obtain ⟨p, hp⟩ := q_some h
    have h2 := aget_some_mem hp
    rw [f1] at h2
    obtain ⟨p2, h3, h4⟩ := List.mem_map.mp h2
    have e1 : p2.2.name = n := congrArg (·.1) h4
    have e2 : p2 = (p, q) := congrArg (·.2) h4
    subst e2
    exact ⟨e1, ok _ h3⟩
  · obtain ⟨p, hp⟩ := d_some h
    have h2 := aget_some_mem hp
    have h3 : (n, l) ∈ m.days.map (fun p => (p.1, p.2.2)) := List.mem_map.mpr ⟨_, h2, rfl⟩
    rw [f3] at h3
    obtain ⟨p2, _, h4⟩ := List.mem_map.mp h3
    have e : [] = l := congrArg (·.2) h4
    rw [← e]
    exact ⟨List.Pairwise.nil, fun x hx => nomatch hx⟩
  · unfold Bk.r at h
    rw [f2] at h
    cases h
theorem StAt.out {H H' : Hp} {F : List Addr} {st : Addr} {n : Nat} (h : StAt H st n) (k : Kd F H H') (f : st ∉ F) : StAt H' st n := h.keep k f
theorem Fresh.not {H : Hp} {B : Bh} {st : Addr} (f : Fresh H B) (h : H st ≠ none) : st ∉ B.F := fun z => h (f st z)
theorem QAt.updL {H : Hp} {q D : Addr} {d : Qn} {xs : List V} {o : HO} (h : QAt A H q d) (hD : H D = some (.lst xs)) : QAt A (upd H D o) q d := by
  obtain ⟨dx, t, h1, ob, h2, h3⟩ := h
  refine ⟨dx, t, ?_, ob, ?_, h3⟩
  · rw [upd_ne fun e => by rw [e, hD] at h1; cases h1]
    exact h1
  · rw [upd_ne fun e => by rw [e, hD] at h2; cases h2]
    exact h2
theorem rows_pairs {β : Type} {f : β → List V} {H : Hp} {p : Addr} {l : List β} (h : Rows H p (l.map f)) : ∃ z : List (Addr × β), H p = some (.lst (z.map fun q => .ref q.1)) ∧ z.map (·.2) = l ∧ ∀ q ∈ z, H q.1 = some (.tup (f q.2)) := by
  obtain ⟨ts, h1, h2, h3⟩ := h
  rw [List.length_map] at h2
  refine ⟨ts.zip l, ?_, ?_, ?_⟩
  · rw [h1]
    have e : (ts.zip l).map (fun q => V.ref q.1) = ((ts.zip l).map Prod.fst).map V.ref := by rw [List.map_map]; rfl
    rw [e, List.map_fst_zip (by omega)]
  · exact List.map_snd_zip (by omega)
  · intro q hq
    obtain ⟨i, hi, e⟩ := List.mem_iff_getElem.mp hq
    have e2 := List.getElem?_eq_getElem hi
    rw [e, List.getElem?_zip_eq_some] at e2
    exact h3 i q.1 (f q.2) e2.1 (by rw [List.getElem?_map, e2.2]; rfl)
theorem ok_w_led (T : Txt K mg A) : FnOk P w K mg base CX0 6 A.a_w_led A.d_w_led P_w_led (sp_w_led A) := by
  have nd := sc_w_led.nd
  refine T.F_w_led.ok sc_w_led (fun vs H Q E h => ?_) (fun cdv Ar outer s H vs Q E hr h => ?_)
  · obtain ⟨st, kd, ks, lb, ls, turns, n, rfl, _⟩ := h
    rfl
  · obtain ⟨st, kd, ks, lb, ls, turns, n, rfl, hkd, hk3, hks, hlb, hl8, hl0, hlnd, hlok, ht0, ht14, hst, hn, kk⟩ := h
    have hu := hu_of hr
    obtain ⟨ds_B_init2, hv_B_init2, hb_B_init2⟩ := T.bd_B_init2
    obtain ⟨its_B_taken_out_2_why, hk_B_taken_out_2_why⟩ := T.bk_B_taken_out_2_why
    refine ⟨_, PSs.nox (pss_cons (ps_set (i := 4) nd rfl (Or.inl rfl) (pe_make T.mkB (ok_B_init T) (hr.mono (by decide)) rfl T.m_Bank hb_B_init2 hv_B_init2 pass0 (pa_cons (pe_lc (own := [("_law_label", 7)]) (g := gName 7) (tt := tYes) rfl nd (pi_list (pv 2)) (blkOk_by (N := N_w_led) (sc := defScope s_w_led) (by decide +kernel)) (fun _ _ _ _ _ => (pg_name (i := 7) nd rfl (Or.inl rfl))) (fun _ _ _ _ _ => pts_nil) (fun _ _ _ _ _ => (pe_call (ok_w_made T) (hr.mono (by decide)) rfl T.m_w_made T.F_w_made.kp T.b_w_made .nil pass0 (pa_cons (pe_call (ok_w_row T) (hr.mono (by decide)) rfl T.m_w_row T.F_w_row.kp T.b_w_row .nil pass0 (pa_cons (pv 0) (pa_cons (pv 7) (pa_cons (pv 1) pa_nil)))) pa_nil)))) pa_nil)))
      (pss_cons (ps_for PassesOwn.never rfl (pi_range1 rfl T.m_range (pa_cons (pv 3) pa_nil)) (pg_name (i := 5) nd rfl (Or.inl rfl))
        (pss_cons (ps_par3 (i := 6) (j := 7) (l := 8) rfl nd rfl rfl rfl (by decide) (by decide) (by decide) rfl rfl rfl (pa_cons (pe_call (ok_w_take T) (hr.mono (by decide)) rfl T.m_w_take T.F_w_take.kp T.b_w_take .nil pass0 (pa_cons (pv 0) (pa_cons (pe_int) pa_nil))) (pa_cons (pe_ix ix_list (pv 2) (pe_call (ok_w_take T) (hr.mono (by decide)) rfl T.m_w_take T.F_w_take.kp T.b_w_take .nil pass0 (pa_cons (pv 0) (pa_cons (pe_callB call_len_seq (by rfl) T.m_len PySem.boot_len (pa_cons (pv 2) pa_nil)) pa_nil))) (fun _ _ => rfl)) (pa_cons (pe_call (ok_w_take T) (hr.mono (by decide)) rfl T.m_w_take T.F_w_take.kp T.b_w_take .nil pass0 (pa_cons (pv 0) (pa_cons (pe_int) pa_nil))) pa_nil))) rfl)
          (pss_one (ps_if (pt_cmpR op_lt (pv 6) (pe_int) (nomark _))
            (pss_one (ps_expr (pe_meth (pv 4) T.clB T.M_B_used_on (ok_B_used_on T) (hr.mono (by decide)) T.b_B_used_on .nil pass0 (pa_cons (pv 7) (pa_cons (pv 8) pa_nil)))))
            (pss_one (ps_if (pt_cmpR op_eq (pv 6) (pe_int) (nomark _))
                (pss_one (ps_expr (pe_methN (pv 4) T.clB T.M_B_taken_out (ok_B_taken_out T) (hr.mono (by decide)) hk_B_taken_out_2_why pass0 (pa_cons (pv 7) pa_nil) (pk_cons (pe_ix ix_list (pe_lst (pa_cons (pe_str) (pa_cons (pe_str) pa_nil))) (pe_op op_mod (pv 8) (pe_int)) (fun _ _ => rfl)) pk_nil))))
                (pss_one (ps_if (pt_cmpR op_in_seq (pv 7) (pe_lc (own := [("_law_one", 9), ("_law_reason", 10)]) (g := gTup K 2 (gCons (gName 9) (gCons (gName 10) gNil))) (tt := tYes) rfl nd (pi_list (pe_meth0 (pv 4) T.clB T.M_B_outs (ok_B_outs T) (hr.mono (by decide)) T.b_B_outs .nil pass0)) (blkOk_by (N := N_w_led) (sc := defScope s_w_led) (by decide +kernel)) (fun _ _ _ _ _ => (pg_tup rfl (pgs_cons (pg_name (i := 9) nd rfl (Or.inl rfl)) (pgs_cons (pg_name (i := 10) nd rfl (Or.inl rfl)) pgs_nil)))) (fun _ _ _ _ _ => pts_nil) (fun _ _ _ _ _ => (pv 9))) rfl)
                    (pss_one (ps_expr (pe_meth (pv 4) T.clB T.M_B_put_back (ok_B_put_back T) (hr.mono (by decide)) T.b_B_put_back .nil pass0 (pa_cons (pv 7) pa_nil))))
                    pss_nil))))))))
      (pss_one (ps_ret (pv 4))))), ?_⟩
    refine ⟨_, rfl, lb, rfl, ⟨_, SqL.of hlb⟩, fun D hD => ?_⟩
    refine lc_list (xs := ls.map V.str) (fun i H' => Kd [st] H H' ∧ StAt H' st (n + 20 * i) ∧ ∃ ql : List (Addr × Qn), H' D = some (.lst (ql.map fun p => .ref p.1)) ∧ ql.map (·.2.name) = ls.take i ∧ ∀ p ∈ ql, QAt A H' p.1 p.2 ∧ QOk p.2 ∧ p.2.matter ∈ ks ∧ (p.2.kin = "" ∨ p.2.kin ∈ ks))
      ⟨Kd.new hD, hst.upd (hst.neNew hD), [], upd_same, rfl, fun p hp => nomatch hp⟩ (fun i H' _ h => SqL.of (h.1.lst hlb)) ?_ ?_
    · rintro i x H1 hx ⟨k1, st1, ql, hd, hnm, hql⟩
      rw [List.getElem?_map] at hx
      cases hz : ls[i]? with
      | none => rw [hz] at hx; cases hx
      | some z =>
      rw [hz] at hx
      cases hx
      have hil : i < ls.length := (List.getElem?_eq_some_iff.mp hz).1
      refine ⟨rfl, _, rfl, _, rfl, _, rfl, st, z, kd, ks, _, rfl, hlok z (List.mem_of_getElem? hz), k1.lst hkd, hk3, hks, st1, by omega, fun H2 p t d k2 hp2 hrow hta ok hdn hmat hkin st2 => ⟨p, t, d, rfl, hrow, hta, ok, fun H3 q k3 hq3 hQ => ?_⟩⟩
      have hd3 := k3.lst (k2.lst hd)
      have nDst : D ≠ st := fun e => by
        obtain ⟨l1, l2, l3, l4, hh, _⟩ := st1
        rw [e, hh] at hd
        cases hd
      have hqll : ql.length = i := by
        have := congrArg List.length hnm
        rw [List.length_map, List.length_take] at this
        omega
      refine ⟨_, hd3, by rw [List.length_map]; exact line9 (by omega), ((k1.trans k2).trans k3.nil).mut hD, ((st2.keep k3 (fun z => nomatch z)).upd nDst).mono (by omega), ql ++ [(q, d)], ?_, ?_, ?_⟩
      · rw [upd_same, List.map_append]
        rfl
      · rw [List.map_append, hnm, List.take_add_one, hz, ← hdn]
        rfl
      · intro w hw
        rcases List.mem_append.mp hw with hw | hw
        · obtain ⟨h1, h2⟩ := hql w hw
          exact ⟨((h1.keep k2).keep k3).updL hd3, h2⟩
        · have := List.mem_singleton.mp hw
          subst this
          exact ⟨hQ.updL hd3, ok, hmat, hkin⟩
    rintro H1 ⟨k1, st1, ql, hd, hnm, hql⟩
    rw [List.length_map, List.take_length] at hnm
    intro x dx hx hdx nex
    have hqll : ql.length = ls.length := by
      have := congrArg List.length hnm
      rw [List.length_map] at this
      exact this
    refine ⟨H1, x, dx, .ref D, ql, rfl, hx, (Kd.new hdx).mut hx, upd_same, .inr ⟨D, rfl, hd⟩, fun p hp => (hql p hp).1, by rw [hnm]; exact hlnd, by omega, fun H2 B m k2 hb hfr hB f1 f2 f3 => ⟨rfl, ?_⟩⟩
    have okm : m.Ok := ok_init f1 f2 f3 (by rw [hnm]; exact hlnd) (by omega) (fun p hp => (hql p hp).2.1)
    have hkeys : keys m.kept = ls := (keys_of_kept f1).trans hnm
    have hfk : FromKinds ks m := by
      intro n q h
      obtain ⟨p, hp⟩ := q_some h
      have h2 := aget_some_mem hp
      rw [f1] at h2
      obtain ⟨p2, h3, h4⟩ := List.mem_map.mp h2
      have e2 : p2 = (p, q) := congrArg (·.2) h4
      subst e2
      exact (hql _ h3).2.2
    subst hb
    have nst : ∀ y, y ∈ B.F → y ∉ [st] := fun y hy h => by
      rw [List.mem_singleton.mp h] at hy
      obtain ⟨l1, l2, l3, l4, hh, _⟩ := st1
      have := hfr st hy
      rw [hh] at this
      cases this
    have st2 := st1.keep k2 (fun z => nomatch z)
    have kk2 := k1.trans k2.nil
    -- the turns
    refine ⟨_, rfl, turns, rfl, by omega, by omega, ?_⟩
    obtain ⟨N, hN⟩ : ∃ N : Nat, turns.toNat = N := ⟨_, rfl⟩
    rw [hN]
    refine forR N (fun i σ H' => (∃ x5 x6 x7 x8 x9 x10 : Option V, σ = [some (.ref st), some (.ref kd), some (.ref lb), some (.int turns), some (.ref B.b), x5, x6, x7, x8, x9, x10]) ∧ Kd (st :: B.F) H2 H' ∧ StAt H' st (n + 160 + 3 * i) ∧ ∃ m', BankAt A H' B m' ∧ m'.Ok ∧ m'.kept = m.kept)
      ⟨⟨none, none, none, none, none, none, rfl⟩, .refl, st2.mono (by rw [List.length_map]; omega), m, hB, okm, rfl⟩ ?_ ?_
    · rintro i σ H3 hi ⟨⟨x5, x6, x7, x8, x9, x10, rfl⟩, k3, st3, m1, hB1, ok1, e1⟩
      have hlb3 := k3.lst (kk2.lst hlb)
      refine ⟨_, rfl, st, 4, _, rfl, by decide, by decide, st3, by omega, fun H4 way k4 w0 w4 st4 => ?_⟩
      have hlb4 := k4.lst hlb3
      refine ⟨_, rfl, _, rfl, _, rfl, lb, _, rfl, .inl (SqL.of hlb4), st, ((ls.map V.str).length : Nat), _, rfl, by rw [List.length_map]; have := List.length_pos_iff.mpr hl0; omega, by rw [List.length_map]; omega, st4, by omega, fun H5 r k5 r0 r1 st5 => ?_⟩
      rw [List.length_map] at r1
      obtain ⟨label, hlab, hat⟩ := atI_some (α := Unit) (l := ls) r0 r1
      refine ⟨lb, _, r, _, rfl, rfl, SqL.of (k5.lst hlb4), hat, ?_⟩
      refine ⟨_, rfl, st, 12, _, rfl, by decide, by decide, st5, by omega, fun H6 w k6 w00 w12 st6 => ⟨_, _, _, rfl, ?_⟩⟩
      have kt : Kd [st] H3 H6 := (k4.trans k5).trans k6
      have hB6 := hB1.keep kt nst
      have k36 : Kd (st :: B.F) H2 H6 := k3.trans (kt.mono fun x hx => by rw [List.mem_singleton.mp hx]; exact List.mem_cons_self ..)
      have hlk : label ∈ keys m1.kept := by rw [e1, hkeys]; exact hlab
      have sub : ∀ x, x ∈ B.F → x ∈ st :: B.F := fun x hx => List.mem_cons_of_mem _ hx
      have stF : st ∉ B.F := fun h => nst st h (List.mem_singleton.mpr rfl)
      refine ⟨_, rfl, _, _, rfl, rfl, _, rfl, iteB (fun hw => ?_) (fun hw => ?_)⟩
      · obtain ⟨l, hl⟩ := ok1.dsome hlk
        refine ⟨_, rfl, _, _, _, rfl, (hB6).ins, rfl, _, rfl, _, rfl, B, m1, label, w, l, rfl, hB6, hlk, hl, w00, by omega, ok1.dlen hl, by have := ok1.daysLen; omega, fun _ H7 k7 => ?_, fun hno H7 p l' k7 hp hperm hsort hB7 => ?_⟩
        · exact ⟨⟨_, _, _, _, _, _, rfl⟩, k36.trans k7.nil, (st6.keep k7 (fun z => nomatch z)).mono (by omega), m1, hB6.keep0 k7, ok1, e1⟩
        · refine ⟨⟨_, _, _, _, _, _, rfl⟩, k36.trans (k7.mono sub), (st6.keep k7 stF).mono (by omega), _, hB7, ok1.setDays hlk (days_put hperm hsort (ok1.ds _ _ hl).1 hno) (fun y hy => ?_), e1⟩
          rcases List.mem_append.mp (hperm.mem_iff.mp hy) with h | h
          · exact (ok1.ds _ _ hl).2 y h
          · rw [List.mem_singleton.mp h]
            omega
      · refine ⟨_, rfl, rfl, _, rfl, iteB (fun hw2 => ?_) (fun hw2 => ?_)⟩
        · obtain ⟨z, hz, hzt⟩ := why_of w
          refine ⟨_, rfl, _, _, _, rfl, (hB6).ins, rfl, _, rfl, by (show 2 ≤ sizeLine; decide), fun q hq => ?_⟩
          have kq := Kd.new (F := []) (o := .lst [.str "told twice", .str "~"]) hq
          have hB7 := hB6.keep0 kq
          refine ⟨_, rfl, w, 2, rfl, rfl, (by show (0 : Int) < _; decide), q, _, _, _, rfl, rfl, SqL.of upd_same, hz, rfl, rfl, B, m1, label, z, rfl, hB7, hlk, hzt, by have := ok1.outLen; omega, fun H8 k8 hB8 => ?_⟩
          exact ⟨⟨_, _, _, _, _, _, rfl⟩, (k36.trans kq.nil).trans (k8.mono sub), ((st6.keep kq (fun z => nomatch z)).keep k8 stF).mono (by omega), _, hB8, ok1.takenOut hlk hzt, e1⟩
        · refine ⟨_, rfl, _, rfl, _, _, _, rfl, (hB6).ins, rfl, B, m1, rfl, hB6, ok1, fun H7 p7 k7 hp7 hrows => ?_⟩
          obtain ⟨z, hz1, hz2, hz3⟩ := rows_pairs hrows
          have hzl : z.length ≤ 8 := by
            have := congrArg List.length hz2
            rw [List.length_map] at this
            rw [this]
            unfold Bk.outsL
            rw [List.length_map, (srt_perm _).length_eq]
            have h1 : (keys m1.out).length = m1.out.length := List.length_map ..
            rw [h1]
            exact ok1.outLen
          refine ⟨p7, rfl, ⟨_, SqL.of hz1⟩, fun D2 hD2 => ?_⟩
          refine lcL z [] (fun q => .ref q.1) (fun q => .str q.2.1) (fun _ => true) hD2 (line9 hzl) (SqL.of hz1) (fun q H8 R hq k8 kt kf => ?_) (fun H8 k8 h8 => ?_)
          · exact ⟨q.1, _, rfl, .inl (.inl (k8.tup (hz3 q hq))), rfl, _, _, rfl, _, _, rfl, rfl, rfl, _, rfl, kt _ rfl .refl⟩
          · have hB8 := (hB6.keep0 k7).keep0 k8
            have st8 := (st6.keep k7 (fun z => nomatch z)).keep k8 (fun z => nomatch z)
            have k38 := (k36.trans k7.nil).trans k8.nil
            have e8 : ((z.filter fun _ => true).map fun q => V.str q.2.1) = (srt (keys m1.out)).map V.str := by
              have h1 : m1.outsL.map (·.1) = srt (keys m1.out) := by
                unfold Bk.outsL
                rw [List.map_map]
                exact List.map_id _
              rw [filter_true, ← h1, ← hz2, List.map_map, List.map_map]
              rfl
            rw [e8] at h8
            refine ⟨D2, _, rfl, .inl (SqL.of h8), rfl, flat_str _, _, rfl, iteB (fun h => ?_) (fun _ => ?_)⟩
            · have h : decide (label ∈ srt (keys m1.out)) = true := by rw [← inV_str]; exact h
              have hin : label ∈ keys m1.out := mem_srt.mp (of_decide_eq_true h)
              refine ⟨_, rfl, _, _, _, rfl, (hB8).ins, rfl, _, rfl, B, m1, label, rfl, hB8, hlk, hin, fun H9 k9 hB9 => ?_⟩
              exact ⟨⟨_, _, _, _, _, _, rfl⟩, k38.trans (k9.mono sub), (st8.keep k9 stF).mono (by omega), _, hB9, ok1.putBack, e1⟩
            · exact ⟨⟨_, _, _, _, _, _, rfl⟩, k38, st8.mono (by omega), m1, hB8, ok1, e1⟩
    · rintro σ H3 ⟨⟨x5, x6, x7, x8, x9, x10, rfl⟩, k3, st3, m1, hB1, ok1, e1⟩
      have eq1 : ∀ n, m1.q n = m.q n := fun n => by unfold Bk.q; rw [e1]
      have kf : Kd [st] H H3 := kk2.over k3 fun x hx => by
        rcases List.mem_cons.mp hx with h | h
        · exact .inl (by rw [h]; exact List.mem_singleton.mpr rfl)
        · exact .inr (k1.back _ (hfr x h))
      refine ⟨_, rfl, kk H3 B m1 kf (fun x hx => k1.back _ (hfr x hx)) hB1 ok1 (fun n q h => hfk n q (by rw [← eq1]; exact h)) (fun z => by rw [e1, hkeys]) (st3.mono (by omega))⟩
end
end KB
/-! part KW14 -/
namespace KB
open PySem L2
section
variable {P : Program} {w : World} {K : PySem.W.Frag} {mg : Str → Option Value} {base : Heap} {A : Ads}
theorem row_cat (t : Addr) (d : Qn) (x : Str) : [V.str x] ++ cutV (rowV t d) (some 1) none = rowV t (d.called x) := by
  unfold cutV
  have e1 : HT.sIx (rowV t d).length 0 (some 1) = 1 := rfl
  have e2 : HT.sIx (rowV t d).length (rowV t d).length none = 7 := rfl
  rw [e1, e2]
  rfl
theorem m_empty {m : Bk} (f1 : m.kept = ([] : List (Addr × Qn)).map fun p => (p.2.name, p)) (f2 : m.out = []) (f3 : m.days.map (fun p => (p.1, p.2.2)) = ([] : List (Addr × Qn)).map fun p => (p.2.name, [])) : m = ⟨[], [], []⟩ := by
  obtain ⟨a, b, c⟩ := m
  have e1 : a = [] := f1
  have e2 : b = [] := f2
  have e3 : c = [] := List.map_eq_nil_iff.mp f3
  subst e1 e2 e3
  rfl
theorem ok_w_called (T : Txt K mg A) : FnOk P w K mg base CX0 6 A.a_w_called A.d_w_called P_w_called (sp_w_called A) := by
  have nd := sc_w_called.nd
  refine T.F_w_called.ok sc_w_called (fun vs H Q E h => ?_) (fun cdv Ar outer s H vs Q E hr h => ?_)
  · obtain ⟨B, m, c, cs, f, rfl, _⟩ := h
    rfl
  · obtain ⟨B, m, c, cs, f, rfl, hB, ok, hc, hcs, hfok, hinj, k⟩ := h
    have hu := hu_of hr
    obtain ⟨ds_B_init1, hv_B_init1, hb_B_init1⟩ := T.bd_B_init1
    obtain ⟨its_B_taken_out_2_why, hk_B_taken_out_2_why⟩ := T.bk_B_taken_out_2_why
    refine ⟨_, PSs.nox (pss_cons (ps_set (i := 2) nd rfl (Or.inl rfl) (pe_make0 T.mkB (ok_B_init T) (hr.mono (by decide)) rfl T.m_Bank hb_B_init1 hv_B_init1 pass0))
      (pss_cons (ps_for PassesOwn.never rfl (pi_list (pe_revL (pe_meth0 (pv 0) T.clB T.M_B_names (ok_B_names T) (hr.mono (by decide)) T.b_B_names .nil pass0))) (pg_name (i := 3) nd rfl (Or.inl rfl))
        (pss_cons (ps_set (i := 4) nd rfl (Or.inl rfl) (pe_call (ok_w_parts T) (hr.mono (by decide)) rfl T.m_w_parts T.F_w_parts.kp T.b_w_parts .nil pass0 (pa_cons (pe_meth (pv 0) T.clB T.M_B_question (ok_B_question T) (hr.mono (by decide)) T.b_B_question .nil pass0 (pa_cons (pv 3) pa_nil)) pa_nil)))
          (pss_cons (ps_expr (pe_meth (pv 2) T.clB T.M_B_added (ok_B_added T) (hr.mono (by decide)) T.b_B_added .nil pass0 (pa_cons (pe_call (ok_w_made T) (hr.mono (by decide)) rfl T.m_w_made T.F_w_made.kp T.b_w_made .nil pass0 (pa_cons (pe_op op_catT (pe_tup (pa_cons (pe_dget hu (pv 1) (pv 3) (fun _ _ => rfl)) pa_nil)) (pe_slice sl_tup (pv 4) (po_some (pe_int)) po_none)) pa_nil)) pa_nil)))
          (pss_one (ps_for PassesOwn.never rfl (pi_list (pe_meth (pv 0) T.clB T.M_B_days_of (ok_B_days_of T) (hr.mono (by decide)) T.b_B_days_of .nil pass0 (pa_cons (pv 3) pa_nil))) (pg_name (i := 5) nd rfl (Or.inl rfl))
            (pss_one (ps_expr (pe_meth (pv 2) T.clB T.M_B_used_on (ok_B_used_on T) (hr.mono (by decide)) T.b_B_used_on .nil pass0 (pa_cons (pe_dget hu (pv 1) (pv 3) (fun _ _ => rfl)) (pa_cons (pv 5) pa_nil))))))))))
      (pss_cons (ps_for PassesOwn.never rfl (pi_list (pe_meth0 (pv 0) T.clB T.M_B_outs (ok_B_outs T) (hr.mono (by decide)) T.b_B_outs .nil pass0)) (pg_tup rfl (pgs_cons (pg_name (i := 3) nd rfl (Or.inl rfl)) (pgs_cons (pg_name (i := 6) nd rfl (Or.inl rfl)) pgs_nil)))
        (pss_one (ps_expr (pe_methN (pv 2) T.clB T.M_B_taken_out (ok_B_taken_out T) (hr.mono (by decide)) hk_B_taken_out_2_why pass0 (pa_cons (pe_dget hu (pv 1) (pv 3) (fun _ _ => rfl)) pa_nil) (pk_cons (pv 6) pk_nil)))))
      (pss_one (ps_ret (pv 2)))))), ?_⟩
    intro x dx hx hdx ne
    refine ⟨H, x, dx, .non, [], rfl, hx, (Kd.new hdx).mut hx, upd_same, .inl ⟨rfl, rfl⟩, (fun p hp => nomatch hp), List.nodup_nil, by decide, fun H1 B2 m0 k1 hb hfr hB2 f1 f2 f3 => ⟨rfl, ?_⟩⟩
    subst hb
    have e0 := m_empty f1 f2 f3
    subst e0
    have hBa := hB.keep0 k1
    have ap : ∀ y, y ∈ B.F → y ∉ B2.F := fun y hy h => hB.notNew hy (hfr y h)
    have nc : c ∉ B2.F := fun h => by
      have := hfr c h
      rw [hc] at this
      cases this
    have hcg : ∀ (H' : Hp) (n : Str), H' c = some (.dK (kvOf V.str cs)) → n ∈ keys m.kept → DGet H' c (.str n) (some (.str (f n))) := fun H' n h hn => by
      have g := DGet.k (k := Sum.inr n) h
      rw [valV_kv, hcs n hn] at g
      exact g
    refine ⟨_, rfl, _, _, _, rfl, (hBa).ins, rfl, B, m, rfl, hBa, ok, fun H2 p2 k2 hp2 hl2 => ⟨p2, _, rfl, SqL.of hl2, fun p3 hp3 => ?_⟩⟩
    have k3 := Kd.new (F := []) (o := .lst (m.names.map V.str).reverse) hp3
    have erev : (m.names.map V.str).reverse = m.names.reverse.map V.str := List.map_reverse.symm
    refine ⟨p3, rfl, ⟨_, SqL.of upd_same⟩, ?_⟩
    have hl3 : (upd H2 p3 (.lst (m.names.map V.str).reverse)) p3 = some (.lst (m.names.reverse.map V.str)) := by rw [upd_same, erev]
    have kA : Kd [] H1 (upd H2 p3 (.lst (m.names.map V.str).reverse)) := k2.trans k3
    have hB2a := hB2.keep0 kA
    have hBb := hBa.keep0 kA
    have hcb := (k1.trans kA).dK hc (fun z => nomatch z)
    have kA0 := k1.trans kA
    generalize upd H2 p3 (.lst (m.names.map V.str).reverse) = H3 at hl3 kA kA0 hB2a hBb hcb ⊢
    have hnl : m.names.reverse.length ≤ 8 := by rw [List.length_reverse]; exact namesLen ok
    have hnnd : m.names.reverse.Nodup := (List.reverse_perm _).nodup_iff.mpr (names_SS ok).nodup
    have hmem : ∀ n, n ∈ m.names.reverse ↔ n ∈ keys m.kept := fun n => by rw [List.mem_reverse, mem_names]
    refine forL m.names.reverse V.str (fun i σ H' => (∃ x3 x4 x5 x6 : Option V, σ = [some (.ref B.b), some (.ref c), some (.ref B2.b), x3, x4, x5, x6]) ∧ Kd B2.F H3 H' ∧ ∃ m2, BankAt A H' B2 m2 ∧ Part m f (m.names.reverse.take i) m2)
      ⟨⟨none, none, none, none, rfl⟩, .refl, _, hB2a, .nil⟩ (fun i σ H' h => SqL.of (h.2.1.lst hl3)) ?_ ?_
    · rintro i n σ H4 hi ⟨⟨x3, x4, x5, x6, rfl⟩, k4, m2, hB4, pt⟩
      have hnk : n ∈ keys m.kept := (hmem n).mp (List.mem_of_getElem? hi)
      have hil : i < m.names.reverse.length := (List.getElem?_eq_some_iff.mp hi).1
      obtain ⟨d, hd⟩ := ok.qsome hnk
      obtain ⟨q, hq⟩ := q_some hd
      obtain ⟨l, hl⟩ := ok.dsome hnk
      have okd := (ok.nm n d hd).2
      have hBc := hBb.keep k4 ap
      have hcc := k4.dK hcb nc
      obtain ⟨dx, t, hi4, hta4⟩ := hBc.q hq
      have hno : ∀ k, k ∈ m.names.reverse.take i → f k ≠ f n := fun k hk e => by
        have hkk := (hmem k).mp (List.mem_of_mem_take hk)
        have e2 := hinj k hkk n hnk e
        subst e2
        obtain ⟨j, hj, e3⟩ := List.mem_take_iff_getElem.mp hk
        have h1 : m.names.reverse[j]? = some k := by rw [List.getElem?_eq_getElem (by omega), e3]
        have := (List.getElem?_inj (by omega) hnnd).mp (h1.trans hi.symm)
        omega
      have hnot : f n ∉ keys m2.kept := fun h => by
        obtain ⟨k, hk, e⟩ := List.mem_map.mp (pt.keys h)
        exact hno k hk e
      have hlen2 : m2.kept.length < 8 := by
        have h1 := pt.len
        rw [List.length_take] at h1
        omega
      -- the row
      refine ⟨_, rfl, _, _, _, rfl, (hBc).ins, rfl, _, rfl, B, m, n, (q, d), rfl, hBc, hq, ?_⟩
      refine ⟨q, dx, t, d, rfl, hi4, fun p5 hp5 => ?_⟩
      have k5 := Kd.new (F := []) (o := .tup (rowV t d)) hp5
      have hB5 := hB4.keep0 k5
      refine ⟨_, rfl, _, _, _, rfl, (hB5).ins, rfl, _, rfl, _, rfl, c, _, rfl, hcg _ n (k5.dK hcc (fun z => nomatch z)) hnk, by (show 1 ≤ sizeLine; decide), fun p6 hp6 => ?_⟩
      have k6 := Kd.new (F := []) (o := .tup [.str (f n)]) hp6
      refine ⟨_, rfl, 1, rfl, p5, _, rfl, (.inl (.inl (k6.tup upd_same))), (fun h => by have : (1 : Nat) = 0 := h.1; omega), fun p7 hp7 => ?_⟩
      have k7 := Kd.new (F := []) (o := .tup (cutV (rowV t d) (some 1) none)) hp7
      refine ⟨p6, p7, _, _, rfl, rfl, .inl (.inl (k7.tup upd_same)), .inl (.inl upd_same), (fun z => nomatch z), (by show 7 ≤ sizeLine; decide), (fun z => nomatch z), fun _ p8 hp8 => ?_⟩
      rw [row_cat]
      have k8 := Kd.new (F := []) (o := .tup (rowV t (d.called (f n)))) hp8
      have k58 := ((k5.trans k6).trans k7).trans k8
      refine ⟨p8, t, d.called (f n), rfl, upd_same, k58.tupA hta4, okd.called (hfok n hnk), fun H9 q9 k9 hq9 hQ9 => ?_⟩
      have k59 := k58.trans k9
      have hB9 := hB4.keep0 k59
      refine ⟨B2, m2, q9, d.called (f n), rfl, hB9, hQ9, hnot, by omega, by have := pt.ok.daysLen; omega, fun H10 p10 k10 hp10 hB10 => ?_⟩
      have okA := pt.ok.added (a := q9) (p := p10) hnot (okd.called (hfok n hnk)) hlen2
      have k410 := (k59.nil).trans k10
      have k310 := k4.trans k410
      have hB10b := hBb.keep k310 ap
      have hc10 := k310.dK hcb nc
      -- its days
      refine ⟨_, rfl, _, _, _, rfl, (hB10b).ins, rfl, _, rfl, B, m, n, l, rfl, hB10b, hnk, hl, fun H11 p11 k11 hp11 hl11 => ⟨p11, rfl, ⟨_, SqL.of hl11⟩, ?_⟩⟩
      have hll : l.Pairwise (· < ·) := (ok.ds n l hl).1
      have hlb := (ok.ds n l hl).2
      refine forL l V.int (fun j σ H' => (∃ x4 x5 x6 : Option V, σ = [some (.ref B.b), some (.ref c), some (.ref B2.b), some (.str n), x4, x5, x6]) ∧ Kd B2.F H11 H' ∧ ∃ m3, BankAt A H' B2 m3 ∧ m3.Ok ∧ m3.out = [] ∧ m3.kept = (m2.added q9 (d.called (f n)) p10).kept ∧ (∀ x, m3.d x = if x = f n then some (l.take j) else m2.d x))
        ⟨⟨_, _, _, rfl⟩, .refl, _, hB10.keep0 k11, okA, pt.out, rfl, fun x => Bk.d_added ..⟩ (fun j σ H' h => SqL.of (h.2.1.lst hl11)) ?_ ?_
      · rintro j w σ H12 hj ⟨⟨x4, x5, x6, rfl⟩, k12, m3, hB12, ok3, o3, kp3, d3⟩
        have hw := List.mem_of_getElem? hj
        have hjl : j < l.length := (List.getElem?_eq_some_iff.mp hj).1
        have hc12 := k12.dK (k11.dK hc10 (fun z => nomatch z)) nc
        have hd3 : m3.d (f n) = some (l.take j) := by rw [d3, if_pos rfl]
        have hk3 : f n ∈ keys m3.kept := by rw [kp3]; exact mem_keys_aput.mpr (.inl rfl)
        have htl : (l.take (j + 1)) = l.take j ++ [w] := by rw [List.take_add_one, hj]; rfl
        have hnow : w ∉ l.take j := fun h => by
          have h1 : (l.take (j + 1)).Pairwise (· < ·) := hll.sublist (List.take_sublist _ _)
          rw [htl, List.pairwise_append] at h1
          have := h1.2.2 w h w (List.mem_singleton.mpr rfl)
          omega
        refine ⟨_, rfl, _, _, _, rfl, (hB12).ins, rfl, _, rfl, _, rfl, c, _, rfl, hcg _ n hc12 hnk, _, rfl, B2, m3, f n, w, l.take j, rfl, hB12, hk3, hd3, (hlb w hw).1, by have := (hlb w hw).2; omega, ok3.dlen hd3, by have := ok3.daysLen; omega, fun h => absurd h hnow, fun _ H13 p13 l' k13 hp13 hperm hsort hB13 => ?_⟩
        have hl' : l' = l.take (j + 1) := by
          refine rise_unique (days_put hperm hsort (hll.sublist (List.take_sublist _ _)) hnow) (hll.sublist (List.take_sublist _ _)) fun y => ?_
          rw [hperm.mem_iff, htl]
        subst hl'
        refine ⟨⟨_, _, _, rfl⟩, k12.trans k13, _, hB13, ok3.setDays hk3 (hll.sublist (List.take_sublist _ _)) (fun y hy => hlb y (List.mem_of_mem_take hy)), o3, kp3, fun y => ?_⟩
        rw [Bk.d_setDays, d3]
        by_cases e : y = f n
        · rw [if_pos e, if_pos e]
        · rw [if_neg e, if_neg e, if_neg e]
      · rintro σ H12 ⟨⟨x4, x5, x6, rfl⟩, k12, m3, hB12, ok3, o3, kp3, d3⟩
        rw [List.take_length] at d3
        have ht : m.names.reverse.take (i + 1) = m.names.reverse.take i ++ [n] := by rw [List.take_add_one, hi]; rfl
        refine ⟨⟨_, _, _, _, rfl⟩, (k310.trans k11.nil).trans k12, m3, hB12, ?_⟩
        rw [ht]
        refine pt.step hno hd hl ok3 (fun x => ?_) d3 o3
        have e : m3.q x = (m2.added q9 (d.called (f n)) p10).q x := by unfold Bk.q; rw [kp3]
        rw [e, Bk.q_added]
    rintro σ H4 ⟨⟨x3, x4, x5, x6, rfl⟩, k4, m2, hB4, pt⟩
    rw [List.take_length] at pt
    have hBc := hBb.keep k4 ap
    have hcc := k4.dK hcb nc
    refine ⟨_, rfl, _, _, _, rfl, (hBc).ins, rfl, B, m, rfl, hBc, ok, fun H5 p5 k5 hp5 hrows => ?_⟩
    obtain ⟨z, hz1, hz2, hz3⟩ := rows_pairs hrows
    refine ⟨p5, rfl, ⟨_, SqL.of hz1⟩, ?_⟩
    have hnd : (keys m.outsL).Nodup := by rw [keys_outsL]; exact srt_nodup ok.kout
    refine forL z (fun q => .ref q.1) (fun i σ H' => (∃ x3 x4 x5 x6 : Option V, σ = [some (.ref B.b), some (.ref c), some (.ref B2.b), x3, x4, x5, x6]) ∧ Kd B2.F H5 H' ∧ ∃ m2, BankAt A H' B2 m2 ∧ PartO m f (m.outsL.take i) m2)
      ⟨⟨_, _, _, _, rfl⟩, .refl, m2, hB4.keep0 k5, pt.toO hmem⟩ (fun i σ H' h => SqL.of (h.2.1.lst hz1)) ?_ ?_
    · rintro i ⟨u, n, w⟩ σ H6 hi ⟨⟨x3, x4, x5, x6, rfl⟩, k6, m3, hB6, po⟩
      have ho : m.outsL[i]? = some (n, w) := by rw [← hz2, List.getElem?_map, hi]; rfl
      have hmo : n ∈ keys m.outsL := List.mem_map.mpr ⟨_, List.mem_of_getElem? ho, rfl⟩
      have hnk : n ∈ keys m.kept := ok.sub n (by rw [keys_outsL] at hmo; exact mem_srt.mp hmo)
      have hil : i < m.outsL.length := (List.getElem?_eq_some_iff.mp ho).1
      have hrn : m.r n = some w := by rw [← aget_outsL ok]; exact aget_of_mem hnd (List.mem_of_getElem? ho)
      have hwt := ok.txt n w hrn
      have ht : m.outsL.take (i + 1) = m.outsL.take i ++ [(n, w)] := by rw [List.take_add_one, ho]; rfl
      have hno : n ∉ keys (m.outsL.take i) := fun h => by
        have h1 : (keys (m.outsL.take (i + 1))).Nodup := hnd.sublist ((List.take_sublist _ _).map _)
        rw [ht] at h1
        unfold keys at h1 h
        rw [List.map_append, List.nodup_append] at h1
        exact h1.2.2 n h n (List.mem_singleton.mpr rfl) rfl
      have hk3 : f n ∈ keys m3.kept := by
        obtain ⟨d, hd⟩ := ok.qsome hnk
        refine q_isSome.mp ?_
        rw [po.q n hnk, hd]
        rfl
      have hc6 := k6.dK (k5.dK hcc (fun z => nomatch z)) nc
      have hu := k6.tup (hz3 _ (List.mem_of_getElem? hi))
      refine ⟨u, _, rfl, .inl (.inl hu), rfl, _, _, rfl, _, _, rfl, rfl, ?_⟩
      refine ⟨_, rfl, _, _, _, rfl, (hB6).ins, rfl, _, rfl, _, rfl, c, _, rfl, hcg _ n hc6 hnk, _, rfl, rfl, rfl, B2, m3, f n, w, rfl, hB6, hk3, hwt, by have := po.ok.outLen; omega, fun H7 k7 hB7 => ?_⟩
      refine ⟨⟨_, _, _, _, rfl⟩, k6.trans k7, _, hB7, ?_⟩
      rw [ht]
      exact po.step hnk hno (fun k hk e => hinj k hk n hnk e) hk3 hwt
    · rintro σ H6 ⟨⟨x3, x4, x5, x6, rfl⟩, k6, m3, hB6, po⟩
      have hzl : z.length = m.outsL.length := by rw [← hz2, List.length_map]
      rw [hzl, List.take_length] at po
      have kf : Kd [] H H6 := ((kA0.over k4 fun x hx => .inr (hfr x hx)).trans k5).over k6 fun x hx => .inr (hfr x hx)
      exact ⟨_, rfl, k H6 B2 m3 kf hfr hB6 (po.called ok)⟩
end
end KB
/-! part KW15 -/
namespace KB
open PySem L2
section
variable {P : Program} {w : World} {K : PySem.W.Frag} {mg : Str → Option Value} {base : Heap} {A : Ads}
theorem forR2 {g : TG} {tb : TS} {D : Ends} {σ : L2.St} {H : Hp} {lo : Int} (n : Nat) (Pv : Nat → L2.St → Hp → Prop) (h0 : Pv 0 σ H)
    (hs : ∀ i σ H, i < n → Pv i σ H → g (.int (lo + (i : Nat))) σ H fun σ2 H2 => tb { D with nx := Pv (i + 1), ct := Pv (i + 1), bk := D.nx } σ2 H2) (hd : ∀ σ H, Pv n σ H → D.nx σ H) : ForW (Itr lo n) g tb D σ H := by
  refine for_it walk_range Pv h0 (fun _ _ _ _ _ => trivial) ?_ hd
  rintro i x σ H H' hi p ⟨rfl, rfl⟩
  exact hs i σ H' hi p
theorem flat_len {α β : Type} {f : α → List β} (h : ∀ x, (f x).length ≤ 8) : ∀ l : List α, (l.flatMap f).length ≤ 8 * l.length
  | [] => by simp
  | x :: r => by
    rw [List.flatMap_cons, List.length_append, List.length_cons]
    have := h x
    have := flat_len h r
    omega
theorem found_len {m : Bk} (ok : m.Ok) (a : Str) (b c : Int) (d : Str) (e : Option Int) (r : Int) : (m.foundL a b c d e r).length ≤ 8 := Nat.le_trans (List.length_filter_le _ _) (namesInLen ok)
theorem neStrs {a b : List Str} (h : a = b) : (!PyData.eqv (.list (dS a)) (.list (dS b))) = false := by
  rw [eqv_strs, dT h]
  rfl
theorem neInts {a b : List Int} (h : a = b) : (!PyData.eqv (.list (dI a)) (.list (dI b))) = false := by
  rw [eqv_ints, dT h]
  rfl
theorem namesIn_strOk {m : Bk} (ok : m.Ok) : ∀ z, z ∈ m.namesIn → PyData.strOk z = true := fun z hz => by
  obtain ⟨q, hq, okq⟩ := qget ok hz
  have := (ok.nm z q hq).1
  rw [← this]
  exact strOk_name okq.name
theorem keysC (m : Bk) : keys (countsOf m.mattersL) = srt (uniq m.mattersL) := keys_counts _
theorem counts_len {m : Bk} (ok : m.Ok) : (countsOf m.mattersL).length ≤ 8 := by
  have h1 : (countsOf m.mattersL).length = (srt (uniq m.mattersL)).length := List.length_map ..
  have h2 := nodup_subset_length (nodup_uniq m.mattersL) (fun x hx => mem_uniq.mp hx)
  have h3 := namesInLen ok
  rw [matters_len] at h2
  rw [h1, (srt_perm _).length_eq]
  omega
theorem ok_w_parts_right (T : Txt K mg A) : FnOk P w K mg base CX0 6 A.a_w_parts_right A.d_w_parts_right P_w_parts_right (sp_w_parts_right A) := by
  have nd := sc_w_parts_right.nd
  refine T.F_w_parts_right.ok sc_w_parts_right (fun vs H Q E h => ?_) (fun cdv Ar outer s H vs Q E hr h => ?_)
  · obtain ⟨B, m, kd, ks, wh, span, rfl, _⟩ := h
    rfl
  · obtain ⟨B, m, kd, ks, wh, span, rfl, hB, ok, hkd, hknd, hks, hfk, hw0, hw14, hs0, hs6, k⟩ := h
    have hu := hu_of hr
    obtain ⟨its_B_found_1_matter, hk_B_found_1_matter⟩ := T.bk_B_found_1_matter
    obtain ⟨ds_B_found2, hv_B_found2, hb_B_found2⟩ := T.bd_B_found2
    obtain ⟨its_B_found_1_least_most, hk_B_found_1_least_most⟩ := T.bk_B_found_1_least_most
    obtain ⟨its_B_found_1_kin, hk_B_found_1_kin⟩ := T.bk_B_found_1_kin
    obtain ⟨its_B_found_1_day_rest, hk_B_found_1_day_rest⟩ := T.bk_B_found_1_day_rest
    obtain ⟨ds_B_last_day2, hv_B_last_day2, hb_B_last_day2⟩ := T.bd_B_last_day2
    refine ⟨_, PSs.nox (pss_cons (ps_asg (pe_tup (pa_cons (pe_meth0 (pv 0) T.clB T.M_B_names_in (ok_B_names_in T) (hr.mono (by decide)) T.b_B_names_in .nil pass0) (pa_cons (pe_meth0 (pv 0) T.clB T.M_B_matters (ok_B_matters T) (hr.mono (by decide)) T.b_B_matters .nil pass0) pa_nil))) (pg_tup rfl (pgs_cons (pg_name (i := 4) nd rfl (Or.inl rfl)) (pgs_cons (pg_name (i := 5) nd rfl (Or.inr rfl)) pgs_nil))))
      (pss_cons (ps_set (i := 6) nd rfl (Or.inl rfl) (pe_lst pa_nil))
      (pss_cons (ps_lock (ps_for PassesOwn.never rfl (pi_keys (pv 5)) (pg_name (i := 7) nd rfl (Or.inl rfl))
        (pss_one (ps_set (i := 6) nd rfl (Or.inl rfl) (pe_op op_cat (pv 6) (pe_methN0 (pv 0) T.clB T.M_B_found (ok_B_found T) (hr.mono (by decide)) hk_B_found_1_matter pass0 (pk_cons (pv 7) pk_nil)))))))
      (pss_cons (ps_if (PW.pt (pw_or (pt_cmpR (op_neD hr.units) (pe_callB cr_sortedS (by rfl) T.m_sorted (by decide +kernel) (pa_cons (pv 6) pa_nil)) (pv 4) (nomark _)) (pw_or1 (pt_cmpR op_ne (pe_callB (cr_sum rfl) (by rfl) T.m_sum (by decide +kernel) (pa_cons (pe_lock (pe_lc (own := [("_law_field", 7)]) (g := gName 7) (tt := tYes) rfl nd (pi_keys (pv 5)) (blkOk_by (N := N_w_parts_right) (sc := defScope s_w_parts_right) (by decide +kernel)) (fun _ _ _ _ _ => (pg_name (i := 7) nd rfl (Or.inl rfl))) (fun _ _ _ _ _ => pts_nil) (fun _ _ _ _ _ => (pe_dget hu (pv 5) (pv 7) (fun _ _ => rfl))))) pa_nil)) (pe_callB (call_lenOwn (E := E0) (ok_B_len T) T.lenB T.lenBf T.b_B_len pass0 (hr.mono (by decide))) (by rfl) T.m_len PySem.boot_len (pa_cons (pv 0) pa_nil)) (nomark _)))))
        (pss_one (ps_ret (pe_bl)))
        pss_nil)
      (pss_cons (ps_if (pt_cmpR (op_neD hr.units) (pe_lock (pe_lc (own := [("_law_field", 7)]) (g := gName 7) (tt := tYes) rfl nd (pi_keys (pv 5)) (blkOk_by (N := N_w_parts_right) (sc := defScope s_w_parts_right) (by decide +kernel)) (fun _ _ _ _ _ => (pg_name (i := 7) nd rfl (Or.inl rfl))) (fun _ _ _ _ _ => pts_nil) (fun _ _ _ _ _ => (pe_callB (call_len_seqK K rfl) (by rfl) T.m_len PySem.boot_len (pa_cons (pe_meth (pv 0) T.clB T.M_B_found (ok_B_found T) (hr.mono (by decide)) hb_B_found2 hv_B_found2 pass0 (pa_cons (pv 7) pa_nil)) pa_nil))))) (pe_lock (pe_lc (own := [("_law_field", 7)]) (g := gName 7) (tt := tYes) rfl nd (pi_keys (pv 5)) (blkOk_by (N := N_w_parts_right) (sc := defScope s_w_parts_right) (by decide +kernel)) (fun _ _ _ _ _ => (pg_name (i := 7) nd rfl (Or.inl rfl))) (fun _ _ _ _ _ => pts_nil) (fun _ _ _ _ _ => (pe_dget hu (pv 5) (pv 7) (fun _ _ => rfl))))) (nomark _))
        (pss_one (ps_ret (pe_bl)))
        pss_nil)
      (pss_cons (ps_set (i := 6) nd rfl (Or.inl rfl) (pe_lst pa_nil))
      (pss_cons (ps_for PassesOwn.never rfl (pi_range2 rfl T.m_range (pa_cons (pe_int) (pa_cons (pe_int) pa_nil))) (pg_name (i := 8) nd rfl (Or.inl rfl))
        (pss_one (ps_set (i := 6) nd rfl (Or.inl rfl) (pe_op op_cat (pv 6) (pe_methN0 (pv 0) T.clB T.M_B_found (ok_B_found T) (hr.mono (by decide)) hk_B_found_1_least_most pass0 (pk_cons (pv 8) (pk_cons (pv 8) pk_nil)))))))
      (pss_cons (ps_setLc (i := 9) (own := [("_law_one", 12)]) (g := gName 12) rfl nd rfl rfl (sw_true rfl rfl rfl (by decide +kernel)) (pi_list (pv 4)) (blkOk_by (N := N_w_parts_right) (sc := defScope s_w_parts_right) (by decide +kernel)) (fun _ _ _ _ _ => (pg_name (i := 12) nd rfl (Or.inl rfl))) (fun _ _ _ _ _ => pts_one (pt_cmpR op_eq (pe_fldK K rfl (pe_meth (pv 0) T.clB T.M_B_question (ok_B_question T) (hr.mono (by decide)) T.b_B_question .nil pass0 (pa_cons (pv 12) pa_nil)) rfl) (pe_str) (nomark _))) (fun _ _ _ _ _ => (pv 12)))
      (pss_cons (ps_for PassesOwn.never rfl (pi_list (pv 1)) (pg_name (i := 10) nd rfl (Or.inl rfl))
        (pss_one (ps_set (i := 9) nd rfl (Or.inl rfl) (pe_op op_cat (pv 9) (pe_methN0 (pv 0) T.clB T.M_B_found (ok_B_found T) (hr.mono (by decide)) hk_B_found_1_kin pass0 (pk_cons (pv 10) pk_nil))))))
      (pss_cons (ps_set (i := 11) nd rfl (Or.inr rfl) (pe_call (ok_resting T) (hr.mono (by decide)) rfl T.m_resting T.F_resting.kp T.b_resting .nil pass0 (pa_cons (pv 0) (pa_cons (pv 2) (pa_cons (pv 3) pa_nil)))))
      (pss_cons (ps_if (PW.pt (pw_or (pt_cmpR (op_neD hr.units) (pe_callB cr_sortedS (by rfl) T.m_sorted (by decide +kernel) (pa_cons (pv 6) pa_nil)) (pv 4) (nomark _)) (pw_or1 (pt_cmpR (op_neD hr.units) (pe_callB cr_sortedS (by rfl) T.m_sorted (by decide +kernel) (pa_cons (pv 9) pa_nil)) (pv 4) (nomark _)))))
        (pss_one (ps_ret (pe_bl)))
        pss_nil)
      (pss_cons (ps_if (pt_cmpR (op_neD hr.units) (pe_lc (own := [("_law_one", 12)]) (g := gName 12) rfl nd (pi_list (pv 4)) (blkOk_by (N := N_w_parts_right) (sc := defScope s_w_parts_right) (by decide +kernel)) (fun _ _ _ _ _ => (pg_name (i := 12) nd rfl (Or.inl rfl))) (fun _ _ _ _ _ => pts_one (pt_cmpR (op_notIn_seqK K rfl) (pv 12) (pv 11) rfl)) (fun _ _ _ _ _ => (pv 12))) (pe_methN0 (pv 0) T.clB T.M_B_found (ok_B_found T) (hr.mono (by decide)) hk_B_found_1_day_rest pass0 (pk_cons (pv 2) (pk_cons (pv 3) pk_nil))) (nomark _))
        (pss_one (ps_ret (pe_bl)))
        pss_nil)
      (pss_cons (ps_for PassesOwn.never rfl (pi_list (pe_meth0 (pv 0) T.clB T.M_B_names (ok_B_names T) (hr.mono (by decide)) T.b_B_names .nil pass0)) (pg_name (i := 12) nd rfl (Or.inl rfl))
        (pss_cons (ps_set (i := 13) nd rfl (Or.inl rfl) (pe_meth (pv 0) T.clB T.M_B_days_of (ok_B_days_of T) (hr.mono (by decide)) T.b_B_days_of .nil pass0 (pa_cons (pv 12) pa_nil)))
          (pss_one (ps_if (PW.pt (pw_or (pt_cmpR op_ne (pe_meth (pv 0) T.clB T.M_B_last_day (ok_B_last_day T) (hr.mono (by decide)) hb_B_last_day2 hv_B_last_day2 pass0 (pa_cons (pv 12) pa_nil)) (pe_ifExp (pt_cmpR (op_neD hr.units) (pv 13) (pe_lst pa_nil) (nomark _)) (pe_ix ix_list (pv 13) (pe_un un_neg (pe_int)) (fun _ _ => rfl)) (pe_non)) (nomark _)) (pw_or1 (pt_cmpR (op_neD hr.units) (pv 13) (pe_callB cr_sorted (by rfl) T.m_sorted (by decide +kernel) (pa_cons (pv 13) pa_nil)) (nomark _)))))
            (pss_one (ps_ret (pe_bl)))
            pss_nil))))
      (pss_one (ps_ret (pe_bl)))))))))))))))), ?_⟩
    refine ⟨_, rfl, _, _, _, rfl, (hB).ins, rfl, B, m, rfl, hB, ok, fun H1 p1 k1 hp1 hl1 => ?_⟩
    have hB1 := hB.keep0 k1
    refine ⟨_, rfl, _, _, _, rfl, (hB1).ins, rfl, B, m, rfl, hB1, ok, fun H2 pm k2 hpm hm2 => ⟨by (show 2 ≤ sizeLine; decide), fun pt hpt => ⟨pt, _, rfl, .inl (.inl upd_same), rfl, _, _, rfl, _, _, rfl, rfl, ?_⟩⟩⟩
    refine ⟨by (show 0 ≤ sizeLine; decide), fun pz hpz => ?_⟩
    have k3 := Kd.new (F := []) (o := .tup [.ref p1, .ref pm]) hpt
    have k4 := Kd.new (F := []) (o := .lst []) hpz
    have kA := ((k1.trans k2).trans k3).trans k4
    have hlA := k4.lst (k3.lst (k2.lst hl1))
    have hmA := (k3.trans k4).dK hm2 (fun z => nomatch z)
    have hzA := upd_same (H := upd H2 pt (.tup [.ref p1, .ref pm])) (a := pz) (o := .lst [])
    have hpm0 : H pm = none := k1.back _ hpm
    have nB : ∀ x, x ∈ B.F → x ∉ [pm] := fun x hx h => hB.notNew hx (by rw [List.mem_singleton.mp h]; exact hpm0)
    generalize upd (upd H2 pt (.tup [.ref p1, .ref pm])) pz (.lst []) = HA at kA hlA hmA hzA ⊢
    have hBA := hB.keep0 kA
    have hcl := counts_len ok
    have hkl : (keys (countsOf m.mattersL)).length ≤ 8 := by unfold keys; rw [List.length_map]; exact hcl
    -- by matters
    refine ⟨pm, _, hmA, trivial, fun od => ?_⟩
    have kL : Kd [pm] HA (upd HA pm (.frz od (.dK (kvOf V.int (countsOf m.mattersL))))) := .put hmA (List.mem_singleton.mpr rfl)
    refine ⟨_, rfl, pm, od, rfl, .inl ⟨_, upd_same, ?_⟩⟩
    refine forKeys (countsOf m.mattersL) V.int (fun i σ H' => (∃ (p6 : Addr) (x7 x8 x9 x10 x11 x12 x13 : Option V), σ = [some (.ref B.b), some (.ref kd), some (.int wh), some (.int span), some (.ref p1), some (.ref pm), some (.ref p6), x7, x8, x9, x10, x11, x12, x13] ∧ H' p6 = some (.lst ((((keys (countsOf m.mattersL)).take i).flatMap fun x => m.foundL x 1 9 "" none 0).map V.str))) ∧ Kd [] (upd HA pm (.frz od (.dK (kvOf V.int (countsOf m.mattersL))))) H')
      ⟨⟨pz, none, none, none, none, none, none, none, rfl, kL.lst hzA⟩, .refl⟩ (fun i σ H' h => h.2.frz upd_same) ?_ ?_
    · rintro i x σ H5 hi ⟨⟨p6, x7, x8, x9, x10, x11, x12, x13, rfl, h6⟩, k5⟩
      have hB5 := (hBA.keep kL nB).keep0 k5
      refine ⟨_, rfl, _, rfl, _, _, _, rfl, (hB5).ins, rfl, _, rfl, rfl, rfl, B, m, x, 1, 9, "", none, 0, rfl, hB5, ok, (fun _ z => nomatch z), fun H6 q k6 hq hl6 => ?_⟩
      refine ⟨p6, q, _, _, rfl, rfl, k6.lst h6, hl6, ?_, fun p7 hp7 => ⟨⟨p7, _, _, _, _, _, _, _, rfl, ?_⟩, (k5.trans k6).trans (.new hp7)⟩⟩
      · rw [List.length_map, List.length_map]
        have h1 := flat_len (fun x => found_len ok x 1 9 "" none 0) ((keys (countsOf m.mattersL)).take i)
        have h2 := List.length_take_le' i (keys (countsOf m.mattersL))
        have h3 := found_len ok x 1 9 "" none 0
        have : 100 < sizeLine := by decide
        omega
      · rw [upd_same, List.take_add_one, hi, List.flatMap_append, List.map_append]
        simp
    rintro σ H5 ⟨⟨p6, x7, x8, x9, x10, x11, x12, x13, rfl, h6⟩, k5⟩
    rw [List.take_length, keysC] at h6
    refine ⟨k5.frz upd_same, ?_⟩
    have ku := k5.unlock hmA
    have hm5 := upd_same (H := H5) (a := pm) (o := .dK (kvOf V.int (countsOf m.mattersL)))
    have hd5 := k5.frz (o := od) (u := .dK (kvOf V.int (countsOf m.mattersL))) upd_same
    have h6u : (upd H5 pm (.dK (kvOf V.int (countsOf m.mattersL)))) p6 = some (.lst (((srt (uniq m.mattersL)).flatMap fun x => m.foundL x 1 9 "" none 0).map V.str)) := by
      rw [upd_ne fun e => by rw [e, hd5] at h6; cases h6]
      exact h6
    generalize upd H5 pm (.dK (kvOf V.int (countsOf m.mattersL))) = HC at ku hm5 h6u ⊢
    have kC := kA.trans ku
    have hBC := hB.keep0 kC
    have hlC := ku.lst hlA
    -- sorted
    have hp1 := part_matter ok
    have hokI := namesIn_strOk ok
    have tlen : ((srt (uniq m.mattersL)).flatMap fun x => m.foundL x 1 9 "" none 0).length < 64 := by rw [hp1.length_eq]; have := namesInLen ok; omega
    refine ⟨_, rfl, p6, _, rfl, SqL.of h6u, tlen, fun ys ps hperm hsort hps => ?_⟩
    have hys := sorted_in ok hp1 hperm hsort
    subst hys
    have ks1 := Kd.new (F := []) (o := .lst (m.namesIn.map V.str)) hps
    refine ⟨_, rfl, _, _, dp_strs (SqL.of upd_same), dp_strs (SqL.of (ks1.lst hlC)), shaped_strs hokI, shaped_strs hokI, _, rfl, iteN (neStrs rfl) ?_⟩
    have hm6 := ks1.dK hm5 (fun z => nomatch z)
    have kD := kC.trans ks1
    have hlD := ks1.lst hlC
    generalize upd HC ps (.lst (m.namesIn.map V.str)) = HD at hm6 kD hlD ⊢
    -- the sum
    have hBD := hB.keep0 kD
    refine ⟨pm, _, hm6, trivial, fun od2 => ⟨_, rfl, pm, od2, rfl, .inl ⟨_, upd_same, fun D hD => ?_⟩⟩⟩
    have hgf : ∀ (H' : Hp) (o : Obj) (x : Str), H' pm = some (.frz o (.dK (kvOf V.int (countsOf m.mattersL)))) → x ∈ keys (countsOf m.mattersL) → DGet H' pm (.str x) (some (.int (m.mattersL.count x : Nat))) := fun H' o x h hx => by
      have g : DGet H' pm (kV (Sum.inr x)) (valV (kvOf V.int (countsOf m.mattersL)) (Sum.inr x)) := .inl ⟨_, Sum.inr x, .inr ⟨o, h⟩, rfl, rfl⟩
      rw [keysC] at hx
      have e : aget (countsOf m.mattersL) x = some (m.mattersL.count x : Int) := aget_of_mem (nodup_counts _) (List.mem_map.mpr ⟨x, hx, rfl⟩)
      rw [valV_kv, e] at g
      exact g
    refine lcK (countsOf m.mattersL) V.int [] (fun x => .int (m.mattersL.count x : Nat)) (fun _ => true) hD (line9 hcl) upd_same (fun x H7 R hx k7 kt kf => ⟨rfl, ?_⟩) (fun H7 k7 h7 => ?_)
    · exact ⟨_, rfl, _, rfl, pm, _, rfl, hgf _ od2 x (k7.frz upd_same) hx, kt _ rfl .refl⟩
    refine ⟨k7.frz upd_same, ?_⟩
    have ku2 := k7.unlock hm6
    rw [filter_true, keysC] at h7
    have e7 : (srt (uniq m.mattersL)).map (fun x => V.int (m.mattersL.count x : Nat)) = ((srt (uniq m.mattersL)).map fun x => ((m.mattersL.count x : Nat) : Int)).map V.int := by rw [List.map_map]; rfl
    rw [e7] at h7
    have hd7 := k7.frz (o := od2) (u := .dK (kvOf V.int (countsOf m.mattersL))) upd_same
    have h7u : (upd H7 pm (.dK (kvOf V.int (countsOf m.mattersL)))) D = some (.lst (((srt (uniq m.mattersL)).map fun x => ((m.mattersL.count x : Nat) : Int)).map V.int)) := by
      rw [upd_ne fun e => by rw [e, hd7] at h7; cases h7]
      exact h7
    have hm7 := upd_same (H := H7) (a := pm) (o := .dK (kvOf V.int (countsOf m.mattersL)))
    generalize upd H7 pm (.dK (kvOf V.int (countsOf m.mattersL))) = HE at ku2 h7u hm7 ⊢
    have kE := kD.trans ku2
    have hBE := hB.keep0 kE
    have hlE := ku2.lst hlD
    refine ⟨D, _, rfl, SqL.of h7u, _, rfl, B.b, _, _, rfl, hBE.ins, B, m, rfl, hBE, ok, fun HF kF => ⟨m.namesIn.length, rfl, by have := namesInLen ok; omega, rfl, _, rfl, iteN ?_ ?_⟩⟩
    · have e8 : (((srt (uniq m.mattersL)).map fun x => ((m.mattersL.count x : Nat) : Int)).sum) = (m.namesIn.length : Nat) := by
        rw [← sum_matter ok]
        induction srt (uniq m.mattersL) with
        | nil => rfl
        | cons x r ih =>
          rw [List.map_cons, List.sum_cons, ih, List.map_cons, List.sum_cons]
          omega
      rw [e8, dT rfl]
      rfl
    have kF0 := kE.trans kF
    have hBF := hB.keep0 kF0
    have hlF := kF.lst hlE
    have hmF := kF.dK hm7 (fun z => nomatch z)
    -- the lengths
    refine ⟨pm, _, hmF, trivial, fun od3 => ⟨_, rfl, pm, od3, rfl, .inl ⟨_, upd_same, fun D3 hD3 => ?_⟩⟩⟩
    have kL3 : Kd [pm] HF (upd HF pm (.frz od3 (.dK (kvOf V.int (countsOf m.mattersL))))) := .put hmF (List.mem_singleton.mpr rfl)
    refine lcK (countsOf m.mattersL) V.int [] (fun x => .int (m.mattersL.count x : Nat)) (fun _ => true) hD3 (line9 hcl) upd_same (fun x H8 R hx k8 kt kf => ⟨rfl, ?_⟩) (fun H8 k8 h8 => ?_)
    · have hB8 := (hBF.keep kL3 nB).keep0 k8
      refine ⟨_, rfl, _, _, _, rfl, (hB8).ins, rfl, _, rfl, B, m, x, 1, 9, "", none, 0, rfl, hB8, ok, (fun _ z => nomatch z), fun H9 q k9 hq hl9 => ⟨q, _, rfl, .inl (SqL.of hl9), ?_⟩⟩
      rw [List.length_map, len_matter ok (by rw [← keysC]; exact hx)]
      exact kt _ rfl k9
    refine ⟨k8.frz upd_same, ?_⟩
    have ku3 := k8.unlock hmF
    rw [filter_true, keysC, e7] at h8
    have hd8 := k8.frz (o := od3) (u := .dK (kvOf V.int (countsOf m.mattersL))) upd_same
    have h8u : (upd H8 pm (.dK (kvOf V.int (countsOf m.mattersL)))) D3 = some (.lst (((srt (uniq m.mattersL)).map fun x => ((m.mattersL.count x : Nat) : Int)).map V.int)) := by
      rw [upd_ne fun e => by rw [e, hd8] at h8; cases h8]
      exact h8
    have hm8 := upd_same (H := H8) (a := pm) (o := .dK (kvOf V.int (countsOf m.mattersL)))
    generalize upd H8 pm (.dK (kvOf V.int (countsOf m.mattersL))) = HG at ku3 h8u hm8 ⊢
    refine ⟨pm, _, hm8, trivial, fun od4 => ⟨_, rfl, pm, od4, rfl, .inl ⟨_, upd_same, fun D4 hD4 => ?_⟩⟩⟩
    refine lcK (countsOf m.mattersL) V.int [] (fun x => .int (m.mattersL.count x : Nat)) (fun _ => true) hD4 (line9 hcl) upd_same (fun x H9 R hx k9 kt kf => ⟨rfl, ?_⟩) (fun H9 k9 h9 => ?_)
    · exact ⟨_, rfl, _, rfl, pm, _, rfl, hgf _ od4 x (k9.frz upd_same) hx, kt _ rfl .refl⟩
    refine ⟨k9.frz upd_same, ?_⟩
    have ku4 := k9.unlock hm8
    rw [filter_true, keysC, e7] at h9
    have hd9 := k9.frz (o := od4) (u := .dK (kvOf V.int (countsOf m.mattersL))) upd_same
    have h9u : (upd H9 pm (.dK (kvOf V.int (countsOf m.mattersL)))) D4 = some (.lst (((srt (uniq m.mattersL)).map fun x => ((m.mattersL.count x : Nat) : Int)).map V.int)) := by
      rw [upd_ne fun e => by rw [e, hd9] at h9; cases h9]
      exact h9
    have h8v := ku4.lst h8u
    generalize upd H9 pm (.dK (kvOf V.int (countsOf m.mattersL))) = HH at ku4 h9u h8v ⊢
    have kH := (kF0.trans ku3).trans ku4
    have hBH := hB.keep0 kH
    have hlH := ku4.lst (ku3.lst hlF)
    refine ⟨_, _, dp_ints (SqL.of h8v), dp_ints (SqL.of h9u), shaped_ints _, shaped_ints _, _, rfl, iteN (neInts rfl) ?_⟩
    -- by toils
    refine ⟨by (show 0 ≤ sizeLine; decide), fun pz2 hpz2 => ?_⟩
    have kz := Kd.new (F := []) (o := .lst []) hpz2
    have kI := kH.trans kz
    have hlI := kz.lst hlH
    have hzI := upd_same (H := HH) (a := pz2) (o := .lst [])
    generalize upd HH pz2 (.lst []) = HI at kI hlI hzI ⊢
    refine ⟨1, 10, rfl, ⟨by decide, by decide, by decide, by decide⟩, ?_⟩
    have e9 : ((10 : Int) - 1).toNat = 9 := by decide
    rw [e9]
    refine forR2 9 (fun i σ H' => (∃ (p6 : Addr) (x8 x9 x10 x11 x12 x13 : Option V), σ = [some (.ref B.b), some (.ref kd), some (.int wh), some (.int span), some (.ref p1), some (.ref pm), some (.ref p6), x7, x8, x9, x10, x11, x12, x13] ∧ H' p6 = some (.lst (((List.range i).flatMap fun (k : Nat) => m.foundL "" (1 + (k : Int)) (1 + (k : Int)) "" none 0).map V.str))) ∧ Kd [] HI H')
      ⟨⟨pz2, _, _, _, _, _, _, rfl, hzI⟩, .refl⟩ ?_ ?_
    · rintro i σ HJ hi ⟨⟨q6, x8, x9, x10, x11, x12, x13, rfl, hq6⟩, kJ⟩
      have hBJ := hB.keep0 (kI.trans kJ)
      refine ⟨_, rfl, _, rfl, _, _, _, rfl, (hBJ).ins, rfl, _, rfl, _, rfl, rfl, rfl, B, m, "", 1 + (i : Int), 1 + (i : Int), "", none, 0, rfl, hBJ, ok, (fun _ z => nomatch z), fun H6' q kq hq hlq => ?_⟩
      refine ⟨q6, q, _, _, rfl, rfl, kq.lst hq6, hlq, ?_, fun p7 hp7 => ⟨⟨p7, _, _, _, _, _, _, rfl, ?_⟩, (kJ.trans kq).trans (.new hp7)⟩⟩
      · rw [List.length_map, List.length_map]
        have h1 := flat_len (fun (k : Nat) => found_len ok "" (1 + (k : Int)) (1 + (k : Int)) "" none 0) (List.range i)
        have h3 := found_len ok "" (1 + (i : Int)) (1 + (i : Int)) "" none 0
        rw [List.length_range] at h1
        have : 100 < sizeLine := by decide
        omega
      · rw [upd_same, List.range_succ, List.flatMap_append, List.map_append]
        simp
    rintro σ HJ ⟨⟨q6, x8, x9, x10, x11, x12, x13, rfl, hq6⟩, kJ⟩
    have kJ0 := kI.trans kJ
    have hBJ := hB.keep0 kJ0
    have hlJ := kJ.lst hlI
    -- by kins
    have hkin : ∀ n, n ∈ m.namesIn → m.kinOf n = "" ∨ m.kinOf n ∈ ks := fun n hn => by
      obtain ⟨d, hd⟩ := ok.qsome (in_names hn)
      have e1 : m.kinOf n = d.kin := by unfold Bk.kinOf; rw [hd]
      rw [e1]
      exact (hfk n d hd).2
    have pk := part_kin ok hknd hks hkin
    refine ⟨_, rfl, p1, rfl, ⟨_, SqL.of hlJ⟩, fun D5 hD5 => ?_⟩
    refine lcL m.namesIn [] V.str V.str (fun n => decide (m.kinOf n = "")) hD5 (line9 (namesInLen ok)) (SqL.of hlJ) (fun n HK' R hn kk kt kf => ⟨rfl, ?_⟩) (fun HK' kK h5 => ?_)
    · have hBK := hBJ.keep0 kk
      obtain ⟨d, hd⟩ := ok.qsome (in_names hn)
      obtain ⟨qa, hqa⟩ := q_some hd
      obtain ⟨dx, t, hi5, _⟩ := hBK.q hqa
      refine ⟨_, rfl, _, _, _, rfl, (hBK).ins, rfl, _, rfl, B, m, n, (qa, d), rfl, hBK, hqa, _, _, _, _, _, rfl, hi5, T.clQ, T.nQ_kin, rfl, rfl, _, rfl, ?_⟩
      have e : decide (V.str d.kin = V.str (Str.ofString "")) = decide (m.kinOf n = "") := by
        have e1 : m.kinOf n = d.kin := by unfold Bk.kinOf; rw [hd]
        rw [e1, Bool.eq_iff_iff, decide_eq_true_iff, decide_eq_true_iff]
        exact ⟨fun h => V.str.inj h, fun h => by rw [h]⟩
      show (if decide (V.str d.kin = V.str (Str.ofString "")) = true then _ else _)
      rw [e]
      exact iteB (fun h => ⟨_, rfl, kt _ h .refl⟩) (fun h => kf _ h .refl)
    have hq6K := kK.lst hq6
    have hlK := kK.lst hlJ
    have kK0 := kJ0.trans kK
    have hkdK := kK0.lst hkd
    refine ⟨_, rfl, kd, rfl, ⟨_, SqL.of hkdK⟩, ?_⟩
    refine forL ks V.str (fun i σ H' => (∃ (p9 : Addr) (x10 x11 x12 x13 : Option V), σ = [some (.ref B.b), some (.ref kd), some (.int wh), some (.int span), some (.ref p1), some (.ref pm), some (.ref q6), x7, x8, some (.ref p9), x10, x11, x12, x13] ∧ H' p9 = some (.lst (((m.namesIn.filter fun n => decide (m.kinOf n = "")) ++ (ks.take i).flatMap fun c => m.foundL "" 1 9 c none 0).map V.str))) ∧ Kd [] HK' H')
      ⟨⟨D5, _, _, _, _, rfl, by rw [List.take_zero, List.flatMap_nil, List.append_nil]; exact h5⟩, .refl⟩ (fun i σ H' h => SqL.of (h.2.lst hkdK)) ?_ ?_
    · rintro i c σ HM hi ⟨⟨p9, x10, x11, x12, x13, rfl, hp9⟩, kM⟩
      have hBM := hB.keep0 (kK0.trans kM)
      refine ⟨_, rfl, _, rfl, _, _, _, rfl, (hBM).ins, rfl, _, rfl, rfl, rfl, B, m, "", 1, 9, c, none, 0, rfl, hBM, ok, (fun _ z => nomatch z), fun H6' q kq hq hlq => ?_⟩
      refine ⟨p9, q, _, _, rfl, rfl, kq.lst hp9, hlq, ?_, fun p7 hp7 => ⟨⟨p7, _, _, _, _, rfl, ?_⟩, (kM.trans kq).trans (.new hp7)⟩⟩
      · rw [List.length_map, List.length_map]
        have h1 := pk.length_eq
        have h2 := namesInLen ok
        have h3 : ks = ks.take i ++ c :: ks.drop (i + 1) := by
          have hil := (List.getElem?_eq_some_iff.mp hi).1
          have e := List.drop_eq_getElem_cons hil
          have e2 : ks[i] = c := (List.getElem?_eq_some_iff.mp hi).2
          rw [e2] at e
          rw [← e, List.take_append_drop]
        rw [List.length_append] at h1 ⊢
        rw [h3, List.flatMap_append, List.flatMap_cons, List.length_append, List.length_append] at h1
        exact Nat.le_of_lt (line9 (by omega))
      · rw [upd_same, List.take_add_one, hi, List.flatMap_append, List.map_append, List.map_append, List.map_append]
        simp
    rintro σ HM ⟨⟨p9, x10, x11, x12, x13, rfl, hp9⟩, kM⟩
    rw [List.take_length] at hp9
    have kM0 := kK0.trans kM
    have hBM := hB.keep0 kM0
    have hq6M := kM.lst hq6K
    have hlM := kM.lst hlK
    -- at rest
    refine ⟨_, rfl, _, rfl, _, rfl, B, m, wh, span, rfl, hBM, ok, hw0, by omega, hs0, by omega, fun HN ps2 kN hps2 hst => ?_⟩
    have hq6N := kN.lst hq6M
    have hp9N := kN.lst hp9
    have hlN := kN.lst hlM
    have kN0 := kM0.trans kN
    refine ⟨_, rfl, q6, _, rfl, SqL.of hq6N, ?_, fun ys py hperm hsort hpy => ?_⟩
    · rw [(part_toil ok).length_eq]
      have := namesInLen ok
      omega
    have hys := sorted_in ok (part_toil ok) hperm hsort
    subst hys
    have kP := Kd.new (F := []) (o := .lst (m.namesIn.map V.str)) hpy
    refine ⟨_, rfl, _, _, dp_strs (SqL.of upd_same), dp_strs (SqL.of (kP.lst hlN)), shaped_strs hokI, shaped_strs hokI, _, rfl, iteN (neStrs rfl) ?_⟩
    refine ⟨_, rfl, p9, _, rfl, SqL.of (kP.lst hp9N), ?_, fun ys pv hperm2 hsort2 hpv => ?_⟩
    · rw [pk.length_eq]
      have := namesInLen ok
      omega
    have hys2 := sorted_in ok pk hperm2 hsort2
    subst hys2
    have kQ := Kd.new (F := []) (o := .lst (m.namesIn.map V.str)) hpv
    refine ⟨_, rfl, _, _, dp_strs (SqL.of upd_same), dp_strs (SqL.of (kQ.lst (kP.lst hlN))), shaped_strs hokI, shaped_strs hokI, _, rfl, iteN (neStrs rfl) ?_⟩
    have kPQ := kP.trans kQ
    have kR0 := kN0.trans kPQ
    have hlR := kPQ.lst hlN
    have hstR := kPQ.lst hst
    generalize upd (upd HN py (.lst (m.namesIn.map V.str))) pv (.lst (m.namesIn.map V.str)) = HR at kR0 hlR hstR ⊢
    have hBR := hB.keep0 kR0
    refine ⟨_, rfl, p1, rfl, ⟨_, SqL.of hlR⟩, fun D6 hD6 => ?_⟩
    refine lcL m.namesIn [] V.str V.str (fun n => !restsB ((m.d n).getD []) wh span) hD6 (line9 (namesInLen ok)) (SqL.of hlR) (fun n HS' R hn kk kt kf => ⟨rfl, ?_⟩) (fun HS' kS h6 => ?_)
    · refine ⟨_, rfl, _, rfl, ps2, _, rfl, .inl (SqL.of (kk.lst hstR)), rfl, flat_str _, _, rfl, ?_⟩
      have e : inV (.str n) ((m.namesIn.filter fun n => restsB ((m.d n).getD []) wh span).map V.str) = restsB ((m.d n).getD []) wh span := by
        rw [inV_str, Bool.eq_iff_iff, decide_eq_true_iff, List.mem_filter]
        exact ⟨fun h => h.2, fun h => ⟨hn, h⟩⟩
      show (if (!inV (.str n) ((m.namesIn.filter fun n => restsB ((m.d n).getD []) wh span).map V.str)) = true then _ else _)
      rw [e]
      exact iteB (fun h => ⟨_, rfl, kt _ h .refl⟩) (fun h => kf _ h .refl)
    have hBS := hBR.keep0 kS
    have hfr2 := found_rest ok wh span
    have hokF : ∀ z, z ∈ (m.namesIn.filter fun n => !restsB ((m.d n).getD []) wh span) → PyData.strOk z = true := fun z hz => hokI z (List.mem_filter.mp hz).1
    refine ⟨_, rfl, _, _, _, rfl, (hBS).ins, rfl, _, rfl, _, rfl, rfl, rfl, B, m, "", 1, 9, "", some wh, span, rfl, hBS, ok, (fun i z => by cases z; exact ⟨hw0, by omega⟩), fun HT' pq kT hpq hlT => ?_⟩
    rw [hfr2] at hlT
    refine ⟨_, _, dp_strs (SqL.of (kT.lst h6)), dp_strs (SqL.of hlT), shaped_strs hokF, shaped_strs hokF, _, rfl, iteN (neStrs rfl) ?_⟩
    have kT0 := (kR0.trans kS).trans kT
    have hBT := hB.keep0 kT0
    -- the days
    refine ⟨_, rfl, _, _, _, rfl, (hBT).ins, rfl, B, m, rfl, hBT, ok, fun HU pn kU hpn hlU => ⟨pn, rfl, ⟨_, SqL.of hlU⟩, ?_⟩⟩
    have kU0 := kT0.trans kU
    refine forL m.names V.str (fun i σ H' => (∃ x12 x13 : Option V, σ = [some (.ref B.b), some (.ref kd), some (.int wh), some (.int span), some (.ref p1), some (.ref pm), some (.ref q6), x7, x8, some (.ref p9), x10, some (.ref ps2), x12, x13]) ∧ Kd [] HU H')
      ⟨⟨_, _, rfl⟩, .refl⟩ (fun i σ H' h => SqL.of (h.2.lst hlU)) ?_ ?_
    · rintro i n σ HV hi ⟨⟨x12, x13, rfl⟩, kV⟩
      have hBV := hB.keep0 (kU0.trans kV)
      have hnk : n ∈ keys m.kept := mem_names.mp (List.mem_of_getElem? hi)
      obtain ⟨l, hl⟩ := ok.dsome hnk
      have hlr := (ok.ds n l hl).1
      have hlb := (ok.ds n l hl).2
      refine ⟨_, rfl, _, _, _, rfl, (hBV).ins, rfl, _, rfl, B, m, n, l, rfl, hBV, hnk, hl, fun HW pd kW hpd hlW => ?_⟩
      have hBW := hBV.keep0 kW
      refine ⟨_, rfl, _, _, _, rfl, (hBW).ins, rfl, _, rfl, B, m, n, 9999, l, rfl, hBW, hnk, hl, by decide, by decide, ok.dlen hl, fun HX kX => ?_⟩
      rw [lastDay_all hlr hlb]
      have hlX := kX.lst hlW
      refine ⟨_, rfl, by (show 0 ≤ sizeLine; decide), fun pe hpe => ?_⟩
      have kY := Kd.new (F := []) (o := .lst []) hpe
      have hlY := kY.lst hlX
      have he : (upd HX pe (.lst [])) pe = some (.lst (([] : List Int).map V.int)) := upd_same
      have kXY := (kV.trans kW).trans (kX.trans kY)
      refine ⟨_, _, dp_ints (SqL.of hlY), dp_ints (SqL.of he), shaped_ints l, shaped_ints [], _, rfl, ?_⟩
      show (if (!PyData.eqv (.list (dI l)) (.list (dI []))) = true then _ else _)
      rw [eqv_ints]
      have fin : ∀ H', Kd [] (upd HX pe (.lst [])) H' → Kd [] HU H' := fun H' k' => kXY.trans k'
      rcases List.eq_nil_or_concat l with rfl | ⟨L, z, rfl⟩
      · refine iteN rfl ?_
        refine ⟨rfl, _, rfl, iteN rfl ?_⟩
        refine ⟨_, rfl, _, rfl, pd, [], rfl, SqL.of hlY, by decide, fun ys pr hperm hsort hpr => ?_⟩
        have hys := sorted_days hlr hperm hsort
        subst hys
        have kZ := Kd.new (F := []) (o := .lst (([] : List Int).map V.int)) hpr
        exact ⟨_, _, dp_ints (SqL.of (kZ.lst hlY)), dp_ints (SqL.of upd_same), shaped_ints _, shaped_ints _, _, rfl, iteN (neInts rfl) ⟨⟨_, _, rfl⟩, fin _ kZ⟩⟩
      · rw [List.concat_eq_append] at *
        have hlt : (L ++ [z]).length < 64 := by have := ok.dlen hl; omega
        refine iteP (by rw [dF (by simp)]; rfl) ?_
        refine ⟨_, rfl, 1, rfl, pd, _, -1, .int z, rfl, rfl, SqL.of hlY, by rw [List.map_append]; exact atI_last _ _, ?_⟩
        have eg : (L ++ [z]).getLast? = some z := by simp
        rw [eg]
        refine ⟨rfl, _, rfl, iteN (by show (!decide (V.int z = V.int z)) = false; rw [dT rfl]; rfl) ?_⟩
        refine ⟨_, rfl, _, rfl, pd, L ++ [z], rfl, SqL.of hlY, hlt, fun ys pr hperm hsort hpr => ?_⟩
        have hys := sorted_days hlr hperm hsort
        subst hys
        have kZ := Kd.new (F := []) (o := .lst ((L ++ [z]).map V.int)) hpr
        exact ⟨_, _, dp_ints (SqL.of (kZ.lst hlY)), dp_ints (SqL.of upd_same), shaped_ints _, shaped_ints _, _, rfl, iteN (neInts rfl) ⟨⟨_, _, rfl⟩, fin _ kZ⟩⟩
    · rintro σ HV ⟨⟨x12, x13, rfl⟩, kV⟩
      exact k _ (kU0.trans kV)
end
end KB
/-! part KW16 -/
namespace KB
open PySem L2
section
variable {P : Program} {w : World} {K : PySem.W.Frag} {mg : Str → Option Value} {base : Heap} {A : Ads}
theorem seq_inv {t u : TS} {D : Ends} {σ : L2.St} {H : Hp} (I : L2.St → Hp → Prop) (h1 : ∀ N : L2.St → Hp → Prop, (∀ σ H, I σ H → N σ H) → t { D with nx := N } σ H) (h2 : ∀ σ H, I σ H → u D σ H) : tSeq t u D σ H := h1 (u D) h2
theorem row_cat1 (t : Addr) (d : Qn) (x : Str) : [V.str x] ++ (rowV t d).drop 1 = rowV t (d.called x) := rfl
theorem twin_apart {H H' : Hp} {B B2 : Bh} {m : Bk} (hB : BankAt A H B m) (f : Fresh H B2) : Apart B B2 := hB.apart f
theorem rbI {H : Hp} {B B2 : Bh} {m m2 : Bk} (hB : BankAt A H B m) (hB2 : BankAt A H B2 m2) (ap : Apart B B2) (ok : m.Ok) (ok2 : m2.Ok) : DInsB A.cB (RB A) (.ref B.b) (.ref B2.b) (m.beq m2) H :=
  ⟨B.b, B2.b, _, _, _, _, rfl, rfl, hB.ins, hB2.ins, B, m, B2, m2, rfl, rfl, hB, hB2, ap, ok, ok2, rfl⟩
theorem rqI {H : Hp} {q q2 : Addr} {d d2 : Qn} (h1 : QAt A H q d) (h2 : QAt A H q2 d2) (ok : QOk d) (ok2 : QOk d2) : DInsB A.cQ (RQ A) (.ref q) (.ref q2) (decide (d = d2)) H := by
  obtain ⟨dx, t, i1, _⟩ := id h1
  obtain ⟨dy, t2, i2, _⟩ := id h2
  exact ⟨q, q2, dx, dy, _, _, rfl, rfl, i1, i2, d, d2, h1, h2, ok, ok2, rfl⟩
theorem ok_w_back_right (T : Txt K mg A) : FnOk P w K mg base CX0 7 A.a_w_back_right A.d_w_back_right P_w_back_right (sp_w_back_right A) := by
  have nd := sc_w_back_right.nd
  refine T.F_w_back_right.ok sc_w_back_right (fun vs H Q E h => ?_) (fun cdv Ar outer s H vs Q E hr h => ?_)
  · obtain ⟨B, m, label, wh, p, t, d, rfl, _⟩ := h
    rfl
  · obtain ⟨B, m, label, wh, p, t, d, rfl, hB, ok, hlab, hw0, hw14, hp, hta, okd, k⟩ := h
    have hu := hu_of hr
    obtain ⟨ds_B_taken_out2, hv_B_taken_out2, hb_B_taken_out2⟩ := T.bd_B_taken_out2
    obtain ⟨ds_B_last_day3, hv_B_last_day3, hb_B_last_day3⟩ := T.bd_B_last_day3
    refine ⟨_, (pss_cons (ps_par (i := 4) (j := 5) rfl nd rfl rfl (by decide) rfl rfl (pa_cons (pe_meth0 (pv 0) T.clB T.M_B_twin (ok_B_twin T) (hr.mono (by decide)) T.b_B_twin .nil pass0) (pa_cons (pe_meth (pv 0) T.clB T.M_B_days_of (ok_B_days_of T) (hr.mono (by decide)) T.b_B_days_of .nil pass0 (pa_cons (pv 1) pa_nil)) pa_nil)) rfl)
      (pss_cons (ps_set (i := 6) nd rfl (Or.inl rfl) (pe_cmpR op_in_seq (pv 1) (pe_meth0 (pv 0) T.clB T.M_B_names_in (ok_B_names_in T) (hr.mono (by decide)) T.b_B_names_in .nil pass0) rfl))
      (pss_cons (ps_if (pt_val (pv 6))
        (pss_cons (ps_expr (pe_meth (pv 0) T.clB T.M_B_taken_out (ok_B_taken_out T) (hr.mono (by decide)) hb_B_taken_out2 hv_B_taken_out2 pass0 (pa_cons (pv 1) pa_nil)))
          (pss_cons (ps_if (PW.pt (pw_or (pt_cmpR (op_eqB (rcB_ins (E := E0) (ok_B_eq T) T.eqB T.eqBf T.b_B_eq pass0) (hr.mono (by decide))) (pv 0) (pv 4) (nomark _)) (pw_or1 (pt_cmpR op_ne (pe_callB (call_lenOwn (E := E0) (ok_B_len T) T.lenB T.lenBf T.b_B_len pass0 (hr.mono (by decide))) (by rfl) T.m_len PySem.boot_len (pa_cons (pv 0) pa_nil)) (pe_op op_sub (pe_callB (call_lenOwn (E := E0) (ok_B_len T) T.lenB T.lenBf T.b_B_len pass0 (hr.mono (by decide))) (by rfl) T.m_len PySem.boot_len (pa_cons (pv 4) pa_nil)) (pe_int)) (nomark _)))))
            (pss_one (ps_ret (pe_bl)))
            pss_nil)
          (pss_one (ps_expr (pe_meth (pv 0) T.clB T.M_B_put_back (ok_B_put_back T) (hr.mono (by decide)) T.b_B_put_back .nil pass0 (pa_cons (pv 1) pa_nil))))))
        pss_nil)
      (pss_cons (ps_if (pt_cmpR op_notIn_seq (pv 2) (pv 5) rfl)
        (pss_cons (ps_expr (pe_meth (pv 0) T.clB T.M_B_used_on (ok_B_used_on T) (hr.mono (by decide)) T.b_B_used_on .nil pass0 (pa_cons (pv 1) (pa_cons (pv 2) pa_nil))))
          (pss_cons (ps_if (PW.pt (pw_or (pt_cmpR (op_eqB (rcB_ins (E := E0) (ok_B_eq T) T.eqB T.eqBf T.b_B_eq pass0) (hr.mono (by decide))) (pv 0) (pv 4) (nomark _)) (pw_or1 (pt_cmpR op_ne (pe_meth (pv 0) T.clB T.M_B_last_day (ok_B_last_day T) (hr.mono (by decide)) hb_B_last_day3 hv_B_last_day3 pass0 (pa_cons (pv 1) (pa_cons (pv 2) pa_nil))) (pv 2) (nomark _)))))
            (pss_one (ps_ret (pe_bl)))
            pss_nil)
          (pss_one (ps_expr (pe_meth (pv 0) T.clB T.M_B_unused_on (ok_B_unused_on T) (hr.mono (by decide)) T.b_B_unused_on .nil pass0 (pa_cons (pv 1) (pa_cons (pv 2) pa_nil)))))))
        pss_nil)
      (pss_cons (ps_set (i := 7) nd rfl (Or.inl rfl) (pe_meth (pv 0) T.clB T.M_B_question (ok_B_question T) (hr.mono (by decide)) T.b_B_question .nil pass0 (pa_cons (pv 1) pa_nil)))
      (pss_cons (ps_expr (pe_meth (pv 0) T.clB T.M_B_put (ok_B_put T) (hr.mono (by decide)) T.b_B_put .nil pass0 (pa_cons (pe_call (ok_w_made T) (hr.mono (by decide)) rfl T.m_w_made T.F_w_made.kp T.b_w_made .nil pass0 (pa_cons (pe_op op_catT (pe_tup (pa_cons (pv 1) pa_nil)) (pv 3)) pa_nil)) pa_nil)))
      (pss_cons (ps_if (pt_cmpR op_ne (pe_cmpR (op_eqB (rcB_ins (E := E0) (ok_B_eq T) T.eqB T.eqBf T.b_B_eq pass0) (hr.mono (by decide))) (pv 0) (pv 4) (nomark _)) (pe_cmpR (op_eqB (rcB_ins (E := E0) (ok_Q_eq T) T.eqQ T.eqQf T.b_Q_eq pass0) (hr.mono (by decide))) (pe_meth (pv 0) T.clB T.M_B_question (ok_B_question T) (hr.mono (by decide)) T.b_B_question .nil pass0 (pa_cons (pv 1) pa_nil)) (pv 7) (nomark _)) (nomark _))
        (pss_one (ps_ret (pe_bl)))
        pss_nil)
      (pss_cons (ps_expr (pe_meth (pv 0) T.clB T.M_B_put (ok_B_put T) (hr.mono (by decide)) T.b_B_put .nil pass0 (pa_cons (pv 7) pa_nil)))
      (pss_cons (ps_if (pt_cmpR (op_neB (E := E0) (ok_B_eq T) T.neB T.b_B_eq pass0 (hr.mono (by decide))) (pv 0) (pv 4) (nomark _))
        (pss_one (ps_ret (pe_bl)))
        pss_nil)
      (pss_cons (ps_if (PW.pt (pw_and (pt_val (pv 6)) (pw_and1 (pt_cmpR (op_eqD hr.units) (pv 5) (pe_lst pa_nil) (nomark _)))))
        (pss_cons (ps_expr (pe_meth (pv 0) T.clB T.M_B_dropped (ok_B_dropped T) (hr.mono (by decide)) T.b_B_dropped .nil pass0 (pa_cons (pv 1) pa_nil)))
          (pss_cons (ps_if (PW.pt (pw_or (pt_cmpR (op_eqB (rcB_ins (E := E0) (ok_B_eq T) T.eqB T.eqBf T.b_B_eq pass0) (hr.mono (by decide))) (pv 0) (pv 4) (nomark _)) (pw_or1 (pt_cmpR op_in_seq (pv 1) (pe_meth0 (pv 0) T.clB T.M_B_names (ok_B_names T) (hr.mono (by decide)) T.b_B_names .nil pass0) rfl))))
            (pss_one (ps_ret (pe_bl)))
            pss_nil)
          (pss_one (ps_expr (pe_meth (pv 0) T.clB T.M_B_added (ok_B_added T) (hr.mono (by decide)) T.b_B_added .nil pass0 (pa_cons (pv 7) pa_nil))))))
        pss_nil)
      (pss_one (ps_ret (pe_and (pe_cmpR (op_eqB (rcB_ins (E := E0) (ok_B_eq T) T.eqB T.eqBf T.b_B_eq pass0) (hr.mono (by decide))) (pv 0) (pv 4) (nomark _)) (pe_and (pe_cmpR (op_eqB (rcB_ins (E := E0) (ok_B_eq T) T.eqB T.eqBf T.b_B_eq pass0) (hr.mono (by decide))) (pv 4) (pv 0) (nomark _)) (pe_one (pe_cmpR (op_eqB (rcB_ins (E := E0) (ok_B_eq T) T.eqB T.eqBf T.b_B_eq pass0) (hr.mono (by decide))) (pe_meth0 (pv 0) T.clB T.M_B_twin (ok_B_twin T) (hr.mono (by decide)) T.b_B_twin .nil pass0) (pv 4) (nomark _))))))))))))))))), ?_⟩
    obtain ⟨l, hl⟩ := ok.dsome hlab
    obtain ⟨dl, hdl⟩ := ok.qsome hlab
    have hlr := (ok.ds label l hl).1
    have hlb := (ok.ds label l hl).2
    refine ⟨_, rfl, _, _, _, rfl, (hB).ins, rfl, B, m, rfl, hB, ok, fun H1 BK mk k1 hfr hBK g1 g2 g3 => ?_⟩
    have sk : Same mk m := twin_same g1 g2 g3
    have okk : mk.Ok := twin_ok ok g1 g2 g3
    have ap : Apart B BK := hB.apart hfr
    have apn : ∀ x, x ∈ BK.F → x ∉ B.F := fun x h1 h2 => ap x h2 h1
    have hB1 := hB.keep0 k1
    refine ⟨_, rfl, _, _, _, rfl, (hB1).ins, rfl, _, rfl, B, m, label, l, rfl, hB1, hlab, hl, fun H2 pd k2 hpd hpl => ⟨_, _, rfl, ?_⟩⟩
    have hB2 := hB1.keep0 k2
    have hBK2 := hBK.keep0 k2
    refine ⟨_, rfl, _, rfl, _, _, _, rfl, (hB2).ins, rfl, B, m, rfl, hB2, ok, fun H3 pn k3 hpn hnl => ?_⟩
    refine ⟨pn, _, rfl, .inl (SqL.of hnl), rfl, flat_str _, ?_⟩
    have kA : Kd B.F H H3 := ((k1.trans k2).trans k3).nil
    have hB3 := hB2.keep0 k3
    have hBK3 := hBK2.keep0 k3
    have hpl3 := k3.lst hpl
    have ein : (if false = true then !inV (V.str label) (m.namesIn.map V.str) else inV (V.str label) (m.namesIn.map V.str)) = decide (label ∈ m.namesIn) := inV_str label m.namesIn
    rw [ein]
    dsimp only [gName]
    obtain ⟨J, hJ⟩ : ∃ J : L2.St → Hp → Prop, J = fun σ H' => (∃ x7, σ = [some (.ref B.b), some (.str label), some (.int wh), some (.ref p), some (.ref BK.b), some (.ref pd), some (.bl (decide (label ∈ m.namesIn))), x7]) ∧ Kd B.F H H' ∧ BankAt A H' BK mk ∧ H' pd = some (.lst (l.map V.int)) ∧ ∃ m', BankAt A H' B m' ∧ m'.Ok ∧ Same m' m := ⟨_, rfl⟩
    have mkJ : ∀ x7 H' m', Kd B.F H H' → BankAt A H' BK mk → H' pd = some (.lst (l.map V.int)) → BankAt A H' B m' → m'.Ok → Same m' m → J [some (.ref B.b), some (.str label), some (.int wh), some (.ref p), some (.ref BK.b), some (.ref pd), some (.bl (decide (label ∈ m.namesIn))), x7] H' := fun x7 H' m' a b c d e f => by
      rw [hJ]
      exact ⟨⟨x7, rfl⟩, a, b, c, m', d, e, f⟩
    have hwr : TextOk "wrong" := by decide +kernel
    have hnl8 := namesInLen ok
    refine seq_inv J (fun N fin => ?_) ?_
    · refine ⟨_, rfl, _, rfl, iteB (fun h => ?_) (fun _ => fin _ _ (mkJ _ _ m kA hBK3 hpl3 hB3 ok (Same.refl m)))⟩
      have hin : label ∈ m.namesIn := of_decide_eq_true h
      have hrn := (mem_namesIn.mp hin).2
      refine ⟨_, rfl, _, _, _, rfl, (hB3).ins, rfl, _, rfl, B, m, label, "wrong", rfl, hB3, hlab, hwr, by have := ok.outLen; omega, fun H4 k4 hB4 => ?_⟩
      have ok4 := ok.takenOut hlab hwr
      have hBK4 := hBK3.keep k4 apn
      refine ⟨_, rfl, _, rfl, _, rbI hB4 hBK4 ap ok4 okk, fun H5 e5 => ⟨_, rfl, iteN (beq_false ok4 okk (taken_ne sk hrn)) ?_⟩⟩
      have k5 := Kd.of_ext (F := []) e5
      have hB5 := hB4.keep0 k5
      have hBK5 := hBK4.keep0 k5
      refine ⟨_, rfl, B.b, _, _, rfl, hB5.ins, B, _, rfl, hB5, ok4, fun H6 k6 => ⟨_, rfl, ?_, ?_⟩⟩
      · have := namesInLen ok4
        omega
      have hB6 := hB5.keep0 k6
      have hBK6 := hBK5.keep0 k6
      refine ⟨_, rfl, BK.b, _, _, rfl, hBK6.ins, BK, mk, rfl, hBK6, okk, fun H7 k7 => ⟨_, rfl, ?_, _, 1, rfl, rfl, rfl, _, rfl, iteN ?_ ?_⟩⟩
      · have := namesInLen okk
        omega
      · have e1 := taken_len (w := "wrong") ok hin
        have e2 := sk.namesIn okk ok
        have e3 : (((m.takenOut label "wrong").namesIn.length : Nat) : Int) = ((mk.namesIn.length : Nat) : Int) - 1 := by
          rw [e2]
          omega
        show (!decide (V.int _ = V.int _)) = false
        rw [e3, dT rfl]
        rfl
      · have k57 := (k5.trans k6).trans k7
        have hB7 := hB6.keep0 k7
        refine ⟨_, rfl, _, _, _, rfl, (hB7).ins, rfl, _, rfl, B, _, label, rfl, hB7, hlab, mem_keys_aput.mpr (.inl rfl), fun H8 k8 hB8 => fin _ _ (mkJ _ _ _ ((kA.trans k4).trans (k57.nil.trans k8)) ((hBK6.keep0 k7).keep k8 apn) (k8.lst (k57.lst (k4.lst hpl3))) hB8 ok4.putBack (taken_back (Same.refl m) hrn))⟩
    intro σ H4 hj
    rw [hJ] at hj
    obtain ⟨⟨x7, rfl⟩, k4, hBK4, hpl4, m4, hB4, ok4, s4⟩ := hj
    refine seq_inv J (fun N fin => ?_) ?_
    · have hk4 := s4.key.mpr hlab
      have hd4 : m4.d label = some l := by rw [s4.2.2]; exact hl
      refine ⟨_, rfl, _, rfl, pd, _, rfl, .inl (SqL.of hpl4), rfl, flat_int _, _, rfl, iteB (fun h => ?_) (fun _ => fin _ _ (mkJ _ _ m4 k4 hBK4 hpl4 hB4 ok4 s4))⟩
      have h : (!decide (wh ∈ l)) = true := by rw [← inV_int]; exact h
      have hno : wh ∉ l := by simpa using h
      refine ⟨_, rfl, _, _, _, rfl, (hB4).ins, rfl, _, rfl, _, rfl, B, m4, label, wh, l, rfl, hB4, hk4, hd4, hw0, by omega, ok4.dlen hd4, by have := ok4.daysLen; omega, fun h => absurd h hno, fun _ H5 p5 l' k5 hp5 hperm hsort hB5 => ?_⟩
      have hl' := days_put hperm hsort hlr hno
      have hin' : wh ∈ l' := hperm.mem_iff.mpr (List.mem_append.mpr (.inr (List.mem_singleton.mpr rfl)))
      have ok5 : (m4.setDays label p5 l').Ok := ok4.setDays hk4 hl' fun y hy => by
        rcases List.mem_append.mp (hperm.mem_iff.mp hy) with h | h
        · exact hlb y h
        · rw [List.mem_singleton.mp h]
          omega
      have hd5 : (m4.setDays label p5 l').d label = some l' := by rw [Bk.d_setDays, if_pos rfl]
      have hBK5 := hBK4.keep k5 apn
      refine ⟨_, rfl, _, rfl, _, rbI hB5 hBK5 ap ok5 okk, fun H6 e6 => ⟨_, rfl, iteN (beq_false ok5 okk (used_ne sk hl hno hperm)) ?_⟩⟩
      have k6 := Kd.of_ext (F := []) e6
      have hB6 := hB5.keep0 k6
      refine ⟨_, rfl, _, _, _, rfl, (hB6).ins, rfl, _, rfl, _, rfl, B, _, label, wh, l', rfl, hB6, hk4, hd5, hw0, by omega, ok5.dlen hd5, fun H7 k7 => ?_⟩
      rw [used_last hl' hin']
      refine ⟨_, rfl, rfl, _, rfl, iteN (by show (!decide (V.int wh = V.int wh)) = false; rw [dT rfl]; rfl) ?_⟩
      have hB7 := hB6.keep0 k7
      have k67 := k6.trans k7
      refine ⟨_, rfl, _, _, _, rfl, (hB7).ins, rfl, _, rfl, _, rfl, B, _, label, wh, l', rfl, hB7, hk4, hd5, hw0, by omega, hin', ok5.dlen hd5, by have := ok5.daysLen; omega, fun H8 p8 k8 hp8 hB8 => ?_⟩
      have s8 := used_back (p := p5) (p2 := p8) s4 hl hlr hno hl' hperm
      refine fin _ _ (mkJ _ _ _ ((k4.trans k5).trans (k67.nil.trans k8)) ((hBK5.keep0 k67).keep k8 apn) (k8.lst (k67.lst (k5.lst hpl4))) hB8 (ok5.setDays hk4 (hl'.filter _) fun y hy => (ok5.ds label l' hd5).2 y (List.mem_filter.mp hy).1) s8)
    intro σ H5 hj
    rw [hJ] at hj
    obtain ⟨⟨y7, rfl⟩, k5, hBK5, hpl5, m5, hB5, ok5, s5⟩ := hj
    have hk5 := s5.key.mpr hlab
    have hq5 : m5.q label = some dl := by rw [s5.1]; exact hdl
    obtain ⟨q5, hg5⟩ := q_some hq5
    have hQ5 := hB5.q hg5
    have hdn := (ok.nm label dl hdl).1
    have okdl := (ok.nm label dl hdl).2
    have hlabN : NameOk label := by rw [← hdn]; exact okdl.name
    refine ⟨_, rfl, _, _, _, rfl, (hB5).ins, rfl, _, rfl, B, m5, label, (q5, dl), rfl, hB5, hg5, ?_⟩
    -- put
    have hp5 := k5.tup hp
    have hta5 := k5.tupA hta
    refine ⟨_, rfl, _, _, _, rfl, (hB5).ins, rfl, _, rfl, by (show 1 ≤ sizeLine; decide), fun p6 hp6 => ?_⟩
    have k6 := Kd.new (F := []) (o := .tup [.str label]) hp6
    refine ⟨_, rfl, p6, p, _, _, rfl, rfl, .inl (.inl upd_same), .inl (.inl (k6.tup hp5)), (fun z => nomatch z), (by show 7 ≤ sizeLine; decide), (fun z => nomatch z), fun _ p7 hp7 => ?_⟩
    rw [row_cat1]
    have k7 := Kd.new (F := []) (o := .tup (rowV t (d.called label))) hp7
    have okd' := okd.called hlabN
    refine ⟨p7, t, d.called label, rfl, upd_same, k7.tupA (k6.tupA hta5), okd', fun H8 q8 k8 hq8 hQ8 => ?_⟩
    have k68 := (k6.trans k7).trans k8
    have hB8 := hB5.keep0 k68
    refine ⟨B, m5, q8, d.called label, rfl, hB8, hQ8, hk5, by have := ok5.len; omega, fun H9 k9 hB9 => ?_⟩
    have ok9 : (m5.putQ q8 (d.called label)).Ok := ok5.putQ hk5 okd'
    have k59 := k68.nil.trans k9
    have hBK9 := hBK5.keep k59 apn
    have hQ59 := hQ5.keep k59
    have hQ89 := hQ8.keep k9
    refine ⟨_, rfl, _, rfl, _, rbI hB9 hBK9 ap ok9 okk, fun H10 e10 => ?_⟩
    have k10 := Kd.of_ext (F := []) e10
    have hB10 := hB9.keep0 k10
    have hg9 : aget (m5.putQ q8 (d.called label)).kept label = some (q8, d.called label) := by
      show aget (aput m5.kept label (q8, d.called label)) label = _
      rw [aget_aput, if_pos rfl]
    refine ⟨_, rfl, _, _, _, rfl, (hB10).ins, rfl, _, rfl, B, _, label, (q8, d.called label), rfl, hB10, hg9, _, rfl, _, rqI (hQ89.keep k10) (hQ59.keep k10) okd' okdl, fun H11 e11 => ⟨rfl, _, rfl, iteN ?_ ?_⟩⟩
    · have e : (m5.putQ q8 (d.called label)).beq mk = decide (d.called label = dl) := by
        rw [Bool.eq_iff_iff, beq_iff ok9 okk, decide_eq_true_iff]
        exact put_iff s5 sk hdl rfl
      show (!decide (V.bl ((m5.putQ q8 (d.called label)).beq mk) = V.bl (decide (d.called label = dl)))) = false
      rw [e, dT rfl]
      rfl
    have k11 := Kd.of_ext (F := []) e11
    have k1011 := k10.trans k11
    have hB11 := hB10.keep0 k11
    have hk9 : dl.name ∈ keys (m5.putQ q8 (d.called label)).kept := by rw [hdn]; exact mem_keys_aput.mpr (.inl rfl)
    refine ⟨_, rfl, _, _, _, rfl, (hB11).ins, rfl, _, rfl, B, _, q5, dl, rfl, hB11, hQ59.keep k1011, hk9, by have := ok9.len; omega, fun H12 k12 hB12 => ?_⟩
    have ok12 := ok9.putQ (a := q5) hk9 okdl
    have s12 : Same ((m5.putQ q8 (d.called label)).putQ q5 dl) m := put_back s5 hdl rfl hdn
    have k912 := k1011.nil.trans k12
    have hBK12 := hBK9.keep k912 apn
    have t12 := s12.trans sk.symm
    refine ⟨_, rfl, _, rfl, _, rbI hB12 hBK12 ap ok12 okk, fun H13 e13 => ⟨_, rfl, iteN (by rw [beq_true ok12 okk t12]; rfl) ?_⟩⟩
    have k13 := Kd.of_ext (F := []) e13
    have hB13 := hB12.keep0 k13
    have hBK13 := hBK12.keep0 k13
    have k513 := (k59.trans k912).trans k13.nil
    have kk13 := k5.trans k513
    have hpl13 := k513.lst hpl5
    have hQ513 := (hQ59.keep k912).keep k13
    dsimp only [tNext]
    refine seq_inv J (fun N fin => ?_) ?_
    · refine ⟨_, rfl, _, rfl, iteB (fun h => ?_) (fun _ => iteF (fin _ _ (mkJ _ _ _ kk13 hBK13 hpl13 hB13 ok12 s12)))⟩
      have hin : label ∈ m.namesIn := of_decide_eq_true h
      have hrn := (mem_namesIn.mp hin).2
      refine ⟨_, rfl, by (show 0 ≤ sizeLine; decide), fun pe hpe => ?_⟩
      have k14 := Kd.new (F := []) (o := .lst []) hpe
      have he : (upd H13 pe (.lst [])) pe = some (.lst (([] : List Int).map V.int)) := upd_same
      have hB14 := hB13.keep0 k14
      have hBK14 := hBK13.keep0 k14
      refine ⟨_, _, dp_ints (SqL.of (k14.lst hpl13)), dp_ints (SqL.of he), shaped_ints l, shaped_ints [], _, rfl, iteB (fun h2 => ?_) (fun _ => fin _ _ (mkJ _ _ _ (kk13.trans k14.nil) hBK14 (k14.lst hpl13) hB14 ok12 s12))⟩
      rw [eqv_ints] at h2
      have hl0 : l = [] := of_decide_eq_true h2
      have hk12 := s12.key.mpr hlab
      refine ⟨_, rfl, _, _, _, rfl, (hB14).ins, rfl, _, rfl, B, _, label, rfl, hB14, hk12, (ok12.same label).mpr hk12, fun H15 k15 hB15 => ?_⟩
      have ok15 := ok12.dropped (n := label)
      have hBK15 := hBK14.keep k15 apn
      refine ⟨_, rfl, _, rfl, _, rbI hB15 hBK15 ap ok15 okk, fun H16 e16 => ⟨_, rfl, iteN (beq_false ok15 okk (drop_ne sk hlab)) ?_⟩⟩
      have k16 := Kd.of_ext (F := []) e16
      have hB16 := hB15.keep0 k16
      refine ⟨_, rfl, _, rfl, _, _, _, rfl, (hB16).ins, rfl, B, _, rfl, hB16, ok15, fun H17 pn2 k17 hpn2 hln2 => ?_⟩
      have hnot : label ∉ keys (((m5.putQ q8 (d.called label)).putQ q5 dl).dropped label).kept := fun h => (mem_keys_adrop.mp h).2 rfl
      refine ⟨pn2, _, rfl, .inl (SqL.of hln2), rfl, flat_str _, _, rfl, iteN ?_ ?_⟩
      · show inV (.str label) _ = false
        rw [inV_str]
        exact dF fun h => hnot (mem_names.mp h)
      have hB17 := hB16.keep0 k17
      have k1417 := (k14.nil.trans k15).trans (k16.trans k17).nil
      refine ⟨_, rfl, _, _, _, rfl, (hB17).ins, rfl, _, rfl, B, _, q5, dl, rfl, hB17, hQ513.keep k1417, by rw [hdn]; exact hnot, by have := ok15.len; omega, by have := ok15.daysLen; omega, fun H18 p18 k18 hp18 hB18 => ?_⟩
      have hlt : (((m5.putQ q8 (d.called label)).putQ q5 dl).dropped label).kept.length < 8 := by
        have h1 := length_adrop_mem ok12.kk hk12
        have h2 := ok12.len
        show (adrop ((m5.putQ q8 (d.called label)).putQ q5 dl).kept label).length < 8
        omega
      exact fin _ _ (mkJ _ _ _ ((kk13.trans k1417).trans k18) ((hBK13.keep k1417 apn).keep k18 apn) (k18.lst (k1417.lst hpl13)) hB18 (ok15.added (by rw [hdn]; exact hnot) okdl hlt) (drop_back s12 hdl hdn hrn (by rw [← hl0]; exact hl)))
    intro σ H6 hj
    rw [hJ] at hj
    obtain ⟨⟨z7, rfl⟩, k6', hBK6, hpl6, m6, hB6, ok6, s6⟩ := hj
    have t6 := s6.trans sk.symm
    refine ⟨_, rfl, _, rfl, _, rbI hB6 hBK6 ap ok6 okk, fun H7 e7 => ⟨_, rfl, iteP (beq_true ok6 okk t6) ?_⟩⟩
    have k7' := Kd.of_ext (F := []) e7
    have hB7 := hB6.keep0 k7'
    have hBK7 := hBK6.keep0 k7'
    refine ⟨_, rfl, _, rfl, _, rbI hBK7 hB7 ap.symm okk ok6, fun H8 e8 => ⟨_, rfl, iteP (beq_true okk ok6 t6.symm) ?_⟩⟩
    have k8' := Kd.of_ext (F := []) e8
    have hB8' := hB7.keep0 k8'
    have hBK8 := hBK7.keep0 k8'
    refine ⟨_, rfl, _, _, _, rfl, (hB8').ins, rfl, B, m6, rfl, hB8', ok6, fun H9 B3 m3 k9' hfr3 hB3' u1 u2 u3 => ?_⟩
    have ap3 : Apart B3 BK := (hBK8.apart hfr3).symm
    have ok3 := twin_ok ok6 u1 u2 u3
    have s3 := (twin_same u1 u2 u3).trans t6
    refine ⟨_, rfl, _, rbI hB3' (hBK8.keep0 k9') ap3 ok3 okk, fun H10 e10 => ?_⟩
    have k10' := Kd.of_ext (F := []) e10
    rw [beq_true ok3 okk s3]
    have kz := ((k7'.trans k8').trans k9').trans k10'
    exact k H10 m6 (k6'.trans kz.nil) (hB6.keep0 kz) ok6 s6
end
end KB
/-! part KW17 -/
namespace KB
open PySem L2
section
variable {P : Program} {w : World} {K : PySem.W.Frag} {mg : Str → Option Value} {base : Heap} {A : Ads}
/-- the scope of the comprehension in the test -/
def scIn : Scope := match (defBody s_w_calls_right).getD 6 (.Pass ⟨0, 0, 0, 0⟩) with
  | .If (.Compare (.ListComp _ _ sc _) _ _ _) _ _ _ => sc
  | _ => defScope s_w_calls_right
theorem zip_kv (ks : List Str) (l : List Str) : (ks.zip (l.map V.str)).map (fun q => ((Sum.inr q.1 : Key), q.2)) = kvOf V.str (ks.zip l) := by
  unfold kvOf
  rw [List.zip_map_right, List.map_map]
  rfl
theorem room10 {k : Nat} {C : Around} (h : Room k C) : C.units + 10 < cLine := by
  have := h.un
  omega
theorem cut_drop {α : Type} (xs : List V) {i : Int} {k : Nat} (e : i = (k : Int)) (h : k ≤ xs.length) : cutV xs (some i) none = xs.drop k := by
  subst e
  unfold cutV
  rw [HT.sIx_nat, HT.sIx_none]
  have e2 : min k xs.length = k := by omega
  rw [e2]
  exact List.take_of_length_le (by rw [List.length_drop]; omega)
abbrev dR (l : List (Str × Str)) : List PyData := l.map fun r => .tuple [.str r.1, .str r.2]
theorem dpAll_refs {H : Hp} : ∀ z : List (Addr × (Str × Str)), (∀ q, q ∈ z → H q.1 = some (.tup [.str q.2.1, .str q.2.2])) → DpAll K H (z.map fun q => V.ref q.1) (dR (z.map (·.2)))
  | [], _ => .nil
  | q :: r, h => .cons (.tup (.inl (.inl (h q (List.mem_cons_self ..)))) (.cons (.str _) (.cons (.str _) .nil))) (dpAll_refs r fun p hp => h p (List.mem_cons_of_mem _ hp))
theorem dp_rows {H : Hp} {p : Addr} {l : List (Str × Str)} (h : Rows H p (l.map fun r => [V.str r.1, V.str r.2])) : Dp K H (.ref p) (.list (dR l)) := by
  obtain ⟨z, h1, h2, h3⟩ := rows_pairs h
  rw [← h2]
  exact .lst (SqL.of h1) (dpAll_refs z h3)
theorem canAll_rows : ∀ l : List (Str × Str), (∀ r, r ∈ l → PyData.strOk r.1 = true ∧ PyData.strOk r.2 = true) → PyData.canLayAll0 (dR l) = true
  | [], _ => rfl
  | x :: r, h => by
    have h1 := h x (List.mem_cons_self ..)
    have e : PyData.canLay0 (.tuple [.str x.1, .str x.2]) = true := by
      show (PyData.strOk x.1 && (PyData.strOk x.2 && true)) = true
      rw [h1.1, h1.2]
      rfl
    show (PyData.canLay0 (.tuple [.str x.1, .str x.2]) && PyData.canLayAll0 (dR r)) = true
    rw [e, canAll_rows r fun y hy => h y (List.mem_cons_of_mem _ hy)]
    rfl
theorem depthAll_rows : ∀ l : List (Str × Str), PyData.depthAll (dR l) ≤ 1
  | [] => Nat.zero_le _
  | x :: r => by
    have ih := depthAll_rows r
    show max (PyData.depth (.tuple [.str x.1, .str x.2])) (PyData.depthAll (dR r)) ≤ 1
    have e : PyData.depth (.tuple [.str x.1, .str x.2]) = 1 := rfl
    omega
theorem shaped_rows {l : List (Str × Str)} (h : ∀ r, r ∈ l → PyData.strOk r.1 = true ∧ PyData.strOk r.2 = true) : SeqAt.shaped (.list (dR l)) = true := by
  unfold SeqAt.shaped
  have e : PyData.depth (.list (dR l)) = PyData.depthAll (dR l) + 1 := rfl
  have e2 : PyData.canLay0 (.list (dR l)) = PyData.canLayAll0 (dR l) := rfl
  have h1 := depthAll_rows l
  rw [e, e2, canAll_rows l h]
  exact decide_eq_true (by omega)
theorem neRows {a b : List (Str × Str)} (h : a = b) (hs : ∀ r, r ∈ b → PyData.strOk r.1 = true ∧ PyData.strOk r.2 = true) : (!PyData.eqv (.list (dR a)) (.list (dR b))) = false := by
  subst h
  have h1 : PyData.canLay0 (.list (dR a)) = true := canAll_rows a hs
  rw [SeqAt.eqv_refl _ h1]
  rfl
theorem outs_strOk {m : Bk} (ok : m.Ok) : ∀ r, r ∈ m.outsL → PyData.strOk r.1 = true ∧ PyData.strOk r.2 = true := fun r hr => by
  have h1 : r.1 ∈ keys m.outsL := List.mem_map.mpr ⟨r, hr, rfl⟩
  rw [keys_outsL, mem_srt] at h1
  have h2 : m.r r.1 = some r.2 := by
    rw [← aget_outsL ok]
    exact aget_of_mem (by rw [keys_outsL]; exact srt_nodup ok.kout) hr
  have h3 := ok.sub _ h1
  obtain ⟨d, hd⟩ := ok.qsome h3
  have h4 := ok.nm _ d hd
  refine ⟨?_, strOk_text (ok.txt _ _ h2)⟩
  rw [← h4.1]
  exact strOk_name h4.2.name
theorem names_ok {m : Bk} (ok : m.Ok) {n : Str} (h : n ∈ m.names) : NameOk n := by
  obtain ⟨d, hd⟩ := ok.qsome (mem_names.mp h)
  have h4 := ok.nm _ d hd
  rw [← h4.1]
  exact h4.2.name
theorem ok_w_calls_right (T : Txt K mg A) : FnG P w K mg base 7 A.a_w_calls_right A.d_w_calls_right P_w_calls_right (sp_w_calls_right A) := by
  have nd := sc_w_calls_right.nd
  refine fnG_of T.F_w_calls_right sc_w_calls_right (fun vs H Q E h => ?_) (fun cdv Ar outer s H vs Q hgu hr h => ?_)
  · obtain ⟨B, m, wh, span, rfl, _⟩ := h
    rfl
  · obtain ⟨B, m, wh, span, rfl, hB, ok, hw0, hw14, hs0, hs6, k⟩ := h
    have hu := hu_of hr
    obtain ⟨its_B_found_1_day_rest_least, hk_B_found_1_day_rest_least⟩ := T.bk_B_found_1_day_rest_least
    refine ⟨_, (pss_cons (ps_set (i := 3) nd rfl (Or.inl rfl) (pe_lst (pa_cons (pe_str) (pa_cons (pe_str) (pa_cons (pe_str) (pa_cons (pe_str) (pa_cons (pe_str) (pa_cons (pe_str) (pa_cons (pe_str) (pa_cons (pe_str) (pa_cons (pe_str) (pa_cons (pe_str) (pa_cons (pe_str) (pa_cons (pe_str) (pa_cons (pe_str) pa_nil)))))))))))))))
      (pss_cons (ps_set (i := 4) nd rfl (Or.inr rfl) (pe_dictZip rfl rfl T.m_dict rfl T.m_zip (pa_cons (pe_meth0 (pv 0) T.clB T.M_B_names (ok_B_names T) (hr.mono (by decide)) T.b_B_names .nil pass0) (pa_cons (pe_slice sl_list (pv 3) (po_some (pe_op op_mod (pe_callB call_len_seq (by rfl) T.m_len PySem.boot_len (pa_cons (pe_meth0 (pv 0) T.clB T.M_B_names (ok_B_names T) (hr.mono (by decide)) T.b_B_names .nil pass0) pa_nil)) (pe_int))) po_none) pa_nil))))
      (pss_cons (ps_set (i := 5) nd rfl (Or.inl rfl) (pe_call (ok_w_called T) (hr.mono (by decide)) rfl T.m_w_called T.F_w_called.kp T.b_w_called .nil pass0 (pa_cons (pv 0) (pa_cons (pv 4) pa_nil))))
      (pss_cons (ps_set (i := 6) nd rfl (Or.inl rfl) (pe_lst (pa_cons (pe_tup (pa_cons (pe_meth0 (pv 0) T.clB T.M_B_names (ok_B_names T) (hr.mono (by decide)) T.b_B_names .nil pass0) (pa_cons (pe_meth0 (pv 5) T.clB T.M_B_names (ok_B_names T) (hr.mono (by decide)) T.b_B_names .nil pass0) pa_nil))) (pa_cons (pe_tup (pa_cons (pe_meth0 (pv 0) T.clB T.M_B_names_in (ok_B_names_in T) (hr.mono (by decide)) T.b_B_names_in .nil pass0) (pa_cons (pe_meth0 (pv 5) T.clB T.M_B_names_in (ok_B_names_in T) (hr.mono (by decide)) T.b_B_names_in .nil pass0) pa_nil))) pa_nil))))
      (pss_cons (ps_expr (pe_bm PySem.F.plainAttrs_list PySem.F.slot_list_append PySem.F.type_list_append mt_append (pv 6) (pa_cons (pe_tup (pa_cons (pe_methN0 (pv 0) T.clB T.M_B_found (ok_B_found T) (hr.mono (by decide)) hk_B_found_1_day_rest_least pass0 (pk_cons (pv 1) (pk_cons (pv 2) (pk_cons (pe_int) pk_nil)))) (pa_cons (pe_methN0 (pv 5) T.clB T.M_B_found (ok_B_found T) (hr.mono (by decide)) hk_B_found_1_day_rest_least pass0 (pk_cons (pv 1) (pk_cons (pv 2) (pk_cons (pe_int) pk_nil)))) pa_nil))) pa_nil)))
      (pss_cons (ps_expr (pe_bm PySem.F.plainAttrs_list PySem.F.slot_list_append PySem.F.type_list_append mt_append (pv 6) (pa_cons (pe_tup (pa_cons (pe_call (ok_resting T) (hr.mono (by decide)) rfl T.m_resting T.F_resting.kp T.b_resting .nil pass0 (pa_cons (pv 0) (pa_cons (pv 1) (pa_cons (pv 2) pa_nil)))) (pa_cons (pe_call (ok_resting T) (hr.mono (by decide)) rfl T.m_resting T.F_resting.kp T.b_resting .nil pass0 (pa_cons (pv 5) (pa_cons (pv 1) (pa_cons (pv 2) pa_nil)))) pa_nil))) pa_nil)))
      (pss_cons (ps_if (pt_cmpR (op_neD hr.units) (pe_lc (own := [("_law_some", 8), ("_law_others", 9)]) (g := gTup K 2 (gCons (gName 8) (gCons (gName 9) gNil))) rfl nd (pi_list (pv 6)) (blkOk_by (N := N_w_calls_right) (sc := defScope s_w_calls_right) (by decide +kernel)) (fun _ _ _ _ _ => (pg_tup rfl (pgs_cons (pg_name (i := 8) nd rfl (Or.inl rfl)) (pgs_cons (pg_name (i := 9) nd rfl (Or.inl rfl)) pgs_nil)))) (fun _ _ _ _ _ => pts_one (pt_cmpR (op_neDK K rfl hr.units) (pe_lc (own := [("_law_one", 10)]) (g := gName 10) (tt := tYes) rfl nd (pi_listK K rfl (pv 8)) (blkOk_by (N := N_w_calls_right) (sc := relS scIn (defScope s_w_calls_right)) (by decide +kernel)) (fun _ _ _ _ _ => (pg_name (i := 10) nd rfl (Or.inl rfl))) (fun _ _ _ _ _ => pts_nil) (fun _ _ _ _ _ => (pe_dget hu (pv 4) (pv 10) (fun _ _ => rfl)))) (pv 9) (nomark _))) (fun _ _ _ _ _ => (pe_int))) (pe_lst pa_nil) (nomark _))
        (pss_one (ps_ret (pe_bl)))
        pss_nil)
      (pss_cons (ps_if (pt_cmpR (op_neD hr.units) (pe_lc (own := [("_law_one", 10), ("_law_reason", 11)]) (g := gTup K 2 (gCons (gName 10) (gCons (gName 11) gNil))) (tt := tYes) rfl nd (pi_list (pe_meth0 (pv 0) T.clB T.M_B_outs (ok_B_outs T) (hr.mono (by decide)) T.b_B_outs .nil pass0)) (blkOk_by (N := N_w_calls_right) (sc := defScope s_w_calls_right) (by decide +kernel)) (fun _ _ _ _ _ => (pg_tup rfl (pgs_cons (pg_name (i := 10) nd rfl (Or.inl rfl)) (pgs_cons (pg_name (i := 11) nd rfl (Or.inl rfl)) pgs_nil)))) (fun _ _ _ _ _ => pts_nil) (fun _ _ _ _ _ => (pe_tup (pa_cons (pe_dget hu (pv 4) (pv 10) (fun _ _ => rfl)) (pa_cons (pv 11) pa_nil))))) (pe_meth0 (pv 5) T.clB T.M_B_outs (ok_B_outs T) (hr.mono (by decide)) T.b_B_outs .nil pass0) (nomark _))
        (pss_one (ps_ret (pe_bl)))
        pss_nil)
      (pss_cons (ps_set (i := 7) nd rfl (Or.inl rfl) (pe_callTy (call_dictP rfl) (by rfl) T.m_dict (by decide +kernel) (pa_cons (pe_lock (pe_lc (own := [("_law_one", 10)]) (g := gName 10) (tt := tYes) rfl nd (pi_keys (pv 4)) (blkOk_by (N := N_w_calls_right) (sc := defScope s_w_calls_right) (by decide +kernel)) (fun _ _ _ _ _ => (pg_name (i := 10) nd rfl (Or.inl rfl))) (fun _ _ _ _ _ => pts_nil) (fun _ _ _ _ _ => (pe_tup (pa_cons (pe_dget hu (pv 4) (pv 10) (fun _ _ => rfl)) (pa_cons (pv 10) pa_nil)))))) pa_nil)))
      (pss_one (ps_ret (pe_and (pe_cmpR op_eq (pe_callB (call_reprD hgu (room10 hr)) (by rfl) T.m_repr (by decide +kernel) (pa_cons (pe_meth0 (pv 0) T.clB T.M_B_matters (ok_B_matters T) (hr.mono (by decide)) T.b_B_matters .nil pass0) pa_nil)) (pe_callB (call_reprD hgu (room10 hr)) (by rfl) T.m_repr (by decide +kernel) (pa_cons (pe_meth0 (pv 5) T.clB T.M_B_matters (ok_B_matters T) (hr.mono (by decide)) T.b_B_matters .nil pass0) pa_nil)) (nomark _)) (pe_one (pe_cmpR (op_eqB (rcB_ins (E := E0) (ok_B_eq T) T.eqB T.eqBf T.b_B_eq pass0) (hr.mono (by decide))) (pe_call (ok_w_called T) (hr.mono (by decide)) rfl T.m_w_called T.F_w_called.kp T.b_w_called .nil pass0 (pa_cons (pv 5) (pa_cons (pv 7) pa_nil))) (pv 0) (nomark _))))))))))))))), ?_⟩
    refine ⟨by (show 13 ≤ sizeLine; decide), fun pw hpw => ?_⟩
    have a1 := Kd.new (F := []) (o := .lst (wordsL.map V.str)) hpw
    have hw1 : (upd H pw (.lst (wordsL.map V.str))) pw = some (.lst (wordsL.map V.str)) := upd_same
    have hB1 := hB.keep0 a1
    refine ⟨_, rfl, _, _, _, rfl, (hB1).ins, rfl, B, m, rfl, hB1, ok, fun H2 p2 k2 hp2 hl2 => ?_⟩
    have hB2 := hB1.keep0 k2
    refine ⟨_, rfl, _, rfl, _, _, _, rfl, (hB2).ins, rfl, B, m, rfl, hB2, ok, fun H3 p3 k3 hp3 hl3 => ⟨p3, _, rfl, .inl (SqL.of hl3), _, 3, rfl, rfl, (by show (0 : Int) < _; decide), _, rfl, pw, _, rfl, SqL.of (k3.lst (k2.lst hw1)), fun p4 hp4 => ?_⟩⟩
    have hnl := namesLen ok
    have hnd := (names_SS ok).nodup
    obtain ⟨j, hj, hj2⟩ : ∃ j : Nat, (((m.names.map V.str).length : Nat) : Int) % 3 = (j : Int) ∧ j ≤ 2 := ⟨(m.names.map V.str).length % 3, by omega, by omega⟩
    have ecut : cutV (wordsL.map V.str) (some ((((m.names.map V.str).length : Nat) : Int) % 3)) none = (wordsL.drop j).map V.str := by
      rw [cut_drop (α := Unit) (wordsL.map V.str) hj (by rw [List.length_map]; show j ≤ 13; omega), List.map_drop]
    rw [ecut]
    have a4 := Kd.new (F := []) (o := .lst ((wordsL.drop j).map V.str)) hp4
    refine ⟨p2, p4, m.names, _, rfl, SqL.of (a4.lst (k3.lst hl2)), SqL.of upd_same, fun pc hpc => ?_⟩
    rw [zip_kv]
    have eck : keys (m.names.zip (wordsL.drop j)) = m.names := calls_keys hnl hj2
    rw [mergeK_nil V.str _ (by rw [eck]; exact hnd)]
    have a5 := Kd.new (F := []) (o := .dK (kvOf V.str (m.names.zip (wordsL.drop j)))) hpc
    have kA := ((((a1.trans k2).trans k3).trans a4).trans a5)
    have hcA := upd_same (H := upd H3 p4 (.lst ((wordsL.drop j).map V.str))) (a := pc) (o := .dK (kvOf V.str (m.names.zip (wordsL.drop j))))
    generalize upd (upd H3 p4 (.lst ((wordsL.drop j).map V.str))) pc (.dK (kvOf V.str (m.names.zip (wordsL.drop j)))) = HA at kA hcA ⊢
    have hBA := hB.keep0 kA
    -- the other bank
    have hfg : ∀ n, n ∈ keys m.kept → aget (callsOf m.names j) n = some (fOf m.names j n) := fun n hn => calls_get hnl hj2 (mem_names.mpr hn)
    refine ⟨_, rfl, _, rfl, B, m, pc, callsOf m.names j, fOf m.names j, rfl, hBA, ok, hcA, hfg, fun n hn => calls_ok hnl hj2 (mem_names.mpr hn), fun n hn n' hn' e => calls_inj hnl hj2 hnd (mem_names.mpr hn) (mem_names.mpr hn') e, fun HB BO mo kB hfr hBO hC => ?_⟩
    have hSS : SS (m.names.map (fOf m.names j)) := calls_SS hnl hj2 hnd
    obtain ⟨f, hf⟩ : ∃ f, fOf m.names j = f := ⟨_, rfl⟩
    rw [hf] at hC hSS hfg
    have hBb := hBA.keep0 kB
    have hcB := kB.dK hcA (fun z => nomatch z)
    have kB0 := kA.trans kB
    -- the rows
    refine ⟨_, rfl, _, _, _, rfl, (hBb).ins, rfl, B, m, rfl, hBb, ok, fun H6 q1 k6 hq1 hl1 => ?_⟩
    have hBO6 := hBO.keep0 k6
    refine ⟨_, rfl, _, _, _, rfl, (hBO6).ins, rfl, BO, mo, rfl, hBO6, hC.ok, fun H7 q2 k7 hq2 hl2' => ⟨by (show 2 ≤ sizeLine; decide), fun t1 ht1 => ?_⟩⟩
    have b1 := Kd.new (F := []) (o := .tup [.ref q1, .ref q2]) ht1
    have k67 := (k6.trans k7).trans b1
    have hBc := hBb.keep0 k67
    refine ⟨_, rfl, _, _, _, rfl, (hBc).ins, rfl, B, m, rfl, hBc, ok, fun H8 q3 k8 hq3 hl3' => ?_⟩
    have hBO8 := (hBO.keep0 k67).keep0 k8
    refine ⟨_, rfl, _, _, _, rfl, (hBO8).ins, rfl, BO, mo, rfl, hBO8, hC.ok, fun H9 q4 k9 hq4 hl4 => ⟨by (show 2 ≤ sizeLine; decide), fun t2 ht2 => ⟨by (show 2 ≤ sizeLine; decide), fun pr hpr => ?_⟩⟩⟩
    have b2 := Kd.new (F := []) (o := .tup [.ref q3, .ref q4]) ht2
    have b3 := Kd.new (F := []) (o := .lst [.ref t1, .ref t2]) hpr
    have k89 := (k8.trans k9).trans (b2.trans b3)
    have hprR := upd_same (H := upd H9 t2 (.tup [.ref q3, .ref q4])) (a := pr) (o := .lst [.ref t1, .ref t2])
    have ht1R := k89.tup (upd_same (H := H7) (a := t1) (o := .tup [.ref q1, .ref q2]))
    have ht2R := b3.tup (upd_same (H := H9) (a := t2) (o := .tup [.ref q3, .ref q4]))
    have hl1R := k89.lst (b1.lst (k7.lst hl1))
    have hl2R := k89.lst (b1.lst hl2')
    have hl3R := (b2.trans b3).lst (k9.lst hl3')
    have hl4R := (b2.trans b3).lst hl4
    have kC := k67.trans k89
    have n1 : q1 ≠ pr := ne_of_none (b2.lst (k9.lst (k8.lst (b1.lst (k7.lst hl1))))) hpr
    have n2 : q2 ≠ pr := ne_of_none (b2.lst (k9.lst (k8.lst (b1.lst hl2')))) hpr
    have n3 : q3 ≠ pr := ne_of_none (b2.lst (k9.lst hl3')) hpr
    have n4 : q4 ≠ pr := ne_of_none (b2.lst hl4) hpr
    have hpr0 : HB pr = none := ((k67.trans (k8.trans k9)).trans b2).back _ hpr
    generalize upd (upd H9 t2 (.tup [.ref q3, .ref q4])) pr (.lst [.ref t1, .ref t2]) = HC at hprR ht1R ht2R hl1R hl2R hl3R hl4R kC ⊢
    rw [hC.names hSS] at hl2R
    rw [hC.namesIn hSS] at hl4R
    have hpc0 : HB pc ≠ none := by rw [hcB]; exact fun z => nomatch z
    have npc : pc ≠ pr := fun e => hpc0 (e ▸ hpr0)
    have m1 : t1 ≠ pr := fun e => by rw [e, hprR] at ht1R; cases ht1R
    have m2' : t2 ≠ pr := fun e => by rw [e, hprR] at ht2R; cases ht2R
    have hBd := hBb.keep0 kC
    have hBOd := hBO.keep0 kC
    -- found
    refine ⟨_, rfl, .inl ⟨rfl, _, SqL.of hprR⟩, _, rfl, _, _, _, rfl, (hBd).ins, rfl, _, rfl, _, rfl, rfl, rfl, B, m, "", 3, 9, "", some wh, span, rfl, hBd, ok, (fun i z => by cases z; exact ⟨hw0, by omega⟩), fun H10 q5 k10 hq5 hl5 => ?_⟩
    have hBO10 := hBOd.keep0 k10
    refine ⟨_, rfl, _, _, _, rfl, (hBO10).ins, rfl, _, rfl, _, rfl, rfl, rfl, BO, mo, "", 3, 9, "", some wh, span, rfl, hBO10, hC.ok, (fun i z => by cases z; exact ⟨hw0, by omega⟩), fun H11 q6 k11 hq6 hl6 => ⟨by (show 2 ≤ sizeLine; decide), fun t3 ht3 => ?_⟩⟩
    have b4 := Kd.new (F := []) (o := .tup [.ref q5, .ref q6]) ht3
    have kx := (k10.trans k11).trans b4
    refine ⟨pr, _, _, rfl, rfl, kx.lst hprR, by (show 2 < sizeLine; decide), ?_⟩
    rw [hC.found hSS] at hl6
    have n5 : q5 ≠ pr := (ne_of_none hprR hq5).symm
    have n6 : q6 ≠ pr := (ne_of_none (k10.lst hprR) hq6).symm
    have m3 : t3 ≠ pr := (ne_of_none ((k10.trans k11).lst hprR) ht3).symm
    have kD := (kC.trans kx).mut (o := .lst ([.ref t1, .ref t2] ++ [.ref t3])) hpr0
    have up : ∀ a o, (upd H11 t3 (.tup [.ref q5, .ref q6])) a = some o → a ≠ pr → (upd (upd H11 t3 (.tup [.ref q5, .ref q6])) pr (.lst ([.ref t1, .ref t2] ++ [.ref t3]))) a = some o := fun a o h n => by rw [upd_ne n]; exact h
    have hl1S := up _ _ (kx.lst hl1R) n1
    have hl2S := up _ _ (kx.lst hl2R) n2
    have hl3S := up _ _ (kx.lst hl3R) n3
    have hl4S := up _ _ (kx.lst hl4R) n4
    have hl5S := up _ _ (b4.lst (k11.lst hl5)) n5
    have hl6S := up _ _ (b4.lst hl6) n6
    have ht1S := up _ _ (kx.tup ht1R) m1
    have ht2S := up _ _ (kx.tup ht2R) m2'
    have ht3S := up _ _ (upd_same (H := H11) (a := t3) (o := .tup [.ref q5, .ref q6])) m3
    have hprS := upd_same (H := upd H11 t3 (.tup [.ref q5, .ref q6])) (a := pr) (o := .lst ([.ref t1, .ref t2] ++ [.ref t3]))
    generalize upd (upd H11 t3 (.tup [.ref q5, .ref q6])) pr (.lst ([.ref t1, .ref t2] ++ [.ref t3])) = HD at kD hl1S hl2S hl3S hl4S hl5S hl6S ht1S ht2S ht3S hprS ⊢
    have hBe := hBb.keep0 kD
    have hBOe := hBO.keep0 kD
    -- at rest
    refine ⟨_, rfl, .inl ⟨rfl, _, SqL.of hprS⟩, _, rfl, _, rfl, _, rfl, B, m, wh, span, rfl, hBe, ok, hw0, by omega, hs0, by omega, fun H12 q7 k12 hq7 hl7 => ?_⟩
    have hBO12 := hBOe.keep0 k12
    refine ⟨_, rfl, _, rfl, _, rfl, BO, mo, wh, span, rfl, hBO12, hC.ok, hw0, by omega, hs0, by omega, fun H13 q8 k13 hq8 hl8 => ⟨by (show 2 ≤ sizeLine; decide), fun t4 ht4 => ?_⟩⟩
    have b5 := Kd.new (F := []) (o := .tup [.ref q7, .ref q8]) ht4
    have ky := (k12.trans k13).trans b5
    refine ⟨pr, _, _, rfl, rfl, ky.lst hprS, by (show 3 < sizeLine; decide), ?_⟩
    rw [hC.resting hSS] at hl8
    have n7 : q7 ≠ pr := (ne_of_none hprS hq7).symm
    have n8 : q8 ≠ pr := (ne_of_none (k12.lst hprS) hq8).symm
    have m4 : t4 ≠ pr := (ne_of_none ((k12.trans k13).lst hprS) ht4).symm
    have kE := (kD.trans ky).mut (o := .lst (([.ref t1, .ref t2] ++ [.ref t3]) ++ [.ref t4])) hpr0
    have up2 : ∀ a o, (upd H13 t4 (.tup [.ref q7, .ref q8])) a = some o → a ≠ pr → (upd (upd H13 t4 (.tup [.ref q7, .ref q8])) pr (.lst (([.ref t1, .ref t2] ++ [.ref t3]) ++ [.ref t4]))) a = some o := fun a o h n => by rw [upd_ne n]; exact h
    have hl1T := up2 _ _ (ky.lst hl1S) n1
    have hl2T := up2 _ _ (ky.lst hl2S) n2
    have hl3T := up2 _ _ (ky.lst hl3S) n3
    have hl4T := up2 _ _ (ky.lst hl4S) n4
    have hl5T := up2 _ _ (ky.lst hl5S) n5
    have hl6T := up2 _ _ (ky.lst hl6S) n6
    have hl7T := up2 _ _ (b5.lst (k13.lst hl7)) n7
    have hl8T := up2 _ _ (b5.lst hl8) n8
    have ht1T := up2 _ _ (ky.tup ht1S) m1
    have ht2T := up2 _ _ (ky.tup ht2S) m2'
    have ht3T := up2 _ _ (ky.tup ht3S) m3
    have ht4T := up2 _ _ (upd_same (H := H13) (a := t4) (o := .tup [.ref q7, .ref q8])) m4
    have hprT := upd_same (H := upd H13 t4 (.tup [.ref q7, .ref q8])) (a := pr) (o := .lst (([.ref t1, .ref t2] ++ [.ref t3]) ++ [.ref t4]))
    generalize upd (upd H13 t4 (.tup [.ref q7, .ref q8])) pr (.lst (([.ref t1, .ref t2] ++ [.ref t3]) ++ [.ref t4])) = HE at kE hl1T hl2T hl3T hl4T hl5T hl6T hl7T hl8T ht1T ht2T ht3T ht4T hprT ⊢
    have hBf := hBb.keep0 kE
    have hBOf := hBO.keep0 kE
    have hcE := kE.dK hcB (fun z => nomatch z)
    -- the test of the rows
    obtain ⟨Z, hZ⟩ : ∃ Z : List (Addr × Addr × Addr × List Str), Z = [(t1, q1, q2, m.names), (t2, q3, q4, m.namesIn), (t3, q5, q6, m.foundL "" 3 9 "" (some wh) span), (t4, q7, q8, m.namesIn.filter fun n => restsB ((m.d n).getD []) wh span)] := ⟨_, rfl⟩
    have hZl : HE pr = some (.lst (Z.map fun z => .ref z.1)) := by rw [hprT, hZ]; rfl
    have hZf : ∀ z, z ∈ Z → HE z.1 = some (.tup [.ref z.2.1, .ref z.2.2.1]) ∧ HE z.2.1 = some (.lst (z.2.2.2.map V.str)) ∧ HE z.2.2.1 = some (.lst ((z.2.2.2.map f).map V.str)) ∧ z.2.2.2.length ≤ 8 ∧ ∀ n, n ∈ z.2.2.2 → n ∈ m.names := by
      intro z hz
      have hin : ∀ n, n ∈ m.namesIn → n ∈ m.names := fun n hn => (List.mem_filter.mp hn).1
      rw [hZ] at hz
      simp only [List.mem_cons, List.not_mem_nil, or_false] at hz
      rcases hz with rfl | rfl | rfl | rfl
      · exact ⟨ht1T, hl1T, hl2T, hnl, fun n h => h⟩
      · exact ⟨ht2T, hl3T, hl4T, namesInLen ok, hin⟩
      · exact ⟨ht3T, hl5T, hl6T, found_len ok "" 3 9 "" (some wh) span, fun n h => hin n (List.mem_filter.mp h).1⟩
      · exact ⟨ht4T, hl7T, hl8T, Nat.le_trans (List.length_filter_le _ _) (namesInLen ok), fun n h => hin n (List.mem_filter.mp h).1⟩
    have hZ4 : Z.length ≤ 8 := by rw [hZ]; show 4 ≤ 8; decide
    refine ⟨_, rfl, pr, rfl, ⟨_, SqL.of hZl⟩, fun D hD => ?_⟩
    refine lcL Z [] (fun z => .ref z.1) (fun _ => .int 1) (fun _ => false) hD (line9 hZ4) (SqL.of hZl) (fun z H14 R hz k14 kt kf => ?_) (fun H14 k14 h14 => ?_)
    · obtain ⟨z1, z2, z3, z4, z5⟩ := hZf z hz
      refine ⟨z.1, _, rfl, .inl (.inl (k14.tup z1)), rfl, _, _, rfl, _, _, rfl, rfl, rfl, ?_⟩
      have hz2 := k14.lst z2
      refine ⟨_, rfl, z.2.1, rfl, ⟨_, SqL.of hz2⟩, fun D2 hD2 => ?_⟩
      refine lcL z.2.2.2 [] V.str (fun n => .str (f n)) (fun _ => true) hD2 (line9 z4) (SqL.of hz2) (fun n H15 R2 hn k15 kt2 kf2 => ⟨rfl, ?_⟩) (fun H15 k15 h15 => ?_)
      · have hc15 := k15.dK (k14.dK hcE (fun z => nomatch z)) (fun z => nomatch z)
        have hg : DGet H15 pc (.str n) (some (.str (f n))) := by
          have g := DGet.k (k := Sum.inr n) hc15
          rw [valV_kv, show aget (m.names.zip (wordsL.drop j)) n = some (f n) from hfg n (mem_names.mp (z5 n hn))] at g
          exact g
        exact ⟨_, rfl, _, rfl, pc, _, rfl, hg, kt2 _ rfl .refl⟩
      · rw [filter_true] at h15
        have e15 : z.2.2.2.map (fun n => V.str (f n)) = (z.2.2.2.map f).map V.str := by rw [List.map_map]; rfl
        rw [e15] at h15
        have hso : ∀ y, y ∈ z.2.2.2.map f → PyData.strOk y = true := fun y hy => by
          obtain ⟨n, hn, rfl⟩ := List.mem_map.mp hy
          rw [← hf]
          exact strOk_name (calls_ok hnl hj2 (z5 n hn))
        refine ⟨_, rfl, _, _, dp_strs (SqL.of h15), dp_strs (SqL.of (k15.lst (k14.lst z3))), shaped_strs hso, shaped_strs hso, _, rfl, iteN (neStrs rfl) ?_⟩
        exact kf _ rfl k15
    have e14 : (Z.filter fun _ => false).map (fun _ => V.int 1) = ([] : List Int).map V.int := by
      rw [List.filter_eq_nil_iff.mpr fun _ _ => Bool.false_ne_true]
      rfl
    rw [e14] at h14
    refine ⟨by (show 0 ≤ sizeLine; decide), fun pe hpe => ?_⟩
    have b6 := Kd.new (F := []) (o := .lst []) hpe
    have he6 : (upd H14 pe (.lst [])) pe = some (.lst (([] : List Int).map V.int)) := upd_same
    refine ⟨_, _, dp_ints (SqL.of (b6.lst h14)), dp_ints (SqL.of he6), shaped_ints _, shaped_ints _, _, rfl, iteN (neInts rfl) ?_⟩
    have kF := (kE.trans k14).trans b6
    have hBg := hBb.keep0 kF
    have hBOg := hBO.keep0 kF
    have hcF := kF.dK hcB (fun z => nomatch z)
    generalize upd H14 pe (.lst []) = HF at kF hBg hBOg hcF ⊢
    -- the outs
    refine ⟨_, rfl, _, _, _, rfl, (hBg).ins, rfl, B, m, rfl, hBg, ok, fun HG po kG hpo hrows => ?_⟩
    obtain ⟨z, hz1, hz2, hz3⟩ := rows_pairs hrows
    have hzl : z.length ≤ 8 := by
      have := congrArg List.length hz2
      rw [List.length_map] at this
      rw [this]
      unfold Bk.outsL
      rw [List.length_map, (srt_perm _).length_eq]
      have h1 : (keys m.out).length = m.out.length := List.length_map ..
      rw [h1]
      exact ok.outLen
    have hcG := kG.dK hcF (fun z => nomatch z)
    have hzk : ∀ q, q ∈ z → q.2.1 ∈ m.names := fun q hq => by
      have h1 : q.2 ∈ m.outsL := by rw [← hz2]; exact List.mem_map.mpr ⟨q, hq, rfl⟩
      have h2 : q.2.1 ∈ keys m.outsL := List.mem_map.mpr ⟨q.2, h1, rfl⟩
      rw [keys_outsL, mem_srt] at h2
      exact mem_names.mpr (ok.sub _ h2)
    refine ⟨po, rfl, ⟨_, SqL.of hz1⟩, fun D3 hD3 => ?_⟩
    refine lcRowsL z [] (fun q => .ref q.1) (fun q => [.str (f q.2.1), .str q.2.2]) hD3 (line9 hzl) (SqL.of hz1) (fun q H16 R hq k16 kt => ?_) (fun H16 k16 h16 => ?_)
    · have hc16 := k16.dK hcG (fun z => nomatch z)
      have hg : DGet H16 pc (.str q.2.1) (some (.str (f q.2.1))) := by
        have g := DGet.k (k := Sum.inr q.2.1) hc16
        rw [valV_kv, show aget (m.names.zip (wordsL.drop j)) q.2.1 = some (f q.2.1) from hfg _ (mem_names.mp (hzk q hq))] at g
        exact g
      exact ⟨q.1, _, rfl, .inl (.inl (k16.tup (hz3 q hq))), rfl, _, _, rfl, _, _, rfl, rfl, rfl, _, rfl, _, rfl, pc, _, rfl, hg, _, rfl, by (show 2 ≤ sizeLine; decide), fun t ht => kt _ t (.new ht) upd_same⟩
    have eo : z.map (fun q => [V.str (f q.2.1), V.str q.2.2]) = mo.outsL.map fun r => [V.str r.1, V.str r.2] := by
      rw [hC.outs ok hSS, ← hz2, List.map_map, List.map_map]
      rfl
    rw [eo] at h16
    have kG16 := kG.trans k16
    have hBOh := hBOg.keep0 kG16
    refine ⟨_, rfl, _, _, _, rfl, (hBOh).ins, rfl, BO, mo, rfl, hBOh, hC.ok, fun H17 po2 k17 hpo2 hrows2 => ?_⟩
    have hso2 := outs_strOk hC.ok
    refine ⟨_, _, dp_rows (h16.keep k17), dp_rows hrows2, shaped_rows hso2, shaped_rows hso2, _, rfl, iteN (neRows rfl hso2) ?_⟩
    have kH := (kF.trans kG16).trans k17
    have hBi := hBb.keep0 kH
    have hBOi := hBO.keep0 kH
    have hcH := kH.dK hcB (fun z => nomatch z)
    -- the way back
    refine ⟨pc, _, hcH, trivial, fun od => ⟨_, rfl, pc, od, rfl, .inl ⟨_, upd_same, fun D4 hD4 => ?_⟩⟩⟩
    have hcl : (m.names.zip (wordsL.drop j)).length ≤ 8 := by
      rw [List.length_zip]
      omega
    refine lcRowsK (m.names.zip (wordsL.drop j)) V.str [] (fun n => [.str (f n), .str n]) hD4 (line9 hcl) upd_same (fun n H18 R hn k18 kt => ?_) (fun H18 k18 h18 => ?_)
    · rw [eck] at hn
      have hg : DGet H18 pc (.str n) (some (.str (f n))) := by
        have g : DGet H18 pc (kV (Sum.inr n)) (valV (kvOf V.str (m.names.zip (wordsL.drop j))) (Sum.inr n)) := .inl ⟨_, Sum.inr n, .inr ⟨od, k18.frz upd_same⟩, rfl, rfl⟩
        rw [valV_kv, show aget (m.names.zip (wordsL.drop j)) n = some (f n) from hfg n (mem_names.mp hn)] at g
        exact g
      exact ⟨rfl, _, rfl, _, rfl, pc, _, rfl, hg, _, rfl, by (show 2 ≤ sizeLine; decide), fun t ht => kt _ t (.new ht) upd_same⟩
    refine ⟨k18.frz upd_same, ?_⟩
    have ku := k18.unlock hcH
    rw [eck] at h18
    obtain ⟨y, hy1, hy2, hy3⟩ := rows_pairs h18
    have hd18 := k18.frz (o := od) (u := .dK (kvOf V.str (m.names.zip (wordsL.drop j)))) upd_same
    have hy1u : (upd H18 pc (.dK (kvOf V.str (m.names.zip (wordsL.drop j))))) D4 = some (.lst (y.map fun q => .ref q.1)) := by
      rw [upd_ne fun e => by rw [e, hd18] at hy1; cases hy1]
      exact hy1
    have hy3u : ∀ q, q ∈ y → (upd H18 pc (.dK (kvOf V.str (m.names.zip (wordsL.drop j))))) q.1 = some (.tup [.str (f q.2), .str q.2]) := fun q hq => by
      have h := hy3 q hq
      rw [upd_ne fun e => by rw [e, hd18] at h; cases h]
      exact h
    generalize upd H18 pc (.dK (kvOf V.str (m.names.zip (wordsL.drop j)))) = HI at ku hy1u hy3u ⊢
    have ey : (y.map fun q => V.ref q.1) = (y.map (·.1)).map V.ref := by rw [List.map_map]; rfl
    have eb : kvOf V.str (backOf m.names j) = y.map fun q => ((Sum.inr (f q.2) : Key), V.str q.2) := by
      unfold kvOf backOf
      rw [hf]
      have e1 : m.names.map (fun n => ((f n, n) : Str × Str)) = (y.map (·.2)).map fun n => ((f n, n) : Str × Str) := by rw [hy2]
      rw [e1, List.map_map, List.map_map]
      rfl
    refine ⟨D4, y.map (·.1), kvOf V.str (backOf m.names j), rfl, by rw [← ey]; exact SqL.of hy1u, ?_, fun pb hpb => ?_⟩
    · rw [eb]
      exact paired_map _ _ y fun q hq => .inl (.inl (hy3u q hq))
    have hbnd : (keys (backOf m.names j)).Nodup := by rw [back_keys, hf]; exact hSS.nodup
    rw [mergeK_nil V.str _ hbnd]
    have b7 := Kd.new (F := []) (o := .dK (kvOf V.str (backOf m.names j))) hpb
    have kJ := (kH.trans ku).trans b7
    have hpbJ := upd_same (H := HI) (a := pb) (o := .dK (kvOf V.str (backOf m.names j)))
    generalize upd HI pb (.dK (kvOf V.str (backOf m.names j))) = HJ at kJ hpbJ ⊢
    have hBj := hBb.keep0 kJ
    have hBOj := hBO.keep0 kJ
    -- told the same
    obtain ⟨w1, w2, w3⟩ := show_ok (counts_ok ok) (counts_len ok)
    refine ⟨_, rfl, _, _, _, rfl, (hBj).ins, rfl, B, m, rfl, hBj, ok, fun H19 pm k19 hpm hm19 => ⟨pm, countsOf m.mattersL, rfl, hm19, w1, w2, w3, ?_⟩⟩
    have hBOk := hBOj.keep0 k19
    refine ⟨_, rfl, _, _, _, rfl, (hBOk).ins, rfl, BO, mo, rfl, hBOk, hC.ok, fun H20 pm2 k20 hpm2 hm20 => ⟨pm2, countsOf mo.mattersL, rfl, hm20, ?_⟩⟩
    rw [hC.matters hSS]
    refine ⟨w1, w2, w3, rfl, _, rfl, iteP (dT rfl) ?_⟩
    have k1920 := k19.trans k20
    have hBl := hBj.keep0 k1920
    have hBOl := hBOj.keep0 k1920
    have hpb20 := k1920.dK hpbJ (fun z => nomatch z)
    have hgk : ∀ x, x ∈ keys mo.kept → ∃ n, n ∈ m.names ∧ f n = x := fun x hx => by
      obtain ⟨n, hn, e⟩ := hC.keys.mp hx
      exact ⟨n, mem_names.mpr hn, e⟩
    have hgf : ∀ n, n ∈ m.names → gOf m.names j (f n) = n := fun n hn => by rw [← hf]; exact gOf_f hnl hj2 hnd hn
    refine ⟨_, rfl, _, rfl, BO, mo, pb, backOf m.names j, gOf m.names j, rfl, hBOl, hC.ok, hpb20, fun x hx => ?_, fun x hx => ?_, fun x hx x' hx' e => ?_, fun H21 B3 m3 k21 hfr3 hB3 hC3 => ?_⟩
    · obtain ⟨n, hn, rfl⟩ := hgk x hx
      rw [hgf n hn, ← hf]
      exact back_get hnl hj2 hnd hn
    · obtain ⟨n, hn, rfl⟩ := hgk x hx
      rw [hgf n hn]
      exact names_ok ok hn
    · obtain ⟨n, hn, rfl⟩ := hgk x hx
      obtain ⟨n', hn', rfl⟩ := hgk x' hx'
      rw [hgf n hn, hgf n' hn'] at e
      rw [e]
    have hBm := hBl.keep0 k21
    have s3 := hC.back hC3 ok fun n hn => hgf n (mem_names.mpr hn)
    refine ⟨_, rfl, _, rbI hB3 hBm (hBl.apart hfr3).symm hC3.ok ok, fun H22 e22 => ?_⟩
    rw [beq_true hC3.ok ok s3]
    exact k _ ((((kB0.trans kJ).trans k1920).trans k21).trans (Kd.of_ext e22))
end
end KB
/-! part KW18 -/
namespace KB
open PySem L2
section
variable {P : Program} {w : World} {K : PySem.W.Frag} {mg : Str → Option Value} {base : Heap} {A : Ads}
theorem cut_row (t : Addr) (d : Qn) : cutV (rowV t d) (some 1) none = (rowV t d).drop 1 := by
  unfold cutV
  have e1 : HT.sIx (rowV t d).length 0 (some 1) = 1 := rfl
  have e2 : HT.sIx (rowV t d).length (rowV t d).length none = 7 := rfl
  rw [e1, e2]
  rfl
theorem cut_take {l : List Str} {i : Int} (h0 : 0 ≤ i) (h : i.toNat ≤ l.length) : cutV (l.map V.str) none (some i) = (l.take i.toNat).map V.str := by
  obtain ⟨k, rfl⟩ : ∃ k : Nat, i = (k : Int) := ⟨i.toNat, by omega⟩
  have e3 : ((k : Int)).toNat = k := by omega
  rw [e3] at h ⊢
  unfold cutV
  rw [HT.sIx_nat, HT.sIx_none]
  have e : (l.map V.str).length = l.length := List.length_map ..
  rw [e]
  have e2 : min k l.length - 0 = k := by omega
  rw [e2, List.drop_zero, List.map_take]
theorem rng8 (L : Int) (h : 0 ≤ L) : 0 ≤ (if (if L < 8 then L else 8) > 1 then (if L < 8 then L else 8) else 1) ∧ (if (if L < 8 then L else 8) > 1 then (if L < 8 then L else 8) else 1) ≤ 8 := by
  by_cases h1 : L < 8
  · rw [if_pos h1]
    by_cases h2 : L > 1
    · rw [if_pos h2]; omega
    · rw [if_neg h2]; omega
  · rw [if_neg h1]
    rw [if_pos (by decide)]
    omega
theorem ok_law (T : Txt K mg A) : FnG P w K mg base 8 A.a_law A.d_law P_law (sp_law K) := by
  have nd := sc_law.nd
  refine fnG_of T.F_law sc_law (fun vs H Q E h => ?_) (fun cdv Ar outer s H vs Q hgu hr h => ?_)
  · obtain ⟨a, ns, rfl, _⟩ := h
    rfl
  · obtain ⟨a, ns, rfl, hs, hl, k⟩ := h
    have hu := hu_of hr
    refine ⟨_, (pss_cons (ps_for PassesOwn.never rfl (pi_range1 rfl T.m_range (pa_cons (pe_callB (call_max2 rfl) (by rfl) T.m_max (by decide +kernel) (pa_cons (pe_int) (pa_cons (pe_callB (call_min2 rfl) (by rfl) T.m_min (by decide +kernel) (pa_cons (pe_int) (pa_cons (pe_callB call_len_seq (by rfl) T.m_len PySem.boot_len (pa_cons (pv 0) pa_nil)) pa_nil))) pa_nil))) pa_nil)) (pg_name (i := 1) nd rfl (Or.inl rfl))
        (pss_cons (ps_set (i := 2) nd rfl (Or.inl rfl) (pe_call (ok_w_begun T) (hr.mono (by decide)) rfl T.m_w_begun T.F_w_begun.kp T.b_w_begun .nil pass0 (pa_cons (pv 0) (pa_cons (pv 1) pa_nil))))
          (pss_cons (ps_par (i := 3) (j := 4) rfl nd rfl rfl (by decide) rfl rfl (pa_cons (pe_op op_add (pe_int) (pe_call (ok_w_take T) (hr.mono (by decide)) rfl T.m_w_take T.F_w_take.kp T.b_w_take .nil pass0 (pa_cons (pv 2) (pa_cons (pe_int) pa_nil)))) (pa_cons (pe_call (ok_w_take T) (hr.mono (by decide)) rfl T.m_w_take T.F_w_take.kp T.b_w_take .nil pass0 (pa_cons (pv 2) (pa_cons (pe_int) pa_nil))) pa_nil)) rfl)
          (pss_cons (ps_par (i := 5) (j := 6) rfl nd rfl rfl (by decide) rfl rfl (pa_cons (pe_call (ok_w_names T) (hr.mono (by decide)) rfl T.m_w_names T.F_w_names.kp T.b_w_names .nil pass0 (pa_cons (pv 2) (pa_cons (pe_int) pa_nil))) (pa_cons (pe_call (ok_w_names T) (hr.mono (by decide)) rfl T.m_w_names T.F_w_names.kp T.b_w_names .nil pass0 (pa_cons (pv 2) (pa_cons (pe_int) pa_nil))) pa_nil)) rfl)
          (pss_cons (ps_set (i := 7) nd rfl (Or.inl rfl) (pe_call (ok_w_led T) (hr.mono (by decide)) rfl T.m_w_led T.F_w_led.kp T.b_w_led .nil pass0 (pa_cons (pv 2) (pa_cons (pv 5) (pa_cons (pe_slice sl_list (pv 6) po_none (po_some (pv 3))) (pa_cons (pv 4) pa_nil))))))
          (pss_one (ps_for PassesOwn.never rfl (pi_range1 rfl T.m_range (pa_cons (pe_int) pa_nil)) (pg_name (i := 8) nd rfl (Or.inl rfl))
            (pss_cons (ps_par3 (i := 9) (j := 10) (l := 11) rfl nd rfl rfl rfl (by decide) (by decide) (by decide) rfl rfl rfl (pa_cons (pe_ix ix_list (pv 6) (pe_call (ok_w_take T) (hr.mono (by decide)) rfl T.m_w_take T.F_w_take.kp T.b_w_take .nil pass0 (pa_cons (pv 2) (pa_cons (pv 3) pa_nil))) (fun _ _ => rfl)) (pa_cons (pe_call (ok_w_take T) (hr.mono (by decide)) rfl T.m_w_take T.F_w_take.kp T.b_w_take .nil pass0 (pa_cons (pv 2) (pa_cons (pe_int) pa_nil))) (pa_cons (pe_call (ok_w_take T) (hr.mono (by decide)) rfl T.m_w_take T.F_w_take.kp T.b_w_take .nil pass0 (pa_cons (pv 2) (pa_cons (pe_int) pa_nil))) pa_nil))) rfl)
              (pss_cons (ps_if (pt_not (pt_val (pe_call (ok_w_back_right T) (hr.mono (by decide)) rfl T.m_w_back_right T.F_w_back_right.kp T.b_w_back_right .nil pass0 (pa_cons (pv 7) (pa_cons (pv 9) (pa_cons (pv 10) (pa_cons (pe_slice sl_tup (pe_call (ok_w_row T) (hr.mono (by decide)) rfl T.m_w_row T.F_w_row.kp T.b_w_row .nil pass0 (pa_cons (pv 2) (pa_cons (pv 9) (pa_cons (pv 5) pa_nil)))) (po_some (pe_int)) po_none) pa_nil)))))))
                (pss_one (ps_ret (pe_bl)))
                pss_nil)
              (pss_one (ps_if (PW.pt (pw_or (pt_not (pt_val (pe_call (ok_w_parts_right T) (hr.mono (by decide)) rfl T.m_w_parts_right T.F_w_parts_right.kp T.b_w_parts_right .nil pass0 (pa_cons (pv 7) (pa_cons (pv 5) (pa_cons (pv 10) (pa_cons (pv 11) pa_nil))))))) (pw_or1 (pt_not (pt_val (pe_callG (ok_w_calls_right T) hgu (hr.mono (by decide)) rfl T.m_w_calls_right T.F_w_calls_right.kp T.b_w_calls_right (pa_cons (pv 7) (pa_cons (pv 10) (pa_cons (pv 11) pa_nil)))))))))
                (pss_one (ps_ret (pe_bl)))
                pss_nil)))))))))))
      (pss_one (ps_ret (pe_bl)))), ?_⟩
    refine ⟨_, rfl, a, _, rfl, .inl hs, ?_⟩
    have hrg := rng8 ((ns.map V.int).length : Nat) (by omega)
    refine ⟨8, ((ns.map V.int).length : Nat), rfl, ?_⟩
    refine ⟨1, _, rfl, ?_⟩
    refine ⟨_, rfl, by have : (0 : Int) ≤ 2 ^ 62 := by decide
                       omega, Int.lt_of_le_of_lt hrg.2 (by decide), ?_⟩
    generalize (if (if (((ns.map V.int).length : Nat) : Int) < 8 then (((ns.map V.int).length : Nat) : Int) else 8) > 1 then (if (((ns.map V.int).length : Nat) : Int) < 8 then (((ns.map V.int).length : Nat) : Int) else 8) else 1) = R0 at hrg ⊢
    obtain ⟨N, hN⟩ : ∃ N : Nat, R0.toNat = N := ⟨_, rfl⟩
    rw [hN]
    refine forR N (fun i σ H' => (∃ x1 x2 x3 x4 x5 x6 x7 x8 x9 x10 x11 : Option V, σ = [some (.ref a), x1, x2, x3, x4, x5, x6, x7, x8, x9, x10, x11]) ∧ Kd [] H H')
      ⟨⟨none, none, none, none, none, none, none, none, none, none, none, rfl⟩, .refl⟩ ?_ ?_
    · rintro i σ H1 hi ⟨⟨x1, x2, x3, x4, x5, x6, x7, x8, x9, x10, x11, rfl⟩, k1⟩
      refine ⟨_, rfl, _, rfl, a, ns, 0 + (i : Int), rfl, k1.sqL hs, hl, by omega, by omega, fun H2 st k2 hst st2 => ?_⟩
      refine ⟨_, rfl, st, 7, 1000, rfl, by decide, by decide, st2, by decide, fun H3 r3 k3 r30 r31 st3 => ⟨2, r3, rfl, rfl, ?_⟩⟩
      refine ⟨_, rfl, st, 15, _, rfl, by decide, by decide, st3, by decide, fun H4 turns k4 t0 t1 st4 => ⟨_, _, rfl, ?_⟩⟩
      refine ⟨_, rfl, st, 3, _, rfl, by decide, by decide, st4, by decide, fun H5 kd ks k5 hkd hkl hk3 hknd hks st5 => ?_⟩
      refine ⟨_, rfl, st, 8, _, rfl, by decide, by decide, st5, by decide, fun H6 pl ls k6 hpl hll hl8 hlnd hlok st6 => ⟨_, _, rfl, ?_⟩⟩
      have kS : Kd [st] H2 H6 := ((k3.trans k4).trans k5).trans k6
      have hkl6 := k6.lst hkl
      have hk3' : ks.length = 3 := by omega
      have hl8' : ls.length = 8 := by omega
      have hM : (2 + r3).toNat ≤ ls.length := by omega
      -- the bank
      refine ⟨_, rfl, _, rfl, _, rfl, _, rfl, 2 + r3, rfl, pl, _, rfl, SqL.of hll, fun p7 hp7 => ?_⟩
      rw [cut_take (by omega) hM]
      have b7 := Kd.new (F := []) (o := .lst ((ls.take (2 + r3).toNat).map V.str)) hp7
      refine ⟨_, rfl, st, kd, ks, p7, ls.take (2 + r3).toNat, turns, _, rfl, b7.lst hkl6, hk3', hks, upd_same, ?_, ?_, hlnd.sublist (List.take_sublist _ _), fun z hz => hlok z (List.mem_of_mem_take hz), t0, by omega, st6.keep b7 (fun z => nomatch z), by decide, fun H8 B m k8 hfr hB ok hfk hkeys st8 => ?_⟩
      · rw [List.length_take]
        omega
      · intro e
        have := congrArg List.length e
        rw [List.length_take] at this
        have e0 : ([] : List Str).length = 0 := rfl
        omega
      have hkl8 := k8.lst (b7.lst hkl6)
      have hll8 := k8.lst (b7.lst hll)
      have hst8 : H2 st ≠ none := by
        obtain ⟨l1, l2, l3, l4, hh, _⟩ := st2
        rw [hh]
        exact fun z => nomatch z
      have kall : Kd [st] H2 H8 := (kS.trans b7.nil).trans k8
      have hfr2 : Fresh H2 B := fun x hx => (kS.trans b7.nil).back _ (hfr x hx)
      have stF : st ∉ B.F := fun h => hst8 (hfr2 st h)
      have nst : ∀ y, y ∈ B.F → y ∉ [st] := fun y hy h => stF (by rw [← List.mem_singleton.mp h]; exact hy)
      have hH8 : Kd [] H H8 := (k1.trans k2).over kall fun x hx => .inr (by rw [List.mem_singleton.mp hx]; exact k1.back _ hst)
      -- the turns
      refine ⟨4, rfl, by decide, by decide, ?_⟩
      have e4 : ((4 : Int)).toNat = 4 := by decide
      rw [e4]
      refine forR 4 (fun i' σ H' => (∃ x8 x9 x10 x11 : Option V, σ = [some (.ref a), some (.int (0 + (i : Int))), some (.ref st), some (.int (2 + r3)), some (.int turns), some (.ref kd), some (.ref pl), some (.ref B.b), x8, x9, x10, x11]) ∧ Kd (st :: B.F) H8 H' ∧ StAt H' st (2000 + 30 * i') ∧ ∃ m', BankAt A H' B m' ∧ m'.Ok ∧ Same m' m)
        ⟨⟨_, _, _, _, rfl⟩, .refl, st8.mono (by omega), m, hB, ok, Same.refl m⟩ ?_ ?_
      · rintro i' σ H9 hi' ⟨⟨y8, y9, y10, y11, rfl⟩, k9, st9, m9, hB9, ok9, s9⟩
        have hll9 := k9.lst hll8
        have hkl9 := k9.lst hkl8
        refine ⟨_, rfl, _, rfl, _, rfl, st, 2 + r3, _, rfl, by omega, by omega, st9, by omega, fun H10 r k10 r0 r1 st10 => ?_⟩
        obtain ⟨j, rfl⟩ : ∃ j : Nat, r = (j : Int) := ⟨r.toNat, by omega⟩
        have hj : j < ls.length := by omega
        obtain ⟨label, hlab⟩ : ∃ label, ls[j]? = some label := ⟨ls[j], List.getElem?_eq_getElem hj⟩
        have hlm : label ∈ ls.take (2 + r3).toNat := by
          have e : (ls.take (2 + r3).toNat)[j]? = some label := by rw [List.getElem?_take, if_pos (by omega), hlab]
          exact List.mem_of_getElem? e
        have hlk : label ∈ keys m9.kept := s9.key.mpr ((hkeys label).mpr hlm)
        refine ⟨pl, _, (j : Int), _, rfl, rfl, SqL.of (k10.lst hll9), atI_nat (v := .str label) (by rw [List.getElem?_map, hlab]; rfl), ?_⟩
        refine ⟨_, rfl, st, 14, _, rfl, by decide, by decide, st10, by omega, fun H11 wh k11 w0 w1 st11 => ?_⟩
        refine ⟨_, rfl, st, 6, _, rfl, by decide, by decide, st11, by omega, fun H12 span k12 s0 s1 st12 => ⟨_, _, _, rfl, ?_⟩⟩
        have kt : Kd [st] H9 H12 := (k10.trans k11).trans k12
        -- back
        refine ⟨_, rfl, _, rfl, _, rfl, _, rfl, _, rfl, _, rfl, st, label, kd, ks, _, rfl, hlok label (List.mem_of_getElem? hlab), kt.lst hkl9, hk3', hks, st12, by omega, fun H13 p t d k13 hp htup hta okd _ _ _ st13 => ?_⟩
        refine ⟨1, rfl, p, _, rfl, .inl (.inl htup), (fun h => by have : (1 : Nat) = 0 := h.1; omega), fun p2 hp2 => ?_⟩
        rw [cut_row]
        have b13 := Kd.new (F := []) (o := .tup ((rowV t d).drop 1)) hp2
        have k913 : Kd [st] H9 (upd H13 p2 (.tup ((rowV t d).drop 1))) := (kt.trans k13).trans b13.nil
        have hB13 := hB9.keep k913 nst
        refine ⟨B, m9, label, wh, p2, t, d, rfl, hB13, ok9, hlk, w0, w1, upd_same, b13.tupA hta, okd, fun H14 m14 k14 hB14 ok14 s14 => ⟨_, rfl, iteF ?_⟩⟩
        have s14m := s14.trans s9
        have hfk14 : FromKinds ks m14 := fun n q h => hfk n q (by rw [← s14m.1]; exact h)
        have sub1 : ∀ x, x ∈ [st] → x ∈ st :: B.F := fun x hx => by rw [List.mem_singleton.mp hx]; exact List.mem_cons_self ..
        have sub2 : ∀ x, x ∈ B.F → x ∈ st :: B.F := fun x hx => List.mem_cons_of_mem _ hx
        have k814 : Kd (st :: B.F) H8 H14 := (k9.trans (k913.mono sub1)).trans (k14.mono sub2)
        have st14 := (st13.keep b13 (fun z => nomatch z)).keep k14 stF
        refine ⟨_, rfl, _, rfl, _, rfl, _, rfl, B, m14, kd, ks, wh, span, rfl, hB14, ok14, k814.lst hkl8, hknd, hks, hfk14, w0, w1, s0, s1, fun H15 k15 => ⟨_, rfl, iteF ?_⟩⟩
        have hB15 := hB14.keep0 k15
        refine ⟨_, rfl, _, rfl, _, rfl, B, m14, wh, span, rfl, hB15, ok14, w0, w1, s0, s1, fun H16 k16 => ⟨_, rfl, iteF ?_⟩⟩
        have k1516 := k15.trans k16
        exact ⟨⟨_, _, _, _, rfl⟩, k814.trans k1516.nil, (st14.keep k1516 (fun z => nomatch z)).mono (by omega), m14, hB15.keep0 k16, ok14, s14m⟩
      · rintro σ H9 ⟨⟨y8, y9, y10, y11, rfl⟩, k9, st9, m9, hB9, ok9, s9⟩
        refine ⟨⟨_, _, _, _, _, _, _, _, _, _, _, rfl⟩, hH8.over k9 fun x hx => .inr ?_⟩
        rcases List.mem_cons.mp hx with h | h
        · rw [h]
          exact k1.back _ hst
        · exact k1.back _ (k2.back _ (hfr2 x h))
    · rintro σ H1 ⟨⟨x1, x2, x3, x4, x5, x6, x7, x8, x9, x10, x11, rfl⟩, k1⟩
      exact k _
end
end KB
/-! part Top -/
section
open PySem PySem.W PyProof.Rows
open_top KB.head for PySem.Challenge.rw_paperkin_k72_whole_banks
end
/-! part KE -/
/-! What the top leaves; the end. Printed by genE.py. -/
namespace KB
open PySem L2
theorem ns_some_of {K : PySem.W.Frag} {h : Heap} {N : Addr} {mg : Str → Option Value} {n : Str} {v : Value} (X : K.In h) (G : h.Ns N mg) (e : PySem.W.nsIn K N n = some (some v)) : mg n = some v := by
  obtain ⟨o, es, ep, ho, hd, _, hf⟩ := G
  unfold PySem.W.nsIn at e
  split at e
  · rename_i c d es' n' sl q
    have := X _ _ q
    rw [ho] at this
    cases this
    cases hd
    split at e
    · rename_i en he
      cases e
      rw [← hf]
      unfold nsFind findBy
      rw [← Array.find?_toList, he]
      rfl
    · split at e <;> cases e
  · cases e
section
variable {K : PySem.W.Frag}
theorem fd_mk0 {x qual : Str} {st : Stmt} {f : Addr} {oc : Value} {od an : Option Addr} {osl : Array (Option Value)} {kV doc pm cdv ct : Value} (l : K.lookup f = some ⟨oc, od, .func (PySem.W.fnOf x qual (defArgs st) (defBody st) (defScope st) .none kV doc pm an cdv ct), osl⟩)
    (c : PySem.W.codeIn K cdv qual = true) (k : PySem.W.keepIn K (.ref f) = true) : FD K x qual st [] f (PySem.W.fnOf x qual (defArgs st) (defBody st) (defScope st) .none kV doc pm an cdv ct) := ⟨⟨oc, od, .none, kV, doc, pm, an, cdv, ct, osl, rfl, l, c, .inl ⟨rfl, rfl⟩, .inl rfl⟩, k⟩
theorem fd_mkD {x qual : Str} {st : Stmt} {f D : Addr} {oc tc : Value} {od an td : Option Addr} {osl tsl : Array (Option Value)} {kV doc pm cdv ct : Value} {v : V} {dvs : List V} {its : Array Value} {n : Nat} (l : K.lookup f = some ⟨oc, od, .func (PySem.W.fnOf x qual (defArgs st) (defBody st) (defScope st) (.ref D) kV doc pm an cdv ct), osl⟩)
    (c : PySem.W.codeIn K cdv qual = true) (k : PySem.W.keepIn K (.ref f) = true) (t : K.lookup D = some ⟨tc, td, .seq its n, tsl⟩) (r : Vals (v :: dvs) its.toList) : FD K x qual st (v :: dvs) f (PySem.W.fnOf x qual (defArgs st) (defBody st) (defScope st) (.ref D) kV doc pm an cdv ct) :=
  ⟨⟨oc, od, .ref D, kV, doc, pm, an, cdv, ct, osl, rfl, l, c, .inr ⟨(fun z => nomatch z), D, _, its.toList, n, rfl, t, rfl, r⟩, .inl rfl⟩, k⟩
theorem kit_self {C : Addr} : PySem.W.kitOne K (.ref C) (.ref C) = some true := by
  unfold PySem.W.kitOne
  rw [if_pos (beq_self_eq_true _)]
def keyB (e : DictEntry) : Bool := match e.key with
  | .str _ _ => true
  | _ => false
theorem noNe_mk {C N f : Addr} {nm q : Str} {bs : List Value} {bm : List Value} {hdct : Bool} {sn : List Str} {sub : List Value} {ab : Bool} {col : Option Bool} {dd : Option Addr} {k0 k1 k2 k3 k5 : Option Value} {newId : String} {es : Array DictEntry} {clN : Value} {dN od : Option Addr} {n : Nat} {slN osl : Array (Option Value)} {fd : FuncData}
    (lC : K.lookup C = some (excClassObj nm q C N bs [.type "object"] hdct sn sub ab col dd k0 k1 k2 k3 k5 newId)) (lN : K.lookup N = some ⟨clN, dN, .dict es n, slN⟩) (sk : es.toList.all keyB = true) (eq : PySem.W.nsIn K N "__eq__" = some (some (.ref f))) (ne : PySem.W.nsIn K N "__ne__" = some none)
    (lf : K.lookup f = some ⟨.type "function", od, .func fd, osl⟩) : NoNe K C f := ⟨fun h x o X hx hc => by
  have hN := X _ _ lN
  have S : StrKeys es := fun e he => by
    have h1 := List.all_eq_true.mp sk e (Array.mem_toList_iff.mpr he)
    unfold keyB at h1
    cases hk : e.key with
    | str a t => exact ⟨a, t, rfl⟩
    | _ => rw [hk] at h1; cases h1
  have G : h.Ns N (fun name => nsFind es name) := ⟨_, es, n, hN, rfl, S, fun _ => rfl⟩
  exact ⟨o, _, nm, q, N, bs, hdct, sn, sub, ab, col, dd, k0, k1, k2, k3, k5, newId, _, _, hx, hc, X _ _ lC, G, ns_some_of X G eq, X _ _ lf, rfl, PySem.F.cmp_object.mro, PySem.F.cmp_object.eq.lookup, PySem.W.ns_none_of X G ne⟩⟩
end
theorem txt_mk {K : PySem.W.Frag} {h : Heap} {mg : Str → Option Value} (X : K.In h) (G : h.Ns mainGlobals mg) {cQ cB f_is_whole f_is_name f_is_text f_need_day f_are_answers f_is_of f_Q_init f_Q_parts f_Q_eq f_need_question f_B_init f_B_need_there f_B_added f_B_put f_B_taken_out f_B_put_back f_B_dropped f_B_used_on f_B_unused_on f_B_names f_B_names_in f_B_outs f_B_question f_B_days_of f_B_last_day f_B_matters f_B_rests f_B_found f_B_standing f_B_twin f_B_eq f_B_len f_need_bank f_resting f_w_mixed f_w_begun f_w_take f_w_names f_w_row f_w_made f_w_parts f_w_led f_w_back_right f_w_parts_right f_w_called f_w_calls_right f_law : Addr} {d_is_whole d_is_name d_is_text d_need_day d_are_answers d_is_of d_Q_init d_Q_parts d_Q_eq d_need_question d_B_init d_B_need_there d_B_added d_B_put d_B_taken_out d_B_put_back d_B_dropped d_B_used_on d_B_unused_on d_B_names d_B_names_in d_B_outs d_B_question d_B_days_of d_B_last_day d_B_matters d_B_rests d_B_found d_B_standing d_B_twin d_B_eq d_B_len d_need_bank d_resting d_w_mixed d_w_begun d_w_take d_w_names d_w_row d_w_made d_w_parts d_w_led d_w_back_right d_w_parts_right d_w_called d_w_calls_right d_law : FuncData} {v_LETTERS v_SIGNS v_LONGEST_NAME v_LONGEST_TEXT v_FEWEST v_MOST v_TOP v_MOST_QUESTIONS : Value}
    (aQ : PySem.W.nsIn K mainGlobals "Question" = some (some (.ref cQ)))
    (aB : PySem.W.nsIn K mainGlobals "Bank" = some (some (.ref cB)))
    (a_is_whole : PySem.W.nsIn K mainGlobals "is_whole" = some (some (.ref f_is_whole)))
    (p_is_whole : FD K "is_whole" "is_whole" s_is_whole [.int 0, .int 9999] f_is_whole d_is_whole)
    (a_is_name : PySem.W.nsIn K mainGlobals "is_name" = some (some (.ref f_is_name)))
    (p_is_name : FD K "is_name" "is_name" s_is_name [] f_is_name d_is_name)
    (a_is_text : PySem.W.nsIn K mainGlobals "is_text" = some (some (.ref f_is_text)))
    (p_is_text : FD K "is_text" "is_text" s_is_text [] f_is_text d_is_text)
    (a_need_day : PySem.W.nsIn K mainGlobals "need_day" = some (some (.ref f_need_day)))
    (p_need_day : FD K "need_day" "need_day" s_need_day [] f_need_day d_need_day)
    (a_are_answers : PySem.W.nsIn K mainGlobals "are_answers" = some (some (.ref f_are_answers)))
    (p_are_answers : FD K "are_answers" "are_answers" s_are_answers [] f_are_answers d_are_answers)
    (a_is_of : PySem.W.nsIn K mainGlobals "is_of" = some (some (.ref f_is_of)))
    (p_is_of : FD K "is_of" "is_of" s_is_of [] f_is_of d_is_of)
    (a_Q_init : PySem.W.findIn K (.ref cQ) "__init__" = some (some (.ref f_Q_init)))
    (i_Q_init : PySem.W.isFn K (.ref f_Q_init) = true)
    (p_Q_init : FD K "__init__" "Question.__init__" s_Q_init [.int 0, .int 5, .int 1, .str ""] f_Q_init d_Q_init)
    (a_Q_parts : PySem.W.findIn K (.ref cQ) "parts" = some (some (.ref f_Q_parts)))
    (i_Q_parts : PySem.W.isFn K (.ref f_Q_parts) = true)
    (p_Q_parts : FD K "parts" "Question.parts" s_Q_parts [] f_Q_parts d_Q_parts)
    (a_Q_eq : PySem.W.findIn K (.ref cQ) "__eq__" = some (some (.ref f_Q_eq)))
    (i_Q_eq : PySem.W.isFn K (.ref f_Q_eq) = true)
    (p_Q_eq : FD K "__eq__" "Question.__eq__" s_Q_eq [] f_Q_eq d_Q_eq)
    (a_need_question : PySem.W.nsIn K mainGlobals "need_question" = some (some (.ref f_need_question)))
    (p_need_question : FD K "need_question" "need_question" s_need_question [] f_need_question d_need_question)
    (a_B_init : PySem.W.findIn K (.ref cB) "__init__" = some (some (.ref f_B_init)))
    (i_B_init : PySem.W.isFn K (.ref f_B_init) = true)
    (p_B_init : FD K "__init__" "Bank.__init__" s_B_init [.non] f_B_init d_B_init)
    (a_B_need_there : PySem.W.findIn K (.ref cB) "need_there" = some (some (.ref f_B_need_there)))
    (i_B_need_there : PySem.W.isFn K (.ref f_B_need_there) = true)
    (p_B_need_there : FD K "need_there" "Bank.need_there" s_B_need_there [] f_B_need_there d_B_need_there)
    (a_B_added : PySem.W.findIn K (.ref cB) "added" = some (some (.ref f_B_added)))
    (i_B_added : PySem.W.isFn K (.ref f_B_added) = true)
    (p_B_added : FD K "added" "Bank.added" s_B_added [] f_B_added d_B_added)
    (a_B_put : PySem.W.findIn K (.ref cB) "put" = some (some (.ref f_B_put)))
    (i_B_put : PySem.W.isFn K (.ref f_B_put) = true)
    (p_B_put : FD K "put" "Bank.put" s_B_put [] f_B_put d_B_put)
    (a_B_taken_out : PySem.W.findIn K (.ref cB) "taken_out" = some (some (.ref f_B_taken_out)))
    (i_B_taken_out : PySem.W.isFn K (.ref f_B_taken_out) = true)
    (p_B_taken_out : FD K "taken_out" "Bank.taken_out" s_B_taken_out [.str "wrong"] f_B_taken_out d_B_taken_out)
    (a_B_put_back : PySem.W.findIn K (.ref cB) "put_back" = some (some (.ref f_B_put_back)))
    (i_B_put_back : PySem.W.isFn K (.ref f_B_put_back) = true)
    (p_B_put_back : FD K "put_back" "Bank.put_back" s_B_put_back [] f_B_put_back d_B_put_back)
    (a_B_dropped : PySem.W.findIn K (.ref cB) "dropped" = some (some (.ref f_B_dropped)))
    (i_B_dropped : PySem.W.isFn K (.ref f_B_dropped) = true)
    (p_B_dropped : FD K "dropped" "Bank.dropped" s_B_dropped [] f_B_dropped d_B_dropped)
    (a_B_used_on : PySem.W.findIn K (.ref cB) "used_on" = some (some (.ref f_B_used_on)))
    (i_B_used_on : PySem.W.isFn K (.ref f_B_used_on) = true)
    (p_B_used_on : FD K "used_on" "Bank.used_on" s_B_used_on [] f_B_used_on d_B_used_on)
    (a_B_unused_on : PySem.W.findIn K (.ref cB) "unused_on" = some (some (.ref f_B_unused_on)))
    (i_B_unused_on : PySem.W.isFn K (.ref f_B_unused_on) = true)
    (p_B_unused_on : FD K "unused_on" "Bank.unused_on" s_B_unused_on [] f_B_unused_on d_B_unused_on)
    (a_B_names : PySem.W.findIn K (.ref cB) "names" = some (some (.ref f_B_names)))
    (i_B_names : PySem.W.isFn K (.ref f_B_names) = true)
    (p_B_names : FD K "names" "Bank.names" s_B_names [] f_B_names d_B_names)
    (a_B_names_in : PySem.W.findIn K (.ref cB) "names_in" = some (some (.ref f_B_names_in)))
    (i_B_names_in : PySem.W.isFn K (.ref f_B_names_in) = true)
    (p_B_names_in : FD K "names_in" "Bank.names_in" s_B_names_in [] f_B_names_in d_B_names_in)
    (a_B_outs : PySem.W.findIn K (.ref cB) "outs" = some (some (.ref f_B_outs)))
    (i_B_outs : PySem.W.isFn K (.ref f_B_outs) = true)
    (p_B_outs : FD K "outs" "Bank.outs" s_B_outs [] f_B_outs d_B_outs)
    (a_B_question : PySem.W.findIn K (.ref cB) "question" = some (some (.ref f_B_question)))
    (i_B_question : PySem.W.isFn K (.ref f_B_question) = true)
    (p_B_question : FD K "question" "Bank.question" s_B_question [] f_B_question d_B_question)
    (a_B_days_of : PySem.W.findIn K (.ref cB) "days_of" = some (some (.ref f_B_days_of)))
    (i_B_days_of : PySem.W.isFn K (.ref f_B_days_of) = true)
    (p_B_days_of : FD K "days_of" "Bank.days_of" s_B_days_of [] f_B_days_of d_B_days_of)
    (a_B_last_day : PySem.W.findIn K (.ref cB) "last_day" = some (some (.ref f_B_last_day)))
    (i_B_last_day : PySem.W.isFn K (.ref f_B_last_day) = true)
    (p_B_last_day : FD K "last_day" "Bank.last_day" s_B_last_day [.int 9999] f_B_last_day d_B_last_day)
    (a_B_matters : PySem.W.findIn K (.ref cB) "matters" = some (some (.ref f_B_matters)))
    (i_B_matters : PySem.W.isFn K (.ref f_B_matters) = true)
    (p_B_matters : FD K "matters" "Bank.matters" s_B_matters [] f_B_matters d_B_matters)
    (a_B_rests : PySem.W.findIn K (.ref cB) "rests" = some (some (.ref f_B_rests)))
    (i_B_rests : PySem.W.isFn K (.ref f_B_rests) = true)
    (p_B_rests : FD K "rests" "Bank.rests" s_B_rests [] f_B_rests d_B_rests)
    (a_B_found : PySem.W.findIn K (.ref cB) "found" = some (some (.ref f_B_found)))
    (i_B_found : PySem.W.isFn K (.ref f_B_found) = true)
    (p_B_found : FD K "found" "Bank.found" s_B_found [.str "", .int 1, .int 9, .str "", .non, .int 0] f_B_found d_B_found)
    (a_B_standing : PySem.W.findIn K (.ref cB) "standing" = some (some (.ref f_B_standing)))
    (i_B_standing : PySem.W.isFn K (.ref f_B_standing) = true)
    (p_B_standing : FD K "standing" "Bank.standing" s_B_standing [] f_B_standing d_B_standing)
    (a_B_twin : PySem.W.findIn K (.ref cB) "twin" = some (some (.ref f_B_twin)))
    (i_B_twin : PySem.W.isFn K (.ref f_B_twin) = true)
    (p_B_twin : FD K "twin" "Bank.twin" s_B_twin [] f_B_twin d_B_twin)
    (a_B_eq : PySem.W.findIn K (.ref cB) "__eq__" = some (some (.ref f_B_eq)))
    (i_B_eq : PySem.W.isFn K (.ref f_B_eq) = true)
    (p_B_eq : FD K "__eq__" "Bank.__eq__" s_B_eq [] f_B_eq d_B_eq)
    (a_B_len : PySem.W.findIn K (.ref cB) "__len__" = some (some (.ref f_B_len)))
    (i_B_len : PySem.W.isFn K (.ref f_B_len) = true)
    (p_B_len : FD K "__len__" "Bank.__len__" s_B_len [] f_B_len d_B_len)
    (a_need_bank : PySem.W.nsIn K mainGlobals "need_bank" = some (some (.ref f_need_bank)))
    (p_need_bank : FD K "need_bank" "need_bank" s_need_bank [] f_need_bank d_need_bank)
    (a_resting : PySem.W.nsIn K mainGlobals "resting" = some (some (.ref f_resting)))
    (p_resting : FD K "resting" "resting" s_resting [] f_resting d_resting)
    (a_w_mixed : PySem.W.nsIn K mainGlobals "_law_mixed" = some (some (.ref f_w_mixed)))
    (p_w_mixed : FD K "_law_mixed" "_law_mixed" s_w_mixed [] f_w_mixed d_w_mixed)
    (a_w_begun : PySem.W.nsIn K mainGlobals "_law_begun" = some (some (.ref f_w_begun)))
    (p_w_begun : FD K "_law_begun" "_law_begun" s_w_begun [] f_w_begun d_w_begun)
    (a_w_take : PySem.W.nsIn K mainGlobals "_law_take" = some (some (.ref f_w_take)))
    (p_w_take : FD K "_law_take" "_law_take" s_w_take [] f_w_take d_w_take)
    (a_w_names : PySem.W.nsIn K mainGlobals "_law_names" = some (some (.ref f_w_names)))
    (p_w_names : FD K "_law_names" "_law_names" s_w_names [] f_w_names d_w_names)
    (a_w_row : PySem.W.nsIn K mainGlobals "_law_row" = some (some (.ref f_w_row)))
    (p_w_row : FD K "_law_row" "_law_row" s_w_row [] f_w_row d_w_row)
    (a_w_made : PySem.W.nsIn K mainGlobals "_law_made" = some (some (.ref f_w_made)))
    (p_w_made : FD K "_law_made" "_law_made" s_w_made [] f_w_made d_w_made)
    (a_w_parts : PySem.W.nsIn K mainGlobals "_law_parts" = some (some (.ref f_w_parts)))
    (p_w_parts : FD K "_law_parts" "_law_parts" s_w_parts [] f_w_parts d_w_parts)
    (a_w_led : PySem.W.nsIn K mainGlobals "_law_led" = some (some (.ref f_w_led)))
    (p_w_led : FD K "_law_led" "_law_led" s_w_led [] f_w_led d_w_led)
    (a_w_back_right : PySem.W.nsIn K mainGlobals "_law_back_right" = some (some (.ref f_w_back_right)))
    (p_w_back_right : FD K "_law_back_right" "_law_back_right" s_w_back_right [] f_w_back_right d_w_back_right)
    (a_w_parts_right : PySem.W.nsIn K mainGlobals "_law_parts_right" = some (some (.ref f_w_parts_right)))
    (p_w_parts_right : FD K "_law_parts_right" "_law_parts_right" s_w_parts_right [] f_w_parts_right d_w_parts_right)
    (a_w_called : PySem.W.nsIn K mainGlobals "_law_called" = some (some (.ref f_w_called)))
    (p_w_called : FD K "_law_called" "_law_called" s_w_called [] f_w_called d_w_called)
    (a_w_calls_right : PySem.W.nsIn K mainGlobals "_law_calls_right" = some (some (.ref f_w_calls_right)))
    (p_w_calls_right : FD K "_law_calls_right" "_law_calls_right" s_w_calls_right [] f_w_calls_right d_w_calls_right)
    (a_law : PySem.W.nsIn K mainGlobals "law" = some (some (.ref f_law)))
    (p_law : FD K "law" "law" s_law [] f_law d_law)
    (pgQ : PySem.W.plainGet K cQ Str.empty = true)
    (hdQ : PySem.W.hasDictIn K cQ = true)
    (poQ : PySem.W.plainOver K cQ = true)
    (saQ : PySem.W.findIn K (.ref cQ) "__setattr__" = some (some (.builtin "object.__setattr__")))
    (mkQ : PySem.W.makesIn K cQ = true)
    (kcQ : PySem.W.keepIn K (.ref cQ) = true)
    (clsQ : PySem.W.findIn K (.ref cQ) "__class__" = some (some (.builtin "object.__class__")))
    (mroQ : PySem.W.mroIn K cQ (.type "object") = some true)
    (pgB : PySem.W.plainGet K cB Str.empty = true)
    (hdB : PySem.W.hasDictIn K cB = true)
    (poB : PySem.W.plainOver K cB = true)
    (saB : PySem.W.findIn K (.ref cB) "__setattr__" = some (some (.builtin "object.__setattr__")))
    (mkB : PySem.W.makesIn K cB = true)
    (kcB : PySem.W.keepIn K (.ref cB) = true)
    (clsB : PySem.W.findIn K (.ref cB) "__class__" = some (some (.builtin "object.__class__")))
    (mroB : PySem.W.mroIn K cB (.type "object") = some true)
    (getCls : PySem.W.specialIn K (.builtin "object.__class__") "__get__" = some (some (.builtin "getset_descriptor.__get__")))
    (takesCls : PySem.W.takesIn K (.builtin "object.__class__") = some true)
    (nQ_name : PySem.W.findIn K (.ref cQ) "name" = some none)
    (nQ_matter : PySem.W.findIn K (.ref cQ) "matter" = some none)
    (nQ_answers : PySem.W.findIn K (.ref cQ) "answers" = some none)
    (nQ_right : PySem.W.findIn K (.ref cQ) "right" = some none)
    (nQ_toil : PySem.W.findIn K (.ref cQ) "toil" = some none)
    (nQ_marks : PySem.W.findIn K (.ref cQ) "marks" = some none)
    (nQ_kin : PySem.W.findIn K (.ref cQ) "kin" = some none)
    (nB_kept_here : PySem.W.findIn K (.ref cB) "kept_here" = some none)
    (nB_out_here : PySem.W.findIn K (.ref cB) "out_here" = some none)
    (nB_days_here : PySem.W.findIn K (.ref cB) "days_here" = some none)
    (neB : NoNe K cB f_B_eq)
    (g_LETTERS : PySem.W.nsIn K mainGlobals "LETTERS" = some (some v_LETTERS))
    (e_LETTERS : ∃ t, v_LETTERS = .str (signsOf (top 12)) t)
    (g_SIGNS : PySem.W.nsIn K mainGlobals "SIGNS" = some (some v_SIGNS))
    (e_SIGNS : ∃ t, v_SIGNS = .str (signsOf (top 13)) t)
    (g_LONGEST_NAME : PySem.W.nsIn K mainGlobals "LONGEST_NAME" = some (some v_LONGEST_NAME))
    (e_LONGEST_NAME : ∃ t, v_LONGEST_NAME = .int 8 t)
    (g_LONGEST_TEXT : PySem.W.nsIn K mainGlobals "LONGEST_TEXT" = some (some v_LONGEST_TEXT))
    (e_LONGEST_TEXT : ∃ t, v_LONGEST_TEXT = .int 30 t)
    (g_FEWEST : PySem.W.nsIn K mainGlobals "FEWEST" = some (some v_FEWEST))
    (e_FEWEST : ∃ t, v_FEWEST = .int 2 t)
    (g_MOST : PySem.W.nsIn K mainGlobals "MOST" = some (some v_MOST))
    (e_MOST : ∃ t, v_MOST = .int 6 t)
    (g_TOP : PySem.W.nsIn K mainGlobals "TOP" = some (some v_TOP))
    (e_TOP : ∃ t, v_TOP = .int 9 t)
    (g_MOST_QUESTIONS : PySem.W.nsIn K mainGlobals "MOST_QUESTIONS" = some (some v_MOST_QUESTIONS))
    (e_MOST_QUESTIONS : ∃ t, v_MOST_QUESTIONS = .int 60 t)
    (m_isinstance : PySem.W.nsIn K mainGlobals "isinstance" = some none)
    (m_len : PySem.W.nsIn K mainGlobals "len" = some none)
    (m_all : PySem.W.nsIn K mainGlobals "all" = some none)
    (m_sorted : PySem.W.nsIn K mainGlobals "sorted" = some none)
    (m_max : PySem.W.nsIn K mainGlobals "max" = some none)
    (m_min : PySem.W.nsIn K mainGlobals "min" = some none)
    (m_sum : PySem.W.nsIn K mainGlobals "sum" = some none)
    (m_repr : PySem.W.nsIn K mainGlobals "repr" = some none)
    (m_int : PySem.W.nsIn K mainGlobals "int" = some none)
    (m_bool : PySem.W.nsIn K mainGlobals "bool" = some none)
    (m_str : PySem.W.nsIn K mainGlobals "str" = some none)
    (m_list : PySem.W.nsIn K mainGlobals "list" = some none)
    (m_tuple : PySem.W.nsIn K mainGlobals "tuple" = some none)
    (m_dict : PySem.W.nsIn K mainGlobals "dict" = some none)
    (m_zip : PySem.W.nsIn K mainGlobals "zip" = some none)
    (m_enumerate : PySem.W.nsIn K mainGlobals "enumerate" = some none)
    (m_range : PySem.W.nsIn K mainGlobals "range" = some none)
    : ∃ A : Ads, Txt K mg A :=
  ⟨⟨cQ, cB, f_is_whole, d_is_whole, f_is_name, d_is_name, f_is_text, d_is_text, f_need_day, d_need_day, f_are_answers, d_are_answers, f_is_of, d_is_of, f_Q_init, d_Q_init, f_Q_parts, d_Q_parts, f_Q_eq, d_Q_eq, f_need_question, d_need_question, f_B_init, d_B_init, f_B_need_there, d_B_need_there, f_B_added, d_B_added, f_B_put, d_B_put, f_B_taken_out, d_B_taken_out, f_B_put_back, d_B_put_back, f_B_dropped, d_B_dropped, f_B_used_on, d_B_used_on, f_B_unused_on, d_B_unused_on, f_B_names, d_B_names, f_B_names_in, d_B_names_in, f_B_outs, d_B_outs, f_B_question, d_B_question, f_B_days_of, d_B_days_of, f_B_last_day, d_B_last_day, f_B_matters, d_B_matters, f_B_rests, d_B_rests, f_B_found, d_B_found, f_B_standing, d_B_standing, f_B_twin, d_B_twin, f_B_eq, d_B_eq, f_B_len, d_B_len, f_need_bank, d_need_bank, f_resting, d_resting, f_w_mixed, d_w_mixed, f_w_begun, d_w_begun, f_w_take, d_w_take, f_w_names, d_w_names, f_w_row, d_w_row, f_w_made, d_w_made, f_w_parts, d_w_parts, f_w_led, d_w_led, f_w_back_right, d_w_back_right, f_w_parts_right, d_w_parts_right, f_w_called, d_w_called, f_w_calls_right, d_w_calls_right, f_law, d_law⟩, {
    F_is_whole := p_is_whole
    m_is_whole := PySem.W.mg_of X G a_is_whole
    F_is_name := p_is_name
    m_is_name := PySem.W.mg_of X G a_is_name
    F_is_text := p_is_text
    m_is_text := PySem.W.mg_of X G a_is_text
    F_need_day := p_need_day
    m_need_day := PySem.W.mg_of X G a_need_day
    F_are_answers := p_are_answers
    m_are_answers := PySem.W.mg_of X G a_are_answers
    F_is_of := p_is_of
    m_is_of := PySem.W.mg_of X G a_is_of
    F_Q_init := p_Q_init
    F_Q_parts := p_Q_parts
    M_Q_parts := ⟨a_Q_parts, i_Q_parts, p_Q_parts.kp⟩
    F_Q_eq := p_Q_eq
    F_need_question := p_need_question
    m_need_question := PySem.W.mg_of X G a_need_question
    F_B_init := p_B_init
    F_B_need_there := p_B_need_there
    M_B_need_there := ⟨a_B_need_there, i_B_need_there, p_B_need_there.kp⟩
    F_B_added := p_B_added
    M_B_added := ⟨a_B_added, i_B_added, p_B_added.kp⟩
    F_B_put := p_B_put
    M_B_put := ⟨a_B_put, i_B_put, p_B_put.kp⟩
    F_B_taken_out := p_B_taken_out
    M_B_taken_out := ⟨a_B_taken_out, i_B_taken_out, p_B_taken_out.kp⟩
    F_B_put_back := p_B_put_back
    M_B_put_back := ⟨a_B_put_back, i_B_put_back, p_B_put_back.kp⟩
    F_B_dropped := p_B_dropped
    M_B_dropped := ⟨a_B_dropped, i_B_dropped, p_B_dropped.kp⟩
    F_B_used_on := p_B_used_on
    M_B_used_on := ⟨a_B_used_on, i_B_used_on, p_B_used_on.kp⟩
    F_B_unused_on := p_B_unused_on
    M_B_unused_on := ⟨a_B_unused_on, i_B_unused_on, p_B_unused_on.kp⟩
    F_B_names := p_B_names
    M_B_names := ⟨a_B_names, i_B_names, p_B_names.kp⟩
    F_B_names_in := p_B_names_in
    M_B_names_in := ⟨a_B_names_in, i_B_names_in, p_B_names_in.kp⟩
    F_B_outs := p_B_outs
    M_B_outs := ⟨a_B_outs, i_B_outs, p_B_outs.kp⟩
    F_B_question := p_B_question
    M_B_question := ⟨a_B_question, i_B_question, p_B_question.kp⟩
    F_B_days_of := p_B_days_of
    M_B_days_of := ⟨a_B_days_of, i_B_days_of, p_B_days_of.kp⟩
    F_B_last_day := p_B_last_day
    M_B_last_day := ⟨a_B_last_day, i_B_last_day, p_B_last_day.kp⟩
    F_B_matters := p_B_matters
    M_B_matters := ⟨a_B_matters, i_B_matters, p_B_matters.kp⟩
    F_B_rests := p_B_rests
    M_B_rests := ⟨a_B_rests, i_B_rests, p_B_rests.kp⟩
    F_B_found := p_B_found
    M_B_found := ⟨a_B_found, i_B_found, p_B_found.kp⟩
    F_B_standing := p_B_standing
    M_B_standing := ⟨a_B_standing, i_B_standing, p_B_standing.kp⟩
    F_B_twin := p_B_twin
    M_B_twin := ⟨a_B_twin, i_B_twin, p_B_twin.kp⟩
    F_B_eq := p_B_eq
    F_B_len := p_B_len
    F_need_bank := p_need_bank
    m_need_bank := PySem.W.mg_of X G a_need_bank
    F_resting := p_resting
    m_resting := PySem.W.mg_of X G a_resting
    F_w_mixed := p_w_mixed
    m_w_mixed := PySem.W.mg_of X G a_w_mixed
    F_w_begun := p_w_begun
    m_w_begun := PySem.W.mg_of X G a_w_begun
    F_w_take := p_w_take
    m_w_take := PySem.W.mg_of X G a_w_take
    F_w_names := p_w_names
    m_w_names := PySem.W.mg_of X G a_w_names
    F_w_row := p_w_row
    m_w_row := PySem.W.mg_of X G a_w_row
    F_w_made := p_w_made
    m_w_made := PySem.W.mg_of X G a_w_made
    F_w_parts := p_w_parts
    m_w_parts := PySem.W.mg_of X G a_w_parts
    F_w_led := p_w_led
    m_w_led := PySem.W.mg_of X G a_w_led
    F_w_back_right := p_w_back_right
    m_w_back_right := PySem.W.mg_of X G a_w_back_right
    F_w_parts_right := p_w_parts_right
    m_w_parts_right := PySem.W.mg_of X G a_w_parts_right
    F_w_called := p_w_called
    m_w_called := PySem.W.mg_of X G a_w_called
    F_w_calls_right := p_w_calls_right
    m_w_calls_right := PySem.W.mg_of X G a_w_calls_right
    F_law := p_law
    m_law := PySem.W.mg_of X G a_law
    clQ := ⟨pgQ, hdQ, poQ, saQ⟩
    mkQ := ⟨mkQ, a_Q_init, i_Q_init, kcQ⟩
    eqQ := a_Q_eq
    eqQf := i_Q_eq
    clsQ := clsQ
    mroQ := mroQ
    isQ := kit_self
    clB := ⟨pgB, hdB, poB, saB⟩
    mkB := ⟨mkB, a_B_init, i_B_init, kcB⟩
    eqB := a_B_eq
    eqBf := i_B_eq
    clsB := clsB
    mroB := mroB
    isB := kit_self
    m_Question := PySem.W.mg_of X G aQ
    m_Bank := PySem.W.mg_of X G aB
    neB := neB
    lenB := a_B_len
    lenBf := i_B_len
    getCls := getCls
    takesCls := takesCls
    nQ_name := nQ_name
    nQ_matter := nQ_matter
    nQ_answers := nQ_answers
    nQ_right := nQ_right
    nQ_toil := nQ_toil
    nQ_marks := nQ_marks
    nQ_kin := nQ_kin
    nB_kept_here := nB_kept_here
    nB_out_here := nB_out_here
    nB_days_here := nB_days_here
    g_LETTERS := by obtain ⟨t, e⟩ := e_LETTERS; exact ⟨t, by rw [← e]; exact PySem.W.mg_of X G g_LETTERS⟩
    g_SIGNS := by obtain ⟨t, e⟩ := e_SIGNS; exact ⟨t, by rw [← e]; exact PySem.W.mg_of X G g_SIGNS⟩
    g_LONGEST_NAME := by obtain ⟨t, e⟩ := e_LONGEST_NAME; exact ⟨t, by rw [← e]; exact PySem.W.mg_of X G g_LONGEST_NAME⟩
    g_LONGEST_TEXT := by obtain ⟨t, e⟩ := e_LONGEST_TEXT; exact ⟨t, by rw [← e]; exact PySem.W.mg_of X G g_LONGEST_TEXT⟩
    g_FEWEST := by obtain ⟨t, e⟩ := e_FEWEST; exact ⟨t, by rw [← e]; exact PySem.W.mg_of X G g_FEWEST⟩
    g_MOST := by obtain ⟨t, e⟩ := e_MOST; exact ⟨t, by rw [← e]; exact PySem.W.mg_of X G g_MOST⟩
    g_TOP := by obtain ⟨t, e⟩ := e_TOP; exact ⟨t, by rw [← e]; exact PySem.W.mg_of X G g_TOP⟩
    g_MOST_QUESTIONS := by obtain ⟨t, e⟩ := e_MOST_QUESTIONS; exact ⟨t, by rw [← e]; exact PySem.W.mg_of X G g_MOST_QUESTIONS⟩
    m_isinstance := PySem.W.mg_none_of X G m_isinstance
    m_len := PySem.W.mg_none_of X G m_len
    m_all := PySem.W.mg_none_of X G m_all
    m_sorted := PySem.W.mg_none_of X G m_sorted
    m_max := PySem.W.mg_none_of X G m_max
    m_min := PySem.W.mg_none_of X G m_min
    m_sum := PySem.W.mg_none_of X G m_sum
    m_repr := PySem.W.mg_none_of X G m_repr
    m_int := PySem.W.mg_none_of X G m_int
    m_bool := PySem.W.mg_none_of X G m_bool
    m_str := PySem.W.mg_none_of X G m_str
    m_list := PySem.W.mg_none_of X G m_list
    m_tuple := PySem.W.mg_none_of X G m_tuple
    m_dict := PySem.W.mg_none_of X G m_dict
    m_zip := PySem.W.mg_none_of X G m_zip
    m_enumerate := PySem.W.mg_none_of X G m_enumerate
    m_range := PySem.W.mg_none_of X G m_range
  }⟩
theorem end_of {l : PySem.W.OpenLaw} {K : PySem.W.Frag} {mg : Str → Option Value} {w : World} {fa : Addr} (T : ∃ A : Ads, Txt K mg A) (hmg : mg "law" = some (.ref fa)) :
    ∃ fd : FuncData, (∀ (s : Shared) (u : Value), BindsTo s fd ⟨[u], []⟩ [("_law_script", u)]) ∧ ∀ base : Heap, K.In base → base.Ns mainGlobals mg → FnG l.prog w K mg base 8 fa fd ["_law_script"] (sp_law K) := by
  obtain ⟨A, T⟩ := T
  have e := hmg.symm.trans T.m_law
  cases e
  have b := T.F_law.bindsA (ps := ["_law_script"]) fun _ _ _ _ _ _ us hl => match us, hl with | [_], _ => rfl
  exact ⟨A.d_law, fun s v => b s [v] rfl, fun base _ _ => ok_law T⟩
end KB
open PySem PySem.W PyProof.Rows
set_option maxRecDepth 100000 in
set_option maxHeartbeats 0 in
theorem PySem.Challenge.cw_paperkin_k72_whole_banks_holds : PySem.Challenge.rw_paperkin_k72_whole_banks.Holds := by
  refine KB.head ?_
  k_fill
  refine KB.walk_ofG (l := PySem.Challenge.rw_paperkin_k72_whole_banks) (n := 63) (k := 8) (x := "_law_script") (sp := KB.sp_law) rfl (by decide) rfl ⟨rfl, by decide, by decide⟩ (fun w h Y => PySem.W.kIn_of Y) ?F (fun K H a ns hl hS => ⟨a, ns, rfl, hS, hl, fun _ => rfl⟩)
  case F =>
    intro w mg fa h KX G hmg
    refine KB.end_of ?T hmg
    case T =>
      refine' KB.txt_mk KX G ?aQ ?aB ?a_is_whole ?p_is_whole ?a_is_name ?p_is_name ?a_is_text ?p_is_text ?a_need_day ?p_need_day ?a_are_answers ?p_are_answers ?a_is_of ?p_is_of ?a_Q_init ?i_Q_init ?p_Q_init ?a_Q_parts ?i_Q_parts ?p_Q_parts ?a_Q_eq ?i_Q_eq ?p_Q_eq ?a_need_question ?p_need_question ?a_B_init ?i_B_init ?p_B_init ?a_B_need_there ?i_B_need_there ?p_B_need_there ?a_B_added ?i_B_added ?p_B_added ?a_B_put ?i_B_put ?p_B_put ?a_B_taken_out ?i_B_taken_out ?p_B_taken_out ?a_B_put_back ?i_B_put_back ?p_B_put_back ?a_B_dropped ?i_B_dropped ?p_B_dropped ?a_B_used_on ?i_B_used_on ?p_B_used_on ?a_B_unused_on ?i_B_unused_on ?p_B_unused_on ?a_B_names ?i_B_names ?p_B_names ?a_B_names_in ?i_B_names_in ?p_B_names_in ?a_B_outs ?i_B_outs ?p_B_outs ?a_B_question ?i_B_question ?p_B_question ?a_B_days_of ?i_B_days_of ?p_B_days_of ?a_B_last_day ?i_B_last_day ?p_B_last_day ?a_B_matters ?i_B_matters ?p_B_matters ?a_B_rests ?i_B_rests ?p_B_rests ?a_B_found ?i_B_found ?p_B_found ?a_B_standing ?i_B_standing ?p_B_standing ?a_B_twin ?i_B_twin ?p_B_twin ?a_B_eq ?i_B_eq ?p_B_eq ?a_B_len ?i_B_len ?p_B_len ?a_need_bank ?p_need_bank ?a_resting ?p_resting ?a_w_mixed ?p_w_mixed ?a_w_begun ?p_w_begun ?a_w_take ?p_w_take ?a_w_names ?p_w_names ?a_w_row ?p_w_row ?a_w_made ?p_w_made ?a_w_parts ?p_w_parts ?a_w_led ?p_w_led ?a_w_back_right ?p_w_back_right ?a_w_parts_right ?p_w_parts_right ?a_w_called ?p_w_called ?a_w_calls_right ?p_w_calls_right ?a_law ?p_law ?pgQ ?hdQ ?poQ ?saQ ?mkQ ?kcQ ?clsQ ?mroQ ?pgB ?hdB ?poB ?saB ?mkB ?kcB ?clsB ?mroB ?getCls ?takesCls ?nQ_name ?nQ_matter ?nQ_answers ?nQ_right ?nQ_toil ?nQ_marks ?nQ_kin ?nB_kept_here ?nB_out_here ?nB_days_here ?neB ?g_LETTERS ?e_LETTERS ?g_SIGNS ?e_SIGNS ?g_LONGEST_NAME ?e_LONGEST_NAME ?g_LONGEST_TEXT ?e_LONGEST_TEXT ?g_FEWEST ?e_FEWEST ?g_MOST ?e_MOST ?g_TOP ?e_TOP ?g_MOST_QUESTIONS ?e_MOST_QUESTIONS ?m_isinstance ?m_len ?m_all ?m_sorted ?m_max ?m_min ?m_sum ?m_repr ?m_int ?m_bool ?m_str ?m_list ?m_tuple ?m_dict ?m_zip ?m_enumerate ?m_range
      (case aQ => k_is)
      (case aB => k_is)
      (case a_is_whole => k_is)
      (case p_is_whole => refine' KB.fd_mkD ?l ?c ?k ?t ?r; (case l => k_is); (case c => k_is); (case k => k_is); (case t => k_is); (case r => exact (.cons ⟨_, rfl⟩ (.cons ⟨_, rfl⟩ .nil))))
      (case a_is_name => k_is)
      (case p_is_name => refine' KB.fd_mk0 ?l ?c ?k; (case l => k_is); (case c => k_is); (case k => k_is))
      (case a_is_text => k_is)
      (case p_is_text => refine' KB.fd_mk0 ?l ?c ?k; (case l => k_is); (case c => k_is); (case k => k_is))
      (case a_need_day => k_is)
      (case p_need_day => refine' KB.fd_mk0 ?l ?c ?k; (case l => k_is); (case c => k_is); (case k => k_is))
      (case a_are_answers => k_is)
      (case p_are_answers => refine' KB.fd_mk0 ?l ?c ?k; (case l => k_is); (case c => k_is); (case k => k_is))
      (case a_is_of => k_is)
      (case p_is_of => refine' KB.fd_mk0 ?l ?c ?k; (case l => k_is); (case c => k_is); (case k => k_is))
      (case a_Q_init => k_is)
      (case i_Q_init => k_is)
      (case p_Q_init => refine' KB.fd_mkD ?l ?c ?k ?t ?r; (case l => k_is); (case c => k_is); (case k => k_is); (case t => k_is); (case r => exact (.cons ⟨_, rfl⟩ (.cons ⟨_, rfl⟩ (.cons ⟨_, rfl⟩ (.cons ⟨_, rfl⟩ .nil))))))
      (case a_Q_parts => k_is)
      (case i_Q_parts => k_is)
      (case p_Q_parts => refine' KB.fd_mk0 ?l ?c ?k; (case l => k_is); (case c => k_is); (case k => k_is))
      (case a_Q_eq => k_is)
      (case i_Q_eq => k_is)
      (case p_Q_eq => refine' KB.fd_mk0 ?l ?c ?k; (case l => k_is); (case c => k_is); (case k => k_is))
      (case a_need_question => k_is)
      (case p_need_question => refine' KB.fd_mk0 ?l ?c ?k; (case l => k_is); (case c => k_is); (case k => k_is))
      (case a_B_init => k_is)
      (case i_B_init => k_is)
      (case p_B_init => refine' KB.fd_mkD ?l ?c ?k ?t ?r; (case l => k_is); (case c => k_is); (case k => k_is); (case t => k_is); (case r => exact (.cons rfl .nil)))
      (case a_B_need_there => k_is)
      (case i_B_need_there => k_is)
      (case p_B_need_there => refine' KB.fd_mk0 ?l ?c ?k; (case l => k_is); (case c => k_is); (case k => k_is))
      (case a_B_added => k_is)
      (case i_B_added => k_is)
      (case p_B_added => refine' KB.fd_mk0 ?l ?c ?k; (case l => k_is); (case c => k_is); (case k => k_is))
      (case a_B_put => k_is)
      (case i_B_put => k_is)
      (case p_B_put => refine' KB.fd_mk0 ?l ?c ?k; (case l => k_is); (case c => k_is); (case k => k_is))
      (case a_B_taken_out => k_is)
      (case i_B_taken_out => k_is)
      (case p_B_taken_out => refine' KB.fd_mkD ?l ?c ?k ?t ?r; (case l => k_is); (case c => k_is); (case k => k_is); (case t => k_is); (case r => exact (.cons ⟨_, rfl⟩ .nil)))
      (case a_B_put_back => k_is)
      (case i_B_put_back => k_is)
      (case p_B_put_back => refine' KB.fd_mk0 ?l ?c ?k; (case l => k_is); (case c => k_is); (case k => k_is))
      (case a_B_dropped => k_is)
      (case i_B_dropped => k_is)
      (case p_B_dropped => refine' KB.fd_mk0 ?l ?c ?k; (case l => k_is); (case c => k_is); (case k => k_is))
      (case a_B_used_on => k_is)
      (case i_B_used_on => k_is)
      (case p_B_used_on => refine' KB.fd_mk0 ?l ?c ?k; (case l => k_is); (case c => k_is); (case k => k_is))
      (case a_B_unused_on => k_is)
      (case i_B_unused_on => k_is)
      (case p_B_unused_on => refine' KB.fd_mk0 ?l ?c ?k; (case l => k_is); (case c => k_is); (case k => k_is))
      (case a_B_names => k_is)
      (case i_B_names => k_is)
      (case p_B_names => refine' KB.fd_mk0 ?l ?c ?k; (case l => k_is); (case c => k_is); (case k => k_is))
      (case a_B_names_in => k_is)
      (case i_B_names_in => k_is)
      (case p_B_names_in => refine' KB.fd_mk0 ?l ?c ?k; (case l => k_is); (case c => k_is); (case k => k_is))
      (case a_B_outs => k_is)
      (case i_B_outs => k_is)
      (case p_B_outs => refine' KB.fd_mk0 ?l ?c ?k; (case l => k_is); (case c => k_is); (case k => k_is))
      (case a_B_question => k_is)
      (case i_B_question => k_is)
      (case p_B_question => refine' KB.fd_mk0 ?l ?c ?k; (case l => k_is); (case c => k_is); (case k => k_is))
      (case a_B_days_of => k_is)
      (case i_B_days_of => k_is)
      (case p_B_days_of => refine' KB.fd_mk0 ?l ?c ?k; (case l => k_is); (case c => k_is); (case k => k_is))
      (case a_B_last_day => k_is)
      (case i_B_last_day => k_is)
      (case p_B_last_day => refine' KB.fd_mkD ?l ?c ?k ?t ?r; (case l => k_is); (case c => k_is); (case k => k_is); (case t => k_is); (case r => exact (.cons ⟨_, rfl⟩ .nil)))
      (case a_B_matters => k_is)
      (case i_B_matters => k_is)
      (case p_B_matters => refine' KB.fd_mk0 ?l ?c ?k; (case l => k_is); (case c => k_is); (case k => k_is))
      (case a_B_rests => k_is)
      (case i_B_rests => k_is)
      (case p_B_rests => refine' KB.fd_mk0 ?l ?c ?k; (case l => k_is); (case c => k_is); (case k => k_is))
      (case a_B_found => k_is)
      (case i_B_found => k_is)
      (case p_B_found => refine' KB.fd_mkD ?l ?c ?k ?t ?r; (case l => k_is); (case c => k_is); (case k => k_is); (case t => k_is); (case r => exact (.cons ⟨_, rfl⟩ (.cons ⟨_, rfl⟩ (.cons ⟨_, rfl⟩ (.cons ⟨_, rfl⟩ (.cons rfl (.cons ⟨_, rfl⟩ .nil))))))))
      (case a_B_standing => k_is)
      (case i_B_standing => k_is)
      (case p_B_standing => refine' KB.fd_mk0 ?l ?c ?k; (case l => k_is); (case c => k_is); (case k => k_is))
      (case a_B_twin => k_is)
      (case i_B_twin => k_is)
      (case p_B_twin => refine' KB.fd_mk0 ?l ?c ?k; (case l => k_is); (case c => k_is); (case k => k_is))
      (case a_B_eq => k_is)
      (case i_B_eq => k_is)
      (case p_B_eq => refine' KB.fd_mk0 ?l ?c ?k; (case l => k_is); (case c => k_is); (case k => k_is))
      (case a_B_len => k_is)
      (case i_B_len => k_is)
      (case p_B_len => refine' KB.fd_mk0 ?l ?c ?k; (case l => k_is); (case c => k_is); (case k => k_is))
      (case a_need_bank => k_is)
      (case p_need_bank => refine' KB.fd_mk0 ?l ?c ?k; (case l => k_is); (case c => k_is); (case k => k_is))
      (case a_resting => k_is)
      (case p_resting => refine' KB.fd_mk0 ?l ?c ?k; (case l => k_is); (case c => k_is); (case k => k_is))
      (case a_w_mixed => k_is)
      (case p_w_mixed => refine' KB.fd_mk0 ?l ?c ?k; (case l => k_is); (case c => k_is); (case k => k_is))
      (case a_w_begun => k_is)
      (case p_w_begun => refine' KB.fd_mk0 ?l ?c ?k; (case l => k_is); (case c => k_is); (case k => k_is))
      (case a_w_take => k_is)
      (case p_w_take => refine' KB.fd_mk0 ?l ?c ?k; (case l => k_is); (case c => k_is); (case k => k_is))
      (case a_w_names => k_is)
      (case p_w_names => refine' KB.fd_mk0 ?l ?c ?k; (case l => k_is); (case c => k_is); (case k => k_is))
      (case a_w_row => k_is)
      (case p_w_row => refine' KB.fd_mk0 ?l ?c ?k; (case l => k_is); (case c => k_is); (case k => k_is))
      (case a_w_made => k_is)
      (case p_w_made => refine' KB.fd_mk0 ?l ?c ?k; (case l => k_is); (case c => k_is); (case k => k_is))
      (case a_w_parts => k_is)
      (case p_w_parts => refine' KB.fd_mk0 ?l ?c ?k; (case l => k_is); (case c => k_is); (case k => k_is))
      (case a_w_led => k_is)
      (case p_w_led => refine' KB.fd_mk0 ?l ?c ?k; (case l => k_is); (case c => k_is); (case k => k_is))
      (case a_w_back_right => k_is)
      (case p_w_back_right => refine' KB.fd_mk0 ?l ?c ?k; (case l => k_is); (case c => k_is); (case k => k_is))
      (case a_w_parts_right => k_is)
      (case p_w_parts_right => refine' KB.fd_mk0 ?l ?c ?k; (case l => k_is); (case c => k_is); (case k => k_is))
      (case a_w_called => k_is)
      (case p_w_called => refine' KB.fd_mk0 ?l ?c ?k; (case l => k_is); (case c => k_is); (case k => k_is))
      (case a_w_calls_right => k_is)
      (case p_w_calls_right => refine' KB.fd_mk0 ?l ?c ?k; (case l => k_is); (case c => k_is); (case k => k_is))
      (case a_law => k_is)
      (case p_law => refine' KB.fd_mk0 ?l ?c ?k; (case l => k_is); (case c => k_is); (case k => k_is))
      (case pgQ => k_is)
      (case hdQ => k_is)
      (case poQ => k_is)
      (case saQ => k_is)
      (case mkQ => k_is)
      (case kcQ => k_is)
      (case clsQ => k_is)
      (case mroQ => k_is)
      (case pgB => k_is)
      (case hdB => k_is)
      (case poB => k_is)
      (case saB => k_is)
      (case mkB => k_is)
      (case kcB => k_is)
      (case clsB => k_is)
      (case mroB => k_is)
      (case getCls => k_is)
      (case takesCls => k_is)
      (case nQ_name => k_is)
      (case nQ_matter => k_is)
      (case nQ_answers => k_is)
      (case nQ_right => k_is)
      (case nQ_toil => k_is)
      (case nQ_marks => k_is)
      (case nQ_kin => k_is)
      (case nB_kept_here => k_is)
      (case nB_out_here => k_is)
      (case nB_days_here => k_is)
      (case neB => refine' KB.noNe_mk ?lC ?lN ?sk ?eq ?ne ?lf; (case lC => k_is); (case lN => k_is); (case sk => rfl); (case eq => k_is); (case ne => k_is); (case lf => k_is); (all_goals exact []))
      (case g_LETTERS => k_is)
      (case e_LETTERS => exact ⟨_, rfl⟩)
      (case g_SIGNS => k_is)
      (case e_SIGNS => exact ⟨_, rfl⟩)
      (case g_LONGEST_NAME => k_is)
      (case e_LONGEST_NAME => exact ⟨_, rfl⟩)
      (case g_LONGEST_TEXT => k_is)
      (case e_LONGEST_TEXT => exact ⟨_, rfl⟩)
      (case g_FEWEST => k_is)
      (case e_FEWEST => exact ⟨_, rfl⟩)
      (case g_MOST => k_is)
      (case e_MOST => exact ⟨_, rfl⟩)
      (case g_TOP => k_is)
      (case e_TOP => exact ⟨_, rfl⟩)
      (case g_MOST_QUESTIONS => k_is)
      (case e_MOST_QUESTIONS => exact ⟨_, rfl⟩)
      (case m_isinstance => k_is)
      (case m_len => k_is)
      (case m_all => k_is)
      (case m_sorted => k_is)
      (case m_max => k_is)
      (case m_min => k_is)
      (case m_sum => k_is)
      (case m_repr => k_is)
      (case m_int => k_is)
      (case m_bool => k_is)
      (case m_str => k_is)
      (case m_list => k_is)
      (case m_tuple => k_is)
      (case m_dict => k_is)
      (case m_zip => k_is)
      (case m_enumerate => k_is)
      (case m_range => k_is)
