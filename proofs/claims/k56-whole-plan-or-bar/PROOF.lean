import PyProof.Rows.All
import Wide.All
import OpenK.AllK
import Wide.FinOn
import HandS.ForMost
import HandS.Walk
import HandS.DictComp
import HandS.More
import HandS.Conv
import HandS.SetKeys
import HandS.IsInst
import HandS.Style
import HandS.Exc
import HandS.ExcInit
import HandS.ExcField
import HandS.TryOnly
import HandS.WordsExc
import HandS.Defaults
import HandS.SetFor
import HandS.Flow
import HandS.NoneIn
import KE.GoesEnum
import KE.GoesMore
import KE.GoesComp
import HandS.ListItems
import HandS.Deep
import HandS.WordsDict
import KE.KExcSuper
import HandS.Head0
import HandS.Head1
import HandS.Head2
import HandS.HeadEnd
import HandS.HeadHook1
import HandS.HeadHook2
import PySem.Challenge.RW_giftrings_k56_whole_plan_or_bar
/-! Counting over lists without repeats; choices of takers, loads, bars (plain mathematics, no program). -/
set_option linter.all false
namespace Gift
section
variable {α β : Type}
theorem sum_add (l : List α) (f g : α → Nat) : (l.map fun a => f a + g a).sum = (l.map f).sum + (l.map g).sum := by
  induction l with
  | nil => rfl
  | cons a r ih =>
    simp only [List.map_cons, List.sum_cons, ih]
    omega
theorem sum_congr {l : List α} {f g : α → Nat} (h : ∀ a ∈ l, f a = g a) : (l.map f).sum = (l.map g).sum := by
  induction l with
  | nil => rfl
  | cons a r ih =>
    simp only [List.map_cons, List.sum_cons]
    rw [h a List.mem_cons_self, ih fun b hb => h b (List.mem_cons_of_mem _ hb)]
theorem sum_le {l : List α} {f g : α → Nat} (h : ∀ a ∈ l, f a ≤ g a) : (l.map f).sum ≤ (l.map g).sum := by
  induction l with
  | nil => exact Nat.le_refl _
  | cons a r ih =>
    simp only [List.map_cons, List.sum_cons]
    have := h a List.mem_cons_self
    have := ih fun b hb => h b (List.mem_cons_of_mem _ hb)
    omega
theorem sum_const (l : List α) (k : Nat) : (l.map fun _ => k).sum = k * l.length := by
  induction l with
  | nil => simp
  | cons a r ih =>
    simp only [List.map_cons, List.sum_cons, List.length_cons, ih, Nat.mul_add]
    omega
theorem sum_lt {l : List α} {f : α → Nat} {k : Nat} (h : ∀ a ∈ l, f a ≤ k) {x : α} (hx : x ∈ l) (hl : f x < k) : (l.map f).sum < k * l.length := by
  induction l with
  | nil => cases hx
  | cons a r ih =>
    simp only [List.map_cons, List.sum_cons, List.length_cons, Nat.mul_add]
    have ha := h a List.mem_cons_self
    have hr : (r.map f).sum ≤ k * r.length := by
      rw [← sum_const r k]
      exact sum_le fun b hb => h b (List.mem_cons_of_mem _ hb)
    rcases List.mem_cons.mp hx with e | e
    · subst e
      omega
    · have := ih (fun b hb => h b (List.mem_cons_of_mem _ hb)) e
      omega
theorem countP_sum (l : List α) (p : α → Bool) : l.countP p = (l.map fun a => if p a = true then 1 else 0).sum := by
  induction l with
  | nil => rfl
  | cons a r ih =>
    simp only [List.map_cons, List.sum_cons, List.countP_cons, ih]
    omega
/-- counting pairs by rows and by columns -/
theorem dbl (A : List α) (B : List β) (P : α → β → Bool) : (A.map fun a => B.countP (P a)).sum = (B.map fun b => A.countP fun a => P a b).sum := by
  induction A with
  | nil =>
    simp only [List.map_nil, List.sum_nil, List.countP_nil]
    rw [sum_const]
    omega
  | cons a r ih =>
    simp only [List.map_cons, List.sum_cons, ih, List.countP_cons]
    rw [sum_add, countP_sum B (P a)]
    omega
variable [DecidableEq α]
theorem nodup_le {A : List α} : ∀ {B : List α}, A.Nodup → (∀ a ∈ A, a ∈ B) → A.length ≤ B.length := by
  induction A with
  | nil => intro B _ _; exact Nat.zero_le _
  | cons a r ih =>
    intro B hn hs
    obtain ⟨h1, h2⟩ := List.nodup_cons.mp hn
    have ha : a ∈ B := hs a List.mem_cons_self
    have := ih (B := B.erase a) h2 fun b hb => (List.mem_erase_of_ne (fun e => h1 (by rw [← e]; exact hb))).mpr (hs b (List.mem_cons_of_mem _ hb))
    rw [List.length_erase_of_mem ha] at this
    have : 0 < B.length := List.length_pos_of_mem ha
    simp only [List.length_cons]
    omega
theorem countP_le_nodup {A B : List α} {p q : α → Bool} (hA : A.Nodup) (h : ∀ a ∈ A, p a = true → a ∈ B ∧ q a = true) : A.countP p ≤ B.countP q := by
  rw [List.countP_eq_length_filter, List.countP_eq_length_filter]
  refine nodup_le (hA.sublist List.filter_sublist) fun a ha => ?_
  obtain ⟨h1, h2⟩ := List.mem_filter.mp ha
  obtain ⟨h3, h4⟩ := h a h1 h2
  exact List.mem_filter.mpr ⟨h3, h4⟩
theorem countP_eq_nodup {A B : List α} {p q : α → Bool} (hA : A.Nodup) (hB : B.Nodup) (h : ∀ a ∈ A, p a = true → a ∈ B ∧ q a = true) (h' : ∀ a ∈ B, q a = true → a ∈ A ∧ p a = true) : A.countP p = B.countP q :=
  Nat.le_antisymm (countP_le_nodup hA h) (countP_le_nodup hB h')
theorem countP_in {A B : List α} (hA : A.Nodup) (hB : B.Nodup) : A.countP (fun a => decide (a ∈ B)) = B.countP (fun b => decide (b ∈ A)) :=
  countP_eq_nodup hA hB (fun a h1 h2 => ⟨of_decide_eq_true h2, decide_eq_true h1⟩) fun a h1 h2 => ⟨of_decide_eq_true h2, decide_eq_true h1⟩
theorem length_split (l : List α) (p : α → Bool) : l.length = l.countP p + l.countP fun a => !p a := by
  induction l with
  | nil => rfl
  | cons a r ih =>
    simp only [List.length_cons, List.countP_cons, ih]
    cases p a <;> simp <;> omega
/-- an injective image of a list in itself is onto -/
theorem onto_of_inj {A : List α} {f : α → α} (hA : A.Nodup) (hf : ∀ a ∈ A, f a ∈ A) (hi : ∀ a ∈ A, ∀ b ∈ A, f a = f b → a = b) : ∀ b ∈ A, ∃ a ∈ A, f a = b := by
  intro b hb
  apply Classical.byContradiction
  intro hn
  have h1 : (A.map f).Nodup := by
    rw [List.nodup_iff_pairwise_ne, List.pairwise_map]
    refine List.Pairwise.imp_of_mem ?_ (List.nodup_iff_pairwise_ne.mp hA)
    intro a c ha hc hne e
    exact hne (hi a ha c hc e)
  have h2 : (b :: A.map f).Nodup := List.nodup_cons.mpr ⟨fun h => hn (by
    obtain ⟨a, h1, h2⟩ := List.mem_map.mp h
    exact ⟨a, h1, h2⟩), h1⟩
  have h3 := nodup_le (B := A) h2 fun x hx => by
    rcases List.mem_cons.mp hx with e | e
    · exact e ▸ hb
    · obtain ⟨a, h1, h2⟩ := List.mem_map.mp e
      exact h2 ▸ hf a h1
  simp only [List.length_cons, List.length_map] at h3
  omega
end

section
variable {α : Type} [DecidableEq α]
/-- people, and the takers of each -/
structure Inst (ps : List α) (R : α → List α) : Prop where
  nd : ps.Nodup
  rnd : ∀ g ∈ ps, (R g).Nodup
  sub : ∀ g ∈ ps, ∀ t ∈ R g, t ∈ ps
def load (ps : List α) (C : α → List α) (t : α) : Nat := ps.countP fun g => decide (t ∈ C g)
/-- at most y takers for each giver, at most y givers for each taker -/
structure Choice (ps : List α) (R : α → List α) (y : Nat) (C : α → List α) : Prop where
  nd : ∀ g ∈ ps, (C g).Nodup
  sub : ∀ g ∈ ps, ∀ t ∈ C g, t ∈ R g
  len : ∀ g ∈ ps, (C g).length ≤ y
  ld : ∀ t ∈ ps, load ps C t ≤ y
structure Full (ps : List α) (R : α → List α) (y : Nat) (C : α → List α) : Prop extends Choice ps R y C where
  full : ∀ g ∈ ps, (C g).length = y
/-- pairs from S to T -/
def pairsIn (R : α → List α) (S T : List α) : Nat := (S.map fun g => (R g).countP fun t => decide (t ∈ T)).sum
structure Bar (ps : List α) (R : α → List α) (y : Nat) (S T : List α) : Prop where
  snd : S.Nodup
  tnd : T.Nodup
  ssub : ∀ g ∈ S, g ∈ ps
  tsub : ∀ t ∈ T, t ∈ ps
  ineq : pairsIn R S T + y * ps.length < y * (S.length + T.length)
theorem pairsIn_flip {R : α → List α} {S T : List α} (hT : T.Nodup) (hr : ∀ g ∈ S, (R g).Nodup) : pairsIn R S T = (S.map fun g => T.countP fun t => decide (t ∈ R g)).sum :=
  sum_congr fun g hg => countP_in (hr g hg) hT
/-- where the search got stuck there is a bar -/
theorem bar_of_stuck {ps : List α} {R C : α → List α} {y : Nat} {S T : List α} {start : α} (I : Inst ps R) (c : Choice ps R y C) (hS : S.Nodup) (hSp : ∀ g ∈ S, g ∈ ps) (hT : T.Nodup) (hTp : ∀ t ∈ T, t ∈ ps)
    (hs : start ∈ S) (hlt : (C start).length < y) (h1 : ∀ g ∈ S, ∀ t ∈ R g, t ∉ C g → t ∈ T) (h2 : ∀ t ∈ T, y ≤ load ps C t) (h3 : ∀ t ∈ T, ∀ g ∈ ps, t ∈ C g → g ∈ S) {S' T' : List α}
    (hS' : S'.Nodup) (eS : ∀ g, g ∈ S' ↔ g ∈ S) (hT' : T'.Nodup) (eT : ∀ t, t ∈ T' ↔ (t ∈ ps ∧ t ∉ T)) : Bar ps R y S' T' := by
  have pS : S'.Perm S := (List.perm_ext_iff_of_nodup hS' hS).mpr eS
  have lT : T.length + T'.length = ps.length := by
    rw [length_split ps fun t => decide (t ∈ T)]
    have e1 : ps.countP (fun t => decide (t ∈ T)) = T.length := by
      rw [← countP_in hT I.nd, List.countP_eq_length.mpr]
      intro a ha
      exact decide_eq_true (hTp a ha)
    have e2 : ps.countP (fun t => !decide (t ∈ T)) = T'.length := by
      have e3 : T'.countP (fun _ => true) = T'.length := by simp
      rw [← e3]
      refine countP_eq_nodup I.nd hT' (fun a h1 h2 => ⟨(eT a).mpr ⟨h1, by simpa using h2⟩, rfl⟩) fun a h1 _ => ⟨((eT a).mp h1).1, by simpa using ((eT a).mp h1).2⟩
    omega
  have lS : S'.length = S.length := pS.length_eq
  refine ⟨hS', hT', fun g hg => hSp g ((eS g).mp hg), fun t ht => ((eT t).mp ht).1, ?_⟩
  have e0 : pairsIn R S' T' = (S.map fun g => (R g).countP fun t => decide (t ∈ T')).sum := (pS.map _).sum_nat
  -- the pairs are chosen pairs that miss T
  have a1 : pairsIn R S' T' ≤ (S.map fun g => (C g).countP fun t => !decide (t ∈ T)).sum := by
    rw [e0]
    refine sum_le fun g hg => countP_le_nodup (I.rnd g (hSp g hg)) fun t ht hp => ?_
    have ht' := (eT t).mp (of_decide_eq_true hp)
    refine ⟨?_, by simpa using ht'.2⟩
    apply Classical.byContradiction
    intro hc
    exact ht'.2 (h1 g hg t ht hc)
  have a2 : (S.map fun g => (C g).length).sum = (S.map fun g => (C g).countP fun t => decide (t ∈ T)).sum + (S.map fun g => (C g).countP fun t => !decide (t ∈ T)).sum := by
    rw [← sum_add]
    exact sum_congr fun g _ => length_split (C g) _
  have a3 : (S.map fun g => (C g).countP fun t => decide (t ∈ T)).sum = (T.map fun t => S.countP fun g => decide (t ∈ C g)).sum := by
    rw [← dbl]
    exact sum_congr fun g hg => countP_in (c.nd g (hSp g hg)) hT
  have a4 : y * T.length ≤ (T.map fun t => S.countP fun g => decide (t ∈ C g)).sum := by
    rw [← sum_const T y]
    refine sum_le fun t ht => ?_
    refine Nat.le_trans (h2 t ht) ?_
    exact countP_le_nodup I.nd fun g hg hp => ⟨h3 t ht g hg (of_decide_eq_true hp), hp⟩
  have a5 : (S.map fun g => (C g).length).sum < y * S.length := sum_lt (fun g hg => c.len g (hSp g hg)) hs hlt
  rw [lS, ← lT, Nat.mul_add, Nat.mul_add]
  omega
/-- where there is a bar there is no full choice -/
theorem Bar.not_full {ps : List α} {R C : α → List α} {y z : Nat} {S T : List α} (I : Inst ps R) (b : Bar ps R y S T) (f : Full ps R z C) : z < y := by
  apply Classical.byContradiction
  intro hz
  have hz : y ≤ z := by omega
  have hyn := b.ineq
  -- the inequality for z
  have a1 : z * S.length = (S.map fun g => (C g).length).sum := by
    rw [← sum_const S z]
    exact sum_congr fun g hg => (f.full g (b.ssub g hg)).symm
  have a2 : (S.map fun g => (C g).length).sum = (S.map fun g => (C g).countP fun t => decide (t ∈ T)).sum + (S.map fun g => (C g).countP fun t => !decide (t ∈ T)).sum := by
    rw [← sum_add]
    exact sum_congr fun g _ => length_split (C g) _
  have a3 : (S.map fun g => (C g).countP fun t => decide (t ∈ T)).sum ≤ pairsIn R S T := by
    refine sum_le fun g hg => countP_le_nodup (f.nd g (b.ssub g hg)) fun t ht hp => ⟨f.sub g (b.ssub g hg) t ht, hp⟩
  let U := ps.filter fun t => !decide (t ∈ T)
  have hU : U.Nodup := I.nd.sublist List.filter_sublist
  have a4 : (S.map fun g => (C g).countP fun t => !decide (t ∈ T)).sum ≤ (S.map fun g => U.countP fun t => decide (t ∈ C g)).sum := by
    refine sum_le fun g hg => countP_le_nodup (f.nd g (b.ssub g hg)) fun t ht hp => ⟨List.mem_filter.mpr ⟨I.sub g (b.ssub g hg) t (f.sub g (b.ssub g hg) t ht), hp⟩, decide_eq_true ht⟩
  have a5 : (S.map fun g => U.countP fun t => decide (t ∈ C g)).sum ≤ z * U.length := by
    rw [dbl, ← sum_const U z]
    refine sum_le fun t ht => Nat.le_trans ?_ (f.ld t (List.mem_filter.mp ht).1)
    exact countP_le_nodup b.snd fun g hg hp => ⟨b.ssub g hg, hp⟩
  have lU : T.length + U.length = ps.length := by
    rw [length_split ps fun t => decide (t ∈ T), ← countP_in b.tnd I.nd, List.countP_eq_length.mpr fun a ha => decide_eq_true (b.tsub a ha), List.countP_eq_length_filter]
  rw [← lU, Nat.mul_add, Nat.mul_add] at hyn
  have h1 : y * U.length < y * S.length := by omega
  have hUS : U.length < S.length := Nat.lt_of_mul_lt_mul_left h1
  obtain ⟨k, hk⟩ := Nat.le.dest (Nat.le_of_lt hUS)
  obtain ⟨m, hm⟩ := Nat.le.dest hz
  have h2 : z * S.length = y * S.length + m * S.length := by rw [← hm, Nat.add_mul]
  have h3 : z * U.length = y * U.length + m * U.length := by rw [← hm, Nat.add_mul]
  have h4 : m * U.length ≤ m * S.length := Nat.mul_le_mul_left _ (Nat.le_of_lt hUS)
  omega
/-- a full choice loads every taker fully -/
theorem Full.load_eq {ps : List α} {R C : α → List α} {y : Nat} (I : Inst ps R) (f : Full ps R y C) : ∀ t ∈ ps, load ps C t = y := by
  have e : (ps.map fun t => load ps C t).sum = y * ps.length := by
    have e1 : (ps.map fun t => load ps C t).sum = (ps.map fun g => ps.countP fun t => decide (t ∈ C g)).sum := (dbl ps ps fun g t => decide (t ∈ C g)).symm
    rw [e1, ← sum_const ps y]
    refine sum_congr fun g hg => ?_
    rw [← countP_in (f.nd g hg) I.nd, List.countP_eq_length.mpr, f.full g hg]
    intro t ht
    exact decide_eq_true (I.sub g hg t (f.sub g hg t ht))
  intro t ht
  apply Classical.byContradiction
  intro hn
  have hlt : load ps C t < y := by have := f.ld t ht; omega
  have := sum_lt (f := fun t => load ps C t) (fun a ha => f.ld a ha) ht hlt
  omega
/-- no more years than others -/
theorem Full.lt_length {ps : List α} {R C : α → List α} {y : Nat} (I : Inst ps R) (hirr : ∀ g ∈ ps, g ∉ R g) (hne : ps ≠ []) (f : Full ps R y C) : y < ps.length := by
  obtain ⟨g, r, rfl⟩ : ∃ g r, ps = g :: r := by
    cases ps with
    | nil => exact absurd rfl hne
    | cons g r => exact ⟨g, r, rfl⟩
  have hg : g ∈ g :: r := List.mem_cons_self
  rw [← f.full g hg]
  have h1 : (g :: C g).Nodup := List.nodup_cons.mpr ⟨fun h => hirr g hg (f.sub g hg g h), f.nd g hg⟩
  have := nodup_le (B := g :: r) h1 fun t ht => by
    rcases List.mem_cons.mp ht with e | e
    · exact e ▸ hg
    · exact I.sub g hg t (f.sub g hg t e)
  simp only [List.length_cons] at this ⊢
  omega
end
end Gift
set_option linter.all false
/-! Tables of pairs (as a dict keeps them); the search for a full pairing. -/
namespace Gift
section
variable {α β : Type} [DecidableEq α]
def lk (m : List (α × β)) (k : α) : Option β := (m.find? fun p => decide (p.1 = k)).map (·.2)
def pt (m : List (α × β)) (k : α) (v : β) : List (α × β) := if (m.any fun p => decide (p.1 = k)) = true then m.map (fun p => if p.1 = k then (p.1, v) else p) else m ++ [(k, v)]
theorem lk_nil {k : α} : lk ([] : List (α × β)) k = none := rfl
theorem lk_pos {p : α × β} {r : List (α × β)} {k : α} (e : p.1 = k) : lk (p :: r) k = some p.2 := by simp [lk, List.find?_cons, e]
theorem lk_neg {p : α × β} {r : List (α × β)} {k : α} (e : ¬ p.1 = k) : lk (p :: r) k = lk r k := by simp [lk, List.find?_cons, e]
theorem lk_any (k : α) : ∀ m : List (α × β), (m.any fun p => decide (p.1 = k)) = (lk m k).isSome
  | [] => rfl
  | p :: r => by
    rw [List.any_cons]
    by_cases e : p.1 = k
    · simp only [lk_pos e, decide_eq_true e, Bool.true_or, Option.isSome_some]
    · rw [lk_neg e, decide_eq_false e, Bool.false_or]
      exact lk_any k r
theorem lk_mem {m : List (α × β)} {k : α} {v : β} (h : lk m k = some v) : (k, v) ∈ m := by
  induction m with
  | nil => cases h
  | cons p r ih =>
    by_cases e : p.1 = k
    · rw [lk_pos e] at h
      obtain ⟨a, b⟩ := p
      cases h
      cases e
      exact List.mem_cons_self
    · rw [lk_neg e] at h
      exact List.mem_cons_of_mem _ (ih h)
theorem lk_none {m : List (α × β)} {k : α} : lk m k = none ↔ k ∉ m.map (·.1) := by
  induction m with
  | nil => simp [lk]
  | cons p r ih =>
    by_cases e : p.1 = k
    · rw [lk_pos e]
      simp [e]
    · rw [lk_neg e, ih]
      simp only [List.map_cons, List.mem_cons, not_or]
      constructor
      · intro h
        exact ⟨fun q => e q.symm, h⟩
      · exact fun h => h.2
theorem lk_isSome {m : List (α × β)} {k : α} : (lk m k).isSome = true ↔ k ∈ m.map (·.1) := by
  cases h : lk m k with
  | none =>
    have := lk_none.mp h
    simp [this]
  | some v =>
    have := lk_mem h
    simp only [Option.isSome_some, true_iff]
    exact List.mem_map.mpr ⟨_, this, rfl⟩
theorem lk_of_mem {m : List (α × β)} {k : α} {v : β} (hn : (m.map (·.1)).Nodup) (h : (k, v) ∈ m) : lk m k = some v := by
  induction m with
  | nil => cases h
  | cons p r ih =>
    rw [List.map_cons, List.nodup_cons] at hn
    rcases List.mem_cons.mp h with e | e
    · subst e
      exact lk_pos rfl
    · have : ¬ p.1 = k := fun q => hn.1 (by
        rw [q]
        exact List.mem_map.mpr ⟨_, e, rfl⟩)
      rw [lk_neg this]
      exact ih hn.2 e
theorem lk_map (k j : α) (y : β) : ∀ m : List (α × β), lk (m.map fun p => if p.1 = k then (p.1, y) else p) j = (lk m j).map fun x => if j = k then y else x
  | [] => rfl
  | p :: r => by
    have ih := lk_map k j y r
    rw [List.map_cons]
    by_cases h : p.1 = k
    · rw [if_pos h]
      by_cases e : p.1 = j
      · rw [lk_pos (p := (p.1, y)) e, lk_pos e]
        simp [e.symm.trans h]
      · rw [lk_neg (p := (p.1, y)) e, lk_neg e, ih]
    · rw [if_neg h]
      by_cases e : p.1 = j
      · rw [lk_pos e, lk_pos e]
        have : ¬ j = k := fun q => h (e.trans q)
        simp [this]
      · rw [lk_neg e, lk_neg e, ih]
theorem lk_snoc (k j : α) (y : β) : ∀ m : List (α × β), lk m k = none → lk (m ++ [(k, y)]) j = if j = k then some y else lk m j
  | [], _ => by
    by_cases e : k = j
    · rw [if_pos e.symm]; exact lk_pos (p := (k, y)) e
    · rw [if_neg (fun z => e z.symm)]; exact lk_neg (p := (k, y)) e
  | p :: r, hn => by
    have hk : ¬ p.1 = k := fun e => by rw [lk_pos e] at hn; cases hn
    rw [lk_neg hk] at hn
    rw [List.cons_append]
    by_cases e : p.1 = j
    · rw [lk_pos e, lk_pos e, if_neg (fun q => hk (e.trans q))]
    · rw [lk_neg e, lk_neg e, lk_snoc k j y r hn]
theorem lk_pt (m : List (α × β)) (k j : α) (y : β) : lk (pt m k y) j = if j = k then some y else lk m j := by
  unfold pt
  by_cases a : (m.any fun p => decide (p.1 = k)) = true
  · rw [if_pos a, lk_map]
    rw [lk_any] at a
    by_cases e : j = k
    · subst e
      rw [if_pos rfl]
      cases h : lk m j with
      | none => rw [h] at a; cases a
      | some v => simp
    · rw [if_neg e]
      cases h : lk m j with
      | none => rfl
      | some v => simp [e]
  · rw [if_neg a]
    rw [lk_any] at a
    exact lk_snoc k j y m (by
      cases h : lk m k with
      | none => rfl
      | some v => rw [h] at a; exact absurd rfl a)
theorem pt_new {m : List (α × β)} {k : α} (v : β) (h : lk m k = none) : pt m k v = m ++ [(k, v)] := by
  unfold pt
  rw [lk_any, h]
  exact if_neg (fun z => nomatch z)
theorem keys_pt (m : List (α × β)) (k : α) (v : β) : (pt m k v).map (·.1) = if (lk m k).isSome = true then m.map (·.1) else m.map (·.1) ++ [k] := by
  unfold pt
  rw [lk_any]
  split
  · rw [List.map_map]
    refine List.map_congr_left fun p _ => ?_
    show (if p.1 = k then (p.1, v) else p).1 = p.1
    split <;> rfl
  · rw [List.map_append] <;> rfl
theorem nodup_pt {m : List (α × β)} (k : α) (v : β) (h : (m.map (·.1)).Nodup) : ((pt m k v).map (·.1)).Nodup := by
  rw [keys_pt]
  split
  · exact h
  · rename_i q
    rw [List.nodup_append]
    refine ⟨h, by simp, fun a ha b hb => ?_⟩
    have eb : b = k := by simpa using hb
    subst eb
    intro e
    subst e
    exact q (lk_isSome.mpr ha)
theorem mem_keys_pt {m : List (α × β)} {k j : α} {v : β} (h : j ∈ (pt m k v).map (·.1)) : j = k ∨ j ∈ m.map (·.1) := by
  rw [keys_pt] at h
  split at h
  · exact .inr h
  · rcases List.mem_append.mp h with h | h
    · exact .inr h
    · exact .inl (by simpa using h)
theorem length_pt (m : List (α × β)) (k : α) (v : β) : (pt m k v).length ≤ m.length + 1 := by
  unfold pt
  split
  · rw [List.length_map]
    omega
  · rw [List.length_append, List.length_cons, List.length_nil]
    omega
end

section
variable {α : Type} [DecidableEq α]
/-- how many takers a giver holds -/
def cnt (m : List (α × α)) (x : α) : Nat := m.countP fun p => decide (p.2 = x)
theorem cnt_pt_new {m : List (α × α)} {t g : α} (h : lk m t = none) (x : α) : cnt (pt m t g) x = cnt m x + (if g = x then 1 else 0) := by
  unfold cnt
  rw [pt_new g h, List.countP_append, List.countP_cons, List.countP_nil]
  by_cases e : g = x <;> simp [e]
theorem cnt_map {t g g0 : α} : ∀ {m : List (α × α)}, (m.map (·.1)).Nodup → lk m t = some g0 → ∀ x, cnt (m.map fun p => if p.1 = t then (p.1, g) else p) x + (if g0 = x then 1 else 0) = cnt m x + (if g = x then 1 else 0)
  | [], _, h, _ => by cases h
  | p :: r, hn, h, x => by
    rw [List.map_cons, List.nodup_cons] at hn
    unfold cnt
    rw [List.map_cons, List.countP_cons, List.countP_cons]
    by_cases e : p.1 = t
    · rw [lk_pos e] at h
      cases h
      have er : r.map (fun p => if p.1 = t then (p.1, g) else p) = r := by
        have : r.map (fun p => if p.1 = t then (p.1, g) else p) = r.map id := List.map_congr_left fun q hq => by
          have : ¬ q.1 = t := fun z => hn.1 (by rw [e, ← z]; exact List.mem_map.mpr ⟨q, hq, rfl⟩)
          rw [if_neg this]
          rfl
        rw [this, List.map_id]
      rw [er, if_pos e]
      by_cases h1 : p.2 = x <;> by_cases h2 : g = x <;> simp [h1, h2] <;> omega
    · rw [lk_neg e] at h
      have ih := cnt_map (g := g) hn.2 h x
      unfold cnt at ih
      rw [if_neg e]
      omega
theorem cnt_pt_old {m : List (α × α)} {t g g0 : α} (hn : (m.map (·.1)).Nodup) (h : lk m t = some g0) (x : α) : cnt (pt m t g) x + (if g0 = x then 1 else 0) = cnt m x + (if g = x then 1 else 0) := by
  have e : pt m t g = m.map fun p => if p.1 = t then (p.1, g) else p := by
    unfold pt
    rw [lk_any, h]
    exact if_pos rfl
  rw [e]
  exact cnt_map hn h x
theorem cnt_pos {m : List (α × α)} {t x : α} (h : lk m t = some x) : 0 < cnt m x := List.countP_pos_iff.mpr ⟨_, lk_mem h, decide_eq_true rfl⟩
theorem cnt_two {m : List (α × α)} {t u x : α} (h : lk m t = some x) (h' : lk m u = some x) (hne : t ≠ u) : 2 ≤ cnt m x := by
  induction m with
  | nil => cases h
  | cons p r ih =>
    unfold cnt
    rw [List.countP_cons]
    by_cases e : p.1 = t
    · have e' : ¬ p.1 = u := fun z => hne (e.symm.trans z)
      rw [lk_pos e] at h
      cases h
      rw [lk_neg e'] at h'
      have := cnt_pos h'
      unfold cnt at this
      rw [if_pos (decide_eq_true rfl)]
      omega
    · rw [lk_neg e] at h
      by_cases e' : p.1 = u
      · rw [lk_pos e'] at h'
        cases h'
        have := cnt_pos h
        unfold cnt at this
        rw [if_pos (decide_eq_true rfl)]
        omega
      · rw [lk_neg e'] at h'
        have := ih h h'
        unfold cnt at this
        omega
theorem cnt_one_inj {m : List (α × α)} {t u x : α} (h : lk m t = some x) (h' : lk m u = some x) (hc : cnt m x ≤ 1) : t = u := by
  apply Classical.byContradiction
  intro hne
  have := cnt_two h h' hne
  omega
/-- takers held, each by somebody who may have it -/
structure Held (ps : List α) (R : α → List α) (m : List (α × α)) : Prop where
  nd : (m.map (·.1)).Nodup
  ok : ∀ t g, lk m t = some g → g ∈ ps ∧ t ∈ R g
/-- a search that succeeded -/
structure Won (ps : List α) (R : α → List α) (g : α) (seen : List α) (m m' : List (α × α)) : Prop where
  held : Held ps R m'
  cn : ∀ x, cnt m' x = cnt m x + (if g = x then 1 else 0)
  same : ∀ t ∈ seen, lk m' t = lk m t
/-- closed: whoever holds a taker that is seen now, and was not before, sees no others -/
structure Shut (R : α → List α) (m : List (α × α)) (seen seen' : List α) : Prop where
  le : ∀ t ∈ seen, t ∈ seen'
  cl : ∀ t ∈ seen', t ∉ seen → ∃ g, lk m t = some g ∧ ∀ u ∈ R g, u ∈ seen'
theorem Shut.refl {R : α → List α} {m : List (α × α)} {seen : List α} : Shut R m seen seen := ⟨fun _ h => h, fun t h h' => absurd h h'⟩
/-- behind a vain search from the holder of a new taker -/
theorem Shut.step {R : α → List α} {m : List (α × α)} {s0 s1 s2 : List α} {t g : α} (h : Shut R m s0 s1) (ht : lk m t = some g) (h2 : Shut R m (s1 ++ [t]) s2) (hr : ∀ u ∈ R g, u ∈ s2) : Shut R m s0 s2 where
  le := fun u hu => h2.le u (List.mem_append_left _ (h.le u hu))
  cl := fun u hu hn => by
    by_cases h1 : u ∈ s1
    · obtain ⟨x, e, q⟩ := h.cl u h1 hn
      exact ⟨x, e, fun v hv => h2.le v (List.mem_append_left _ (q v hv))⟩
    · by_cases e : u = t
      · subst e
        exact ⟨g, ht, hr⟩
      · exact h2.cl u hu fun z => by
          rcases List.mem_append.mp z with z | z
          · exact h1 z
          · exact e (by simpa using z)
/-- a free taker is taken -/
theorem Won.free {ps : List α} {R : α → List α} {g t : α} {seen : List α} {m : List (α × α)} (H : Held ps R m) (hg : g ∈ ps) (ht : t ∈ R g) (hf : lk m t = none) (hs : t ∉ seen) : Won ps R g seen m (pt m t g) where
  held := ⟨nodup_pt _ _ H.nd, fun u x e => by
    rw [lk_pt] at e
    split at e
    · rename_i q
      cases e
      rw [q]
      exact ⟨hg, ht⟩
    · exact H.ok u x e⟩
  cn := cnt_pt_new hf
  same := fun u hu => by
    rw [lk_pt, if_neg]
    rintro rfl
    exact hs hu
/-- a taker whose holder has found another one -/
theorem Won.move {ps : List α} {R : α → List α} {g g0 t : α} {seen s1 : List α} {m m1 : List (α × α)} (hg : g ∈ ps) (ht : t ∈ R g) (h0 : lk m t = some g0) (hle : ∀ u ∈ seen, u ∈ s1) (hs : t ∉ s1) (W : Won ps R g0 (s1 ++ [t]) m m1) : Won ps R g seen m (pt m1 t g) where
  held := ⟨nodup_pt _ _ W.held.nd, fun u x e => by
    rw [lk_pt] at e
    split at e
    · rename_i q
      cases e
      rw [q]
      exact ⟨hg, ht⟩
    · exact W.held.ok u x e⟩
  cn := fun x => by
    have e1 : lk m1 t = some g0 := (W.same t (List.mem_append_right _ (by simp))).trans h0
    have e2 := cnt_pt_old (g := g) W.held.nd e1 x
    have e3 := W.cn x
    omega
  same := fun u hu => by
    have h1 := hle u hu
    rw [lk_pt, if_neg, W.same u (List.mem_append_left _ h1)]
    rintro rfl
    exact hs h1
/-- in regular rows a search never fails -/
theorem no_shut {ps : List α} {R : α → List α} {k : Nat} {m : List (α × α)} {g : α} {s : List α} (I : Inst ps R) (hk : 0 < k) (hr : ∀ x ∈ ps, (R x).length = k) (hl : ∀ t ∈ ps, load ps R t ≤ k)
    (H : Held ps R m) (hg : g ∈ ps) (hc : cnt m g = 0) (h1 : ∀ x, cnt m x ≤ 1) (hs : s.Nodup) (hsp : ∀ t ∈ s, t ∈ ps) (S : Shut R m [] s) (hR : ∀ u ∈ R g, u ∈ s) : False := by
  have hold : ∀ t ∈ s, ∃ x, lk m t = some x ∧ ∀ u ∈ R x, u ∈ s := fun t ht => S.cl t ht (by simp)
  let f : α → α := fun t => (lk m t).getD g
  have hf : ∀ t ∈ s, lk m t = some (f t) := fun t ht => by
    obtain ⟨x, e, _⟩ := hold t ht
    show lk m t = some ((lk m t).getD g)
    rw [e]
    rfl
  have hnd : (g :: s.map f).Nodup := by
    rw [List.nodup_cons]
    refine ⟨fun h => ?_, ?_⟩
    · obtain ⟨t, ht, e⟩ := List.mem_map.mp h
      have := cnt_pos (hf t ht)
      rw [e] at this
      omega
    · rw [List.nodup_iff_pairwise_ne, List.pairwise_map]
      refine List.Pairwise.imp_of_mem ?_ (List.nodup_iff_pairwise_ne.mp hs)
      intro a b ha hb hne e
      have hb' := hf b hb
      rw [← e] at hb'
      exact hne (cnt_one_inj (hf a ha) hb' (h1 _))
  have hin : ∀ x ∈ g :: s.map f, x ∈ ps ∧ ∀ u ∈ R x, u ∈ s := fun x hx => by
    rcases List.mem_cons.mp hx with e | e
    · subst e
      exact ⟨hg, hR⟩
    · obtain ⟨t, ht, e⟩ := List.mem_map.mp e
      subst e
      refine ⟨(H.ok t _ (hf t ht)).1, ?_⟩
      obtain ⟨x, e1, q⟩ := hold t ht
      rw [hf t ht] at e1
      cases e1
      exact q
  have e1 : ((g :: s.map f).map fun x => (R x).length).sum = k * (s.length + 1) := by
    have : ((g :: s.map f).map fun x => (R x).length).sum = ((g :: s.map f).map fun _ => k).sum := sum_congr fun x hx => hr x (hin x hx).1
    rw [this, sum_const, List.length_cons, List.length_map]
  have e2 : ((g :: s.map f).map fun x => (R x).length).sum ≤ ((g :: s.map f).map fun x => s.countP fun t => decide (t ∈ R x)).sum := by
    refine sum_le fun x hx => ?_
    rw [← countP_in (I.rnd x (hin x hx).1) hs, List.countP_eq_length.mpr fun t ht => decide_eq_true ((hin x hx).2 t ht)]
    exact Nat.le_refl _
  have e3 : ((g :: s.map f).map fun x => s.countP fun t => decide (t ∈ R x)).sum ≤ k * s.length := by
    rw [dbl, ← sum_const s k]
    refine sum_le fun t ht => Nat.le_trans ?_ (hl t (hsp t ht))
    exact countP_le_nodup hnd fun x hx hp => ⟨(hin x hx).1, hp⟩
  rw [e1, Nat.mul_add] at e2
  omega
end
end Gift
set_option linter.all false
/-! The search for a way to a taker with room; pushing along it; taking a full choice apart. -/
namespace Gift
section
variable {α : Type} [DecidableEq α]
def fup {β : Type} (C : α → β) (g : α) (L : β) : α → β := fun x => if x = g then L else C x
theorem fup_same {β : Type} {C : α → β} {g : α} {L : β} : fup C g L g = L := if_pos rfl
theorem fup_ne {β : Type} {C : α → β} {g x : α} {L : β} (h : x ≠ g) : fup C g L x = C x := if_neg h
theorem countP_upd {g : α} {p q : α → Bool} : ∀ {ps : List α}, ps.Nodup → g ∈ ps → (∀ x ∈ ps, x ≠ g → p x = q x) → ps.countP p + (if q g = true then 1 else 0) = ps.countP q + (if p g = true then 1 else 0)
  | [], _, h, _ => by cases h
  | a :: r, hn, h, hp => by
    rw [List.nodup_cons] at hn
    rw [List.countP_cons, List.countP_cons]
    by_cases e : a = g
    · subst e
      have er : r.countP p = r.countP q := List.countP_congr fun x hx => by
        rw [hp x (List.mem_cons_of_mem _ hx) fun z => hn.1 (by rw [← z]; exact hx)]
      omega
    · have hg : g ∈ r := (List.mem_cons.mp h).resolve_left fun z => e z.symm
      have ih := countP_upd hn.2 hg fun x hx => hp x (List.mem_cons_of_mem _ hx)
      rw [hp a List.mem_cons_self e]
      omega
theorem load_fup {ps : List α} {C : α → List α} {g : α} {L : List α} (hn : ps.Nodup) (hg : g ∈ ps) (t : α) : load ps (fup C g L) t + (if t ∈ C g then 1 else 0) = load ps C t + (if t ∈ L then 1 else 0) := by
  have := countP_upd (p := fun x => decide (t ∈ fup C g L x)) (q := fun x => decide (t ∈ C x)) hn hg fun x _ hx => by
    show decide (t ∈ fup C g L x) = _
    rw [fup_ne hx]
  unfold load
  simp only [decide_eq_true_eq, fup_same] at this
  exact this

/-- a way from start to the taker t0: came tells who asks for a taker, freed what a giver would give up -/
structure Way (ps : List α) (R C : α → List α) (start : α) (came : List (α × α)) (freed : List (α × Option α)) (t0 : α) : Prop where
  rk : ∃ rk : α → Nat, ∀ g t, lk freed g = some (some t) → t ∈ C g ∧ ∃ g', lk came t = some g' ∧ rk g' < rk g
  co : ∀ t g, lk came t = some g → t ∈ R g ∧ t ∉ C g ∧ g ∈ ps ∧ (lk freed g).isSome = true
  fs : ∀ g, lk freed g = some none → g = start
  t0 : (lk came t0).isSome = true
/-- while one pushes: what is chosen now (C) and was (C0) -/
structure Push (ps : List α) (R C0 : α → List α) (start t0 : α) (came : List (α × α)) (rk : α → Nat) (C : α → List α) (here : Option α) : Prop where
  nd : ∀ g ∈ ps, (C g).Nodup
  sub : ∀ g ∈ ps, ∀ t ∈ C g, t ∈ R g
  ld : ∀ t, load ps C t + (if here = some t then 1 else 0) = load ps C0 t + (if t = t0 then 1 else 0)
  go : ∀ t, here = some t → ∃ g, lk came t = some g ∧ (∀ x, rk x ≤ rk g → C x = C0 x)
  len : here.isSome = true → ∀ g, (C g).length = (C0 g).length
  fin : here = none → (C start).length = (C0 start).length + 1 ∧ ∀ g, g ≠ start → (C g).length = (C0 g).length
theorem Push.start {ps : List α} {R C : α → List α} {start t0 : α} {came : List (α × α)} {freed : List (α × Option α)} {rk : α → Nat} {y : Nat} (c : Choice ps R y C) (w : Way ps R C start came freed t0) : Push ps R C start t0 came rk C (some t0) where
  nd := c.nd
  sub := c.sub
  ld := fun t => by
    by_cases e : t = t0
    · subst e
      rw [if_pos rfl, if_pos rfl]
    · rw [if_neg e, if_neg fun z => e (Option.some.inj z).symm]
  go := fun t e => by
    cases e
    obtain ⟨g, hg⟩ := Option.isSome_iff_exists.mp w.t0
    exact ⟨g, hg, fun _ _ => rfl⟩
  len := fun _ _ => rfl
  fin := fun e => nomatch e
theorem Push.next {ps : List α} {R C0 C : α → List α} {start t0 t g t' : α} {came : List (α × α)} {freed : List (α × Option α)} {rk : α → Nat} (hn : ps.Nodup) (w : Way ps R C0 start came freed t0)
    (hrk : ∀ g t, lk freed g = some (some t) → t ∈ C0 g ∧ ∃ g', lk came t = some g' ∧ rk g' < rk g) (p : Push ps R C0 start t0 came rk C (some t)) (hg : lk came t = some g) (hf : lk freed g = some (some t')) :
    t' ∈ C g ++ [t] ∧ Push ps R C0 start t0 came rk (fup C g ((C g ++ [t]).erase t')) (some t') := by
  obtain ⟨h1, h2, hgp, _⟩ := w.co t g hg
  obtain ⟨h3, g', hg', hlt⟩ := hrk g t' hf
  obtain ⟨g2, e2, same⟩ := p.go t rfl
  rw [hg] at e2
  cases e2
  have eC : C g = C0 g := same g (Nat.le_refl _)
  have ht : t ∉ C g := by rw [eC]; exact h2
  have ht' : t' ∈ C g := by rw [eC]; exact h3
  have hne : t' ≠ t := fun e => ht (e ▸ ht')
  have hnd : (C g ++ [t]).Nodup := by
    rw [List.nodup_append]
    refine ⟨p.nd g hgp, by simp, fun a ha b hb => ?_⟩
    have eb : b = t := by simpa using hb
    subst eb
    intro e
    subst e
    exact ht ha
  have hm : t' ∈ C g ++ [t] := List.mem_append_left _ ht'
  refine ⟨hm, ⟨fun x hx => ?_, fun x hx u hu => ?_, fun u => ?_, fun u e => ?_, fun _ x => ?_, fun e => (nomatch e)⟩⟩
  · by_cases e : x = g
    · subst e
      rw [fup_same]
      exact hnd.erase _
    · rw [fup_ne e]
      exact p.nd x hx
  · by_cases e : x = g
    · subst e
      rw [fup_same] at hu
      rcases List.mem_append.mp (List.mem_of_mem_erase hu) with z | z
      · exact p.sub x hx u z
      · have : u = t := by simpa using z
        subst this
        exact h1
    · rw [fup_ne e] at hu
      exact p.sub x hx u hu
  · have a1 := load_fup (C := C) (L := (C g ++ [t]).erase t') hn hgp u
    have a2 := p.ld u
    have a3 : (u ∈ (C g ++ [t]).erase t') ↔ (u ≠ t' ∧ (u ∈ C g ∨ u = t)) := by
      rw [hnd.mem_erase_iff, List.mem_append]
      simp
    by_cases e1 : u = t
    · subst e1
      rw [if_neg ht, if_pos (a3.mpr ⟨fun z => hne z.symm, .inr rfl⟩)] at a1
      rw [if_pos rfl] at a2
      rw [if_neg fun z => hne (Option.some.inj z)]
      omega
    · by_cases e2 : u = t'
      · subst e2
        rw [if_pos ht', if_neg fun z => (a3.mp z).1 rfl] at a1
        rw [if_neg fun z => e1 (Option.some.inj z).symm] at a2
        rw [if_pos rfl]
        omega
      · rw [if_neg fun z => e1 (Option.some.inj z).symm] at a2
        rw [if_neg fun z => e2 (Option.some.inj z).symm]
        by_cases e3 : u ∈ C g
        · rw [if_pos e3, if_pos (a3.mpr ⟨e2, .inl e3⟩)] at a1
          omega
        · rw [if_neg e3, if_neg fun z => (a3.mp z).2.elim e3 e1] at a1
          omega
  · cases e
    refine ⟨g', hg', fun x hx => ?_⟩
    have hxg : x ≠ g := fun z => by
      subst z
      omega
    rw [fup_ne hxg]
    exact same x (by omega)
  · by_cases e : x = g
    · subst e
      rw [fup_same, List.length_erase_of_mem hm, List.length_append, ← p.len rfl x]
      simp
    · rw [fup_ne e]
      exact p.len rfl x
theorem Push.last {ps : List α} {R C0 C : α → List α} {start t0 t g : α} {came : List (α × α)} {freed : List (α × Option α)} {rk : α → Nat} (hn : ps.Nodup) (w : Way ps R C0 start came freed t0)
    (p : Push ps R C0 start t0 came rk C (some t)) (hg : lk came t = some g) (hf : lk freed g = some none) : Push ps R C0 start t0 came rk (fup C g (C g ++ [t])) none := by
  obtain ⟨h1, h2, hgp, _⟩ := w.co t g hg
  obtain ⟨g2, e2, same⟩ := p.go t rfl
  rw [hg] at e2
  cases e2
  have eg := w.fs g hf
  have eC : C g = C0 g := same g (Nat.le_refl _)
  have ht : t ∉ C g := by rw [eC]; exact h2
  have hnd : (C g ++ [t]).Nodup := by
    rw [List.nodup_append]
    refine ⟨p.nd g hgp, by simp, fun a ha b hb => ?_⟩
    have eb : b = t := by simpa using hb
    subst eb
    intro e
    subst e
    exact ht ha
  refine ⟨fun x hx => ?_, fun x hx u hu => ?_, fun u => ?_, fun u e => (nomatch e), fun e => (nomatch e), fun _ => ⟨?_, fun x hx => ?_⟩⟩
  · by_cases e : x = g
    · rw [e, fup_same]
      exact hnd
    · rw [fup_ne e]
      exact p.nd x hx
  · by_cases e : x = g
    · rw [e, fup_same] at hu
      rw [e]
      rcases List.mem_append.mp hu with z | z
      · exact p.sub g hgp u z
      · have : u = t := by simpa using z
        subst this
        exact h1
    · rw [fup_ne e] at hu
      exact p.sub x hx u hu
  · have a1 := load_fup (C := C) (L := C g ++ [t]) hn hgp u
    have a2 := p.ld u
    have a3 : (u ∈ C g ++ [t]) ↔ (u ∈ C g ∨ u = t) := by
      rw [List.mem_append]
      simp
    rw [if_neg fun z => nomatch z]
    by_cases e1 : u = t
    · subst e1
      rw [if_neg ht, if_pos (a3.mpr (.inr rfl))] at a1
      rw [if_pos rfl] at a2
      omega
    · rw [if_neg fun z => e1 (Option.some.inj z).symm] at a2
      by_cases e3 : u ∈ C g
      · rw [if_pos e3, if_pos (a3.mpr (.inl e3))] at a1
        omega
      · rw [if_neg e3, if_neg fun z => (a3.mp z).elim e3 e1] at a1
        omega
  · rw [← eg, fup_same, List.length_append, eC]
    rfl
  · rw [fup_ne (by rw [eg]; exact hx)]
    exact p.len rfl x
/-- what a finished push has made of a choice -/
theorem Push.choice {ps : List α} {R C0 C : α → List α} {start t0 : α} {came : List (α × α)} {rk : α → Nat} {y : Nat} (c : Choice ps R y C0) (p : Push ps R C0 start t0 came rk C none) (hs : (C0 start).length < y) (ht : load ps C0 t0 < y) : Choice ps R y C where
  nd := p.nd
  sub := p.sub
  len := fun g hg => by
    by_cases e : g = start
    · subst e
      rw [(p.fin rfl).1]
      omega
    · rw [(p.fin rfl).2 g e]
      exact c.len g hg
  ld := fun t h => by
    have := p.ld t
    rw [if_neg fun z => nomatch z] at this
    have := c.ld t h
    by_cases e : t = t0
    · subst e
      rw [if_pos rfl] at *
      omega
    · rw [if_neg e] at *
      omega

/-! ### the search -/
/-- the givers found so far -/
abbrev found (freed : List (α × Option α)) : List α := freed.map (·.1)
/-- n givers are done; pend: a taker that came, but whose owners are not all found yet -/
structure Bfs (ps : List α) (R C : α → List α) (y : Nat) (start : α) (n : Nat) (came : List (α × α)) (freed : List (α × Option α)) (pend : Option α) : Prop where
  fnd : (found freed).Nodup
  fsub : ∀ g ∈ found freed, g ∈ ps
  f0 : start ∈ found freed
  cnd : (came.map (·.1)).Nodup
  co : ∀ t g, lk came t = some g → t ∈ R g ∧ t ∉ C g ∧ ∃ i : Nat, i ≤ n ∧ (found freed)[i]? = some g
  fo : ∀ g t, lk freed g = some (some t) → t ∈ C g ∧ ∃ (g' : α) (i j : Nat), lk came t = some g' ∧ (found freed)[i]? = some g' ∧ (found freed)[j]? = some g ∧ i < j
  fs : ∀ g, lk freed g = some none → g = start
  full : ∀ t, t ∈ came.map (·.1) → pend ≠ some t → y ≤ load ps C t ∧ ∀ g ∈ ps, t ∈ C g → g ∈ found freed
  done : ∀ (i : Nat) (g : α), i < n → (found freed)[i]? = some g → ∀ t ∈ R g, t ∉ C g → t ∈ came.map (·.1)
section
variable {ps : List α} {R C : α → List α} {y n : Nat} {start g t : α} {came : List (α × α)} {freed : List (α × Option α)} {pend : Option α}
theorem Bfs.begin (hs : start ∈ ps) : Bfs ps R C y start 0 [] [(start, none)] none where
  fnd := by simp
  fsub := fun g hg => by
    have : g = start := by simpa using hg
    rw [this]
    exact hs
  f0 := by simp
  cnd := by simp
  co := fun t g h => by cases h
  fo := fun g t h => by
    by_cases e : start = g
    · rw [lk_pos (p := (start, (none : Option α))) e] at h
      cases h
    · rw [lk_neg (p := (start, (none : Option α))) e] at h
      cases h
  fs := fun g h => by
    by_cases e : start = g
    · exact e.symm
    · rw [lk_neg (p := (start, (none : Option α))) e] at h
      cases h
  full := fun t h => by simp at h
  done := fun i g h => absurd h (Nat.not_lt_zero _)
/-- a new taker is seen -/
theorem Bfs.see (b : Bfs ps R C y start n came freed none) (hg : (found freed)[n]? = some g) (ht : t ∈ R g) (hc : t ∉ C g) (hn : lk came t = none) : Bfs ps R C y start n (pt came t g) freed (some t) where
  fnd := b.fnd
  fsub := b.fsub
  f0 := b.f0
  cnd := nodup_pt _ _ b.cnd
  co := fun u x e => by
    rw [lk_pt] at e
    split at e
    · rename_i q
      cases e
      rw [q]
      exact ⟨ht, hc, n, Nat.le_refl _, hg⟩
    · exact b.co u x e
  fo := fun x u e => by
    obtain ⟨h1, g', i, j, h2, h3⟩ := b.fo x u e
    refine ⟨h1, g', i, j, ?_, h3⟩
    rw [lk_pt, if_neg]
    · exact h2
    · rintro rfl
      rw [hn] at h2
      cases h2
  fs := b.fs
  full := fun u hu hp => by
    rcases mem_keys_pt hu with e | e
    · exact absurd (by rw [e]) hp
    · exact b.full u e fun z => nomatch z
  done := fun i x hi hx u hu hc => by
    have h1 := b.done i x hi hx u hu hc
    rw [← lk_isSome, lk_pt]
    split
    · rfl
    · exact lk_isSome.mpr h1
/-- an owner of the pending taker is found -/
theorem Bfs.find (b : Bfs ps R C y start n came freed (some t)) (hp : lk came t = some g) (hgn : (found freed)[n]? = some g) {o : α} (ho : o ∈ ps) (hto : t ∈ C o) (hn : o ∉ found freed) : Bfs ps R C y start n came (freed ++ [(o, some t)]) (some t) := by
  have hno : lk freed o = none := lk_none.mpr hn
  have ef : found (freed ++ [(o, some t)]) = found freed ++ [o] := by
    unfold found
    rw [List.map_append]
    rfl
  have at_ : ∀ {i : Nat} {x : α}, (found freed)[i]? = some x → (found (freed ++ [(o, some t)]))[i]? = some x := fun {i x} h => by
    rw [ef, List.getElem?_append_left (List.getElem?_eq_some_iff.mp h).1]
    exact h
  have hnl : n < (found freed).length := (List.getElem?_eq_some_iff.mp hgn).1
  refine ⟨?_, fun x hx => ?_, ?_, b.cnd, fun u x e => ?_, fun x u e => ?_, fun x e => ?_, fun u hu hne => ?_, fun i x hi hx => ?_⟩
  · rw [ef, List.nodup_append]
    refine ⟨b.fnd, by simp, fun a ha c hc => ?_⟩
    have ec : c = o := by simpa using hc
    subst ec
    intro e
    subst e
    exact hn ha
  · rw [ef] at hx
    rcases List.mem_append.mp hx with z | z
    · exact b.fsub x z
    · have : x = o := by simpa using z
      rw [this]
      exact ho
  · rw [ef]
    exact List.mem_append_left _ b.f0
  · obtain ⟨h1, h2, i, h3, h4⟩ := b.co u x e
    exact ⟨h1, h2, i, h3, at_ h4⟩
  · rw [lk_snoc _ _ _ _ hno] at e
    split at e
    · rename_i q
      cases e
      subst q
      refine ⟨hto, g, n, (found freed).length, hp, at_ hgn, ?_, hnl⟩
      rw [ef, List.getElem?_append_right (Nat.le_refl _)]
      simp
    · obtain ⟨h1, g', i, j, h2, h3, h4, h5⟩ := b.fo x u e
      exact ⟨h1, g', i, j, h2, at_ h3, at_ h4, h5⟩
  · rw [lk_snoc _ _ _ _ hno] at e
    split at e
    · cases e
    · exact b.fs x e
  · obtain ⟨h1, h2⟩ := b.full u hu hne
    refine ⟨h1, fun x hx hux => ?_⟩
    rw [ef]
    exact List.mem_append_left _ (h2 x hx hux)
  · have hl : i < (found freed).length := by omega
    rw [ef, List.getElem?_append_left hl] at hx
    exact b.done i x hi hx
/-- all owners are found -/
theorem Bfs.shut (b : Bfs ps R C y start n came freed (some t)) (hl : y ≤ load ps C t) (ho : ∀ g ∈ ps, t ∈ C g → g ∈ found freed) : Bfs ps R C y start n came freed none where
  fnd := b.fnd
  fsub := b.fsub
  f0 := b.f0
  cnd := b.cnd
  co := b.co
  fo := b.fo
  fs := b.fs
  full := fun u hu _ => by
    by_cases e : t = u
    · subst e
      exact ⟨hl, ho⟩
    · exact b.full u hu fun z => e (Option.some.inj z)
  done := b.done
/-- the giver's takers are all seen -/
theorem Bfs.turn (b : Bfs ps R C y start n came freed none) (hg : (found freed)[n]? = some g) (h : ∀ t ∈ R g, t ∉ C g → t ∈ came.map (·.1)) : Bfs ps R C y start (n + 1) came freed none where
  fnd := b.fnd
  fsub := b.fsub
  f0 := b.f0
  cnd := b.cnd
  co := fun u x e => by
    obtain ⟨h1, h2, i, h3, h4⟩ := b.co u x e
    exact ⟨h1, h2, i, by omega, h4⟩
  fo := b.fo
  fs := b.fs
  full := b.full
  done := fun i x hi hx => by
    by_cases e : i = n
    · subst e
      rw [hg] at hx
      cases hx
      exact h
    · exact b.done i x (by omega) hx
theorem Bfs.way (b : Bfs ps R C y start n came freed (some t)) (h : (lk came t).isSome = true) : Way ps R C start came freed t where
  rk := by
    refine ⟨fun g => (found freed).idxOf g, fun g u e => ?_⟩
    obtain ⟨h1, g', i, j, h2, h3, h4, h5⟩ := b.fo g u e
    refine ⟨h1, g', h2, ?_⟩
    have ix : ∀ {k : Nat} {x : α}, (found freed)[k]? = some x → (found freed).idxOf x = k := fun {k x} hk => by
      obtain ⟨hl, hx⟩ := List.getElem?_eq_some_iff.mp hk
      subst hx
      exact List.Nodup.idxOf_getElem b.fnd k hl
    show (found freed).idxOf g' < (found freed).idxOf g
    rw [ix h3, ix h4]
    exact h5
  co := fun u x e => by
    obtain ⟨h1, h2, i, h3, h4⟩ := b.co u x e
    have hm : x ∈ found freed := List.mem_of_getElem? h4
    exact ⟨h1, h2, b.fsub x hm, lk_isSome.mpr hm⟩
  fs := b.fs
  t0 := h
/-- where nothing is left to be asked there is a bar -/
theorem Bfs.bar (b : Bfs ps R C y start n came freed none) (I : Inst ps R) (c : Choice ps R y C) (hlt : (C start).length < y) (hn : (found freed).length ≤ n) {S T : List α} (hS : S.Nodup) (eS : ∀ g, g ∈ S ↔ g ∈ found freed)
    (hT : T.Nodup) (eT : ∀ t, t ∈ T ↔ (t ∈ ps ∧ lk came t = none)) : Bar ps R y S T := by
  refine bar_of_stuck I c (S := found freed) (T := came.map (·.1)) b.fnd b.fsub b.cnd (fun t ht => ?_) b.f0 hlt (fun g hg t ht hc => ?_) (fun t ht => (b.full t ht fun z => nomatch z).1) (fun t ht g hg hc => (b.full t ht fun z => nomatch z).2 g hg hc) hS eS hT fun t => ?_
  · obtain ⟨g, e⟩ := Option.isSome_iff_exists.mp (lk_isSome.mpr ht)
    obtain ⟨h1, _, i, _, h4⟩ := b.co t g e
    exact I.sub g (b.fsub g (List.mem_of_getElem? h4)) t h1
  · obtain ⟨i, hi⟩ := List.mem_iff_getElem?.mp hg
    have hl := (List.getElem?_eq_some_iff.mp hi).1
    exact b.done i g (by omega) hi t ht hc
  · rw [eT, lk_none]
theorem Bfs.found_le (b : Bfs ps R C y start n came freed pend) : (found freed).length ≤ ps.length := nodup_le b.fnd b.fsub
end
/-! ### taking apart -/
/-- k takers for each giver, at most k givers for each taker -/
structure Reg (ps : List α) (k : Nat) (R : α → List α) : Prop extends Inst ps R where
  len : ∀ g ∈ ps, (R g).length = k
  ld : ∀ t ∈ ps, load ps R t ≤ k
theorem Full.reg {ps : List α} {R C : α → List α} {y : Nat} (I : Inst ps R) (f : Full ps R y C) {C' : α → List α} (hp : ∀ g ∈ ps, (C' g).Perm (C g)) : Reg ps y C' where
  nd := I.nd
  rnd := fun g hg => (hp g hg).nodup_iff.mpr (f.nd g hg)
  sub := fun g hg t ht => I.sub g hg t (f.sub g hg t ((hp g hg).mem_iff.mp ht))
  len := fun g hg => (hp g hg).length_eq.trans (f.full g hg)
  ld := fun t ht => by
    refine Nat.le_trans (Nat.le_of_eq ?_) (f.ld t ht)
    exact List.countP_congr fun g hg => by simp [(hp g hg).mem_iff]
/-- a drawing: each giver another taker, of those that the giver may have -/
structure Draw (ps : List α) (R : α → List α) (d : α → α) : Prop where
  may : ∀ g ∈ ps, d g ∈ R g
  inj : ∀ g ∈ ps, ∀ h ∈ ps, d g = d h → g = h
def without (R : α → List α) (d : α → α) : α → List α := fun g => (R g).filter fun t => !decide (t = d g)
theorem Reg.without {ps : List α} {k : Nat} {R : α → List α} {d : α → α} (r : Reg ps (k + 1) R) (w : Draw ps R d) : Reg ps k (without R d) where
  nd := r.nd
  rnd := fun g hg => (r.rnd g hg).sublist List.filter_sublist
  sub := fun g hg t ht => r.sub g hg t (List.mem_filter.mp ht).1
  len := fun g hg => by
    have h1 := length_split (R g) fun t => !decide (t = d g)
    have h2 : (R g).countP (fun t => !(!decide (t = d g))) = 1 := by
      have : (R g).countP (fun t => !(!decide (t = d g))) = (R g).count (d g) := by
        unfold List.count
        exact List.countP_congr fun t _ => by simp
      rw [this]
      have h3 := List.nodup_iff_count.mp (r.rnd g hg) (d g)
      have h4 := List.count_pos_iff.mpr (w.may g hg)
      omega
    rw [r.len g hg, h2, List.countP_eq_length_filter] at h1
    show ((R g).filter fun t => !decide (t = d g)).length = k
    omega
  ld := fun t ht => by
    obtain ⟨g, hg, e⟩ := onto_of_inj r.nd (fun g hg => r.sub g hg _ (w.may g hg)) w.inj t ht
    have h1 := r.ld t ht
    have h2 : load ps (Gift.without R d) t + 1 ≤ load ps R t := by
      have h3 := countP_upd (p := fun x => decide (t ∈ Gift.without R d x)) (q := fun x => decide (t ∈ R x)) r.nd hg fun x hx hne => by
        have : (t ∈ Gift.without R d x) ↔ t ∈ R x := by
          constructor
          · intro z
            exact (List.mem_filter.mp z).1
          · intro z
            refine List.mem_filter.mpr ⟨z, ?_⟩
            have : ¬ t = d x := fun q => hne (w.inj x hx g hg (q.symm.trans e.symm))
            simpa using this
        simp [this]
      have h4 : t ∈ R g := by
        rw [← e]
        exact w.may g hg
      have h5 : ¬ t ∈ Gift.without R d g := fun z => by
        have := (List.mem_filter.mp z).2
        simp [e] at this
      simp only [decide_eq_true_eq, if_pos h4, if_neg h5] at h3
      unfold load
      omega
    omega
/-- a plan: drawings of which no two have a common pair -/
structure Plan (ps : List α) (R : α → List α) (ds : List (α → α)) : Prop where
  all : ∀ d ∈ ds, Draw ps R d
  apart : ds.Pairwise fun d e => ∀ g ∈ ps, d g ≠ e g
/-- a full holding is a drawing -/
theorem draw_of {ps : List α} {R : α → List α} {m : List (α × α)} {d : α → α} (H : Held ps R m) (hd : ∀ g ∈ ps, lk m (d g) = some g) : Draw ps R d where
  may := fun g hg => (H.ok _ _ (hd g hg)).2
  inj := fun g hg h hh e => by
    have h1 := hd g hg
    rw [e, hd h hh] at h1
    exact (Option.some.inj h1).symm
end
end Gift
set_option Elab.async false
set_option linter.all false
set_option maxRecDepth 100000
/-! The program's text by places; what a caller knows of a def; readings made simpler. -/
namespace K56
open PySem PySem.Spec PyProof.Rows L2
/-! ### the text by places -/
def top (i : Nat) : Stmt := PySem.Challenge.pw_giftrings_k56_whole_plan_or_bar.main.body.getD i (.Pass ⟨0, 0, 0, 0⟩)
def pm (j : Nat) : Stmt := inClass (top 22) j
/-! ### defs -/
/-- the def st stands behind the name x -/
def Def (K : PySem.W.Frag) (mg : Str → Option Value) (x : Str) (st : Stmt) : Prop := ∃ f fd, FunD K x x (defArgs st) (defBody st) (defScope st) [] [] f fd ∧ mg x = some (.ref f)
/-- the method st of the class at C -/
def MDef (K : PySem.W.Frag) (C : Addr) (x q : Str) (st : Stmt) : Prop := ∃ f fd, FunD K x q (defArgs st) (defBody st) (defScope st) [] [] f fd ∧ Meth K C x f
/-- what a caller knows of the def behind the name x -/
structure Cal (P : Program) (w : World) (K : PySem.W.Frag) (mg : Str → Option Value) (base : Heap) (x : Str) (ps : List Str) (k : Nat) (sp : Sp) : Prop where
  ex : ∃ f fd, mg x = some (.ref f) ∧ PySem.W.keepIn K (.ref f) = true ∧ Binds K fd ps [] ∧ FnOk P w K mg base CX0 k f fd ps sp
/-- what a caller knows of a method -/
structure MCal (P : Program) (w : World) (K : PySem.W.Frag) (mg : Str → Option Value) (base : Heap) (C : Addr) (x : Str) (ps : List Str) (k : Nat) (sp : Sp) : Prop where
  ex : ∃ f fd, Meth K C x f ∧ Binds K fd ps [] ∧ FnOk P w K mg base CX0 k f fd ps sp
section
variable {P : Program} {w : World} {K : PySem.W.Frag} {mg : Str → Option Value} {base : Heap} {x q : Str} {st : Stmt} {C : Addr}
/-- how arguments come to a def without defaults -/
abbrev BindsH (x q : Str) (st : Stmt) (ps : List Str) : Prop := ∀ (kV doc pm : Value) (an : Option Addr) (cdv ct : Value) (us : List Value), us.length = ps.length → bindArgs (PySem.W.fnOf x q (defArgs st) (defBody st) (defScope st) .none kV doc pm an cdv ct) ⟨us, []⟩ = pure (ps.zip us)
abbrev BodyH (P : Program) (w : World) (K : PySem.W.Frag) (mg : Str → Option Value) (base : Heap) (q : Str) (st : Stmt) (N : List Str) (k : Nat) (sp : Sp) : Prop :=
  ∀ (f : Addr) (cdv : Value) (A : Around) (outer : List Env) (s : Shared) (H : Hp) (vs : List V) (Q : VK) (E : XK), Room k (A.deeper (envOfC q (defScope st) s.heap.objs.size f cdv)) → sp vs H Q E →
      ∃ t, PSs (cxOf CX0 P w K mg base N q (defScope st) f cdv A outer s H E).nox (defBody st) t ∧ t { nx := fun _ H' => Q .non H', rt := Q } (start N vs) H
theorem Def.fn (D : Def K mg x st) {N ps : List Str} {k : Nat} {sp : Sp} (S : FnScope N ps (defScope st)) (len : ∀ vs H Q E, sp vs H Q E → vs.length = ps.length) (hb : BindsH x x st ps) (body : BodyH P w K mg base x st N k sp) :
    ∃ f fd, mg x = some (.ref f) ∧ PySem.W.keepIn K (.ref f) = true ∧ Binds K fd ps [] ∧ FnOk P w K mg base CX0 (k + 1) f fd ps sp := by
  obtain ⟨f, fd, F, g⟩ := D
  exact ⟨f, fd, g, F.kp, F.bindsN hb, F.ok S len fun cdv A outer s H vs Q E hr h => let ⟨t, ht, hq⟩ := body f cdv A outer s H vs Q E hr h; ⟨t, ht.nox, hq⟩⟩
theorem Def.cal (D : Def K mg x st) {N ps : List Str} {k : Nat} {sp : Sp} (S : FnScope N ps (defScope st)) (len : ∀ vs H Q E, sp vs H Q E → vs.length = ps.length) (hb : BindsH x x st ps) (body : BodyH P w K mg base x st N k sp) :
    Cal P w K mg base x ps (k + 1) sp := ⟨D.fn S len hb body⟩
theorem MDef.cal (D : MDef K C x q st) {N ps : List Str} {k : Nat} {sp : Sp} (S : FnScope N ps (defScope st)) (len : ∀ vs H Q E, sp vs H Q E → vs.length = ps.length) (hb : BindsH x q st ps) (body : BodyH P w K mg base q st N k sp) :
    MCal P w K mg base C x ps (k + 1) sp := by
  obtain ⟨f, fd, F, m⟩ := D
  exact ⟨f, fd, m, F.bindsN hb, F.ok S len fun cdv A outer s H vs Q E hr h => let ⟨t, ht, hq⟩ := body f cdv A outer s H vs Q E hr h; ⟨t, ht.nox, hq⟩⟩
theorem Cal.mono {ps : List Str} {j k : Nat} {sp : Sp} (c : Cal P w K mg base x ps j sp) (h : j ≤ k) : Cal P w K mg base x ps k sp := by
  obtain ⟨f, fd, h1, h2, h3, h4⟩ := c.ex
  exact ⟨f, fd, h1, h2, h3, h4.mono h⟩
theorem Cal.imp {ps : List Str} {k : Nat} {sp sp' : Sp} (c : Cal P w K mg base x ps k sp) (h : ∀ vs H Q E, sp' vs H Q E → sp vs H Q E) : Cal P w K mg base x ps k sp' := by
  obtain ⟨f, fd, h1, h2, h3, h4⟩ := c.ex
  exact ⟨f, fd, h1, h2, h3, h4.imp h⟩
theorem MCal.mono {ps : List Str} {j k : Nat} {sp : Sp} (c : MCal P w K mg base C x ps j sp) (h : j ≤ k) : MCal P w K mg base C x ps k sp := by
  obtain ⟨f, fd, h1, h3, h4⟩ := c.ex
  exact ⟨f, fd, h1, h3, h4.mono h⟩
end
section
variable {X : Cx}
/-- f(e, ..) -/
theorem pe_cal {x : Str} {p pos : Pos} {e : Expr} {es : List Expr} {t : TA} {ps : List Str} {k : Nat} {sp : Sp} (c : Cal X.prog X.w X.K X.mg X.base x ps k sp) (hr : Room k X.A) (hg : Gl X x) (ha : PA X (e :: es) t) (hdb : (x == ("__debug__" : Str)) = false := by decide)
    (he : starEach (e :: es) X.env = (false, eval e X.env) :: starEach es X.env := by rfl) (hpl : (backTo pos (starEach es X.env)).any (·.1) = false := by rfl) : PE X (.Call (.Name x p) (e :: es) [] pos) (tCall sp [] E0 t) := by
  obtain ⟨f, fd, h1, h2, h3, h4⟩ := c.ex
  exact pe_call h4 hr hg h1 h2 h3 .nil pass0 ha hdb he hpl
/-! ### readings made simpler -/
theorem PE.imp {e : Expr} {t t' : TE} (h : PE X e t) (i : ∀ σ H Q, t' σ H Q → t σ H Q) : PE X e t' := ⟨fun pins s σ H Q I q => h.run pins s σ H Q I (i σ H Q q)⟩
theorem PT.imp {e : Expr} {t t' : TT} (h : PT X e t) (i : ∀ σ H Q, t' σ H Q → t σ H Q) : PT X e t' := ⟨fun pins s σ H Q I q => h.run pins s σ H Q I (i σ H Q q)⟩
theorem PS.imp {e : Stmt} {t t' : TS} (h : PS X e t) (i : ∀ D σ H, t' D σ H → t D σ H) : PS X e t' := ⟨fun pins s σ H D I q => h.run pins s σ H D I (i D σ H q)⟩
theorem PSs.imp {e : List Stmt} {t t' : TS} (h : PSs X e t) (i : ∀ D σ H, t' D σ H → t D σ H) : PSs X e t' := ⟨fun pins s σ H D I q => h.run pins s σ H D I (i D σ H q)⟩
/-- an expression that is never asked -/
theorem pe_never {e : Expr} : PE X e (fun _ _ _ => False) := ⟨fun _ _ _ _ _ _ h => h.elim⟩
/-- isinstance(e, T), T a built-in class -/
def rIs (K : PySem.W.Frag) (T : String) : List V → Hp → VK → Prop := fun xs H Q => ∃ (x : V) (t : String) (b : Bool), xs = [x, .ty T] ∧ TyX K H x (.type t) ∧ kitB t T = some b ∧ Q (.bl b) H
theorem call_is (T : String) : CallR X (.builtin "isinstance") (rIs X.K T) := fun pins s σ H xs us Q I r h => by
  obtain ⟨x, t, b, e, ty, k, q⟩ := h
  exact call_isi pins s σ H xs us Q I r ⟨x, .ty T, .type t, .type T, b, e, .ty T, ty, kit_ty k, q⟩
theorem pe_isi {e : Expr} {te : TE} {T : Str} {Tn : String} {p p2 pos : Pos} (hi : X.mg "isinstance" = none) (hT : X.mg T = none) (hb : bootBuiltins T = some (.type Tn)) (he : PE X e te) (hg : Gl X "isinstance" := by rfl) (hg2 : Gl X T := by rfl)
    (hst : starEach (e :: [.Name T p2]) X.env = (false, eval e X.env) :: starEach [.Name T p2] X.env := by rfl) (hn : T ≠ "__name__" := by decide) (hdb : (T == ("__debug__" : Str)) = false := by decide) (hcd : (T == ("__classdict__" : Str)) = false := by decide) : PE X (.Call (.Name "isinstance" p) [e, .Name T p2] [] pos) (tCB (rIs X.K Tn) (tCons te (tCons (tC (.ty Tn)) tNil))) :=
  pe_callB (call_is Tn) hg hi boot_isinstance (pa_cons he (pa_cons (pe_bltn (v := .ty Tn) hg2 hT hb rfl hn hdb) pa_nil) hst) (by decide) (by decide) hst
end
/-- the built-in names that the program uses are still the built-ins -/
structure Glo (mg : Str → Option Value) : Prop where
  isi : mg "isinstance" = none
  len : mg "len" = none
  enu : mg "enumerate" = none
  srt : mg "sorted" = none
  lst : mg "list" = none
  tup : mg "tuple" = none
  rng : mg "range" = none
  int : mg "int" = none
  str : mg "str" = none
  dct : mg "dict" = none
  bool : mg "bool" = none
  min : mg "min" = none
  all : mg "all" = none
end K56
set_option Elab.async false
set_option linter.all false
set_option maxRecDepth 100000
/-! Rules that the layer lacks: enumerate(tuple); in, not in, len by own methods. -/
namespace K56
open PySem PySem.Spec PyProof.Rows L2
/-! ### enumerate(v) of one argument -/
set_option maxHeartbeats 1000000 in
theorem meets_enum1 {v : Value} {o : Obj} {H : Heap → Prop} (B : Begins v o H) :
    Meets (Builtin.«enumerate.__new__» ⟨[.type "enumerate", v], []⟩) (fun _ R sh => H sh.heap ∧
      R (.ok (.ret (.ref (sh.heap.push o).objs.size))) { sh with heap := (sh.heap.push o).push { cls := .type "enumerate", data := .fields #[.none, .bool false, .ref sh.heap.objs.size, rawInt 0, .none, .none] } }) :=
  .of_wp fun prog w A R sh h => by
    obtain ⟨heap0, g, d, tok0, os⟩ := sh; obtain ⟨h1, h⟩ := h
    have subEn := sub_enumerate
    have begun : ∀ {A' : Around} {E : Value → Shared → Prop} {Q : Value → Shared → Prop}, Q (.ref heap0.objs.size) ⟨heap0.push o, g, d, tok0, os⟩ → wpAny (model prog w) A' (pyIter v) Q E ⟨heap0, g, d, tok0, os⟩ :=
      fun q => B.iter prog w _ _ ⟨heap0, g, d, tok0, os⟩ _ h1 q
    wp_walk using begun
    refine wpAny_stack_any fun st => wpAny_pure ?_
    split
    · rename_i c _ _ _ _ _
      cases (c == Value.type "enumerate")
      · wp_walk using begun
        exact ⟨_, rfl, h⟩
      · wp_walk using begun
        exact ⟨_, rfl, h⟩
    · wp_walk using begun
      exact ⟨_, rfl, h⟩
theorem enum1_begins {prog : Program} {w : World} {A : Around} {E : Value → Shared → Prop} {sh : Shared} {v : Value} {o : Obj} {H : Heap → Prop} {Q : Value → Shared → Prop} (B : Begins v o H) (h1 : H sh.heap)
    (h : ∀ h', IsEnum h' (sh.heap.objs.size + 1) sh.heap.objs.size 0 .none → h'.get? sh.heap.objs.size = some o → h'.objs.size = sh.heap.objs.size + 2 →
      (∀ b o, sh.heap.get? b = some o → h'.get? b = some o) → Q (.ref (sh.heap.objs.size + 1)) { sh with heap := h' }) :
    wpAny (model prog w) A (call (.type "enumerate") [v]) Q E sh := by
  refine callType_new F.called_enumerate (by decide) (F.typeCall_enumerate_1 _) (F.newCall_enumerate_1 _) (fun ob0 => F.args_object_init_2 ob0 _) F.entry_enumerate_new
    (meets_enum1 B) ⟨h1, ?_⟩
  have sizeA : (sh.heap.push o).objs.size = sh.heap.objs.size + 1 := Heap.size_push ..
  show _ ∧ _
  rw [sizeA]
  have hEn : IsEnum ((sh.heap.push o).push { cls := .type "enumerate", data := .fields #[.none, .bool false, .ref sh.heap.objs.size, rawInt 0, .none, .none] }) (sh.heap.objs.size + 1) sh.heap.objs.size 0 .none := by
    have := Heap.get?_push_size (sh.heap.push o) (o := { cls := .type "enumerate", data := .fields #[.none, .bool false, .ref sh.heap.objs.size, rawInt 0, .none, .none] }) rfl
    rw [sizeA] at this; exact this
  refine ⟨⟨_, hEn, rfl⟩, h _ hEn (Heap.get?_push_of_some _ (Heap.get?_push_size _ B.free)) (by rw [Heap.size_push, sizeA]) fun b o val => Heap.get?_push_of_some _ (Heap.get?_push_of_some _ val)⟩
/-! ### for ix, val in enumerate(t), t a tuple -/
def IteT (K : PySem.W.Frag) (a : Addr) : It :=
  ⟨fun ix H => ∃ (row : List V) (val : V), SqT K H a row ∧ row[ix]? = some val, fun ix H v H' => ∃ T val, v = .ref T ∧ H T = none ∧ H' = upd H T (.tup [.int (ix : Nat), val]) ∧ ∀ row, SqT K H a row → row[ix]? = some val, fun ix H => ∃ row : List V, SqT K H a row ∧ row.length ≤ ix⟩
theorem turn_enumT {P : Program} {w : World} {K : PySem.W.Frag} {elts : List Expr} {kk : Nat} {tpos : Pos} (a e it : Addr) (neAI : a ≠ it) (neAE : a ≠ e) :
    Turn P w K (.Tuple elts kk tpos) (IteT K a) [e, it] e (fun ix h => (∃ old, IsEnum h e it ((ix : Nat) : Int) old) ∧ h.IsTupleIter it a ix ∧ e ≠ it) where
  mem := by simp
  obj := fun ix h st b hb => by
    obtain ⟨⟨old, hEn⟩, ⟨o, outE, hc, hd⟩, _⟩ := st
    have either : b = e ∨ b = it := by simpa using hb
    rcases either with z | z
    · rw [z]; exact ⟨_, hEn, fun v q => nomatch q⟩
    · rw [z]; exact ⟨o, outE, fun v q => by rw [hd] at q; cases q⟩
  keep := fun ix h h' st k => let ⟨⟨old, hEn⟩, hi, neE⟩ := st; ⟨⟨old, k e (by simp) _ hEn⟩, hi.at fun o q => k it (by simp) o q, neE⟩
  item := by
    intro X hP hw hK hc ix pins sh σ H E Iv hf st hg
    subst hP hw hK
    obtain ⟨⟨old, hEn⟩, atIt, neE⟩ := st
    obtain ⟨row, val, seqA, gotX⟩ := hg
    obtain ⟨its, rv, p, sizeA⟩ := Iv.tuple seqA
    obtain ⟨u, hu, ru⟩ := rv.get gotX
    have eIn : e < sh.heap.objs.size := Heap.lt_size hEn
    have itIn : it < sh.heap.objs.size := by obtain ⟨_, q, _⟩ := atIt; exact Heap.lt_size q
    have hlt : ix < its.toArray.size := by
      have := (List.getElem?_eq_some_iff.mp hu).1
      simpa using this
    have hpi : sh.heap.IsTuple a its.toArray := p
    refine wpAny_pyNext_enum_itemD (fp := [it, a]) (n := its.toArray.size) (P := fun ix v => its.toArray[ix]? = some v) (St := fun ix h => h.IsTupleIter it a ix ∧ h.IsTuple a its.toArray)
      (Draws.tuple (A := X.A.in1) (Iv.ok.hd hc) it a neAI its.toArray) hEn ⟨atIt, hpi⟩ hlt neE (by simp [neE, Ne.symm neAE]) fun v h' tok0 gotV outE hst' tupAt grown kept => ?_
    have ev : v = u := by
      have h2 : its.toArray[ix]? = some u := by simpa using hu
      rw [h2] at gotV
      exact (Option.some.inj gotV).symm
    subst ev
    obtain ⟨hit', _⟩ := hst'
    refine ⟨_, rfl, wpAny_letOwnedTupleGo_enum (s := { sh with heap := h', toks := tok0 + 1 }) outE fun h'' he' butE => ?_⟩
    have hT2 : h''.get? sh.heap.objs.size = some { cls := .type "tuple", data := .seq #[.int ix tok0, v] } := (butE.2 _ (Nat.ne_of_gt eIn)).trans tupAt
    have new : ObjOk X.prog X.w (upd H sh.heap.objs.size (.tup [.int (ix : Nat), val])) h'' sh.heap.objs.size (.tup [.int (ix : Nat), val]) :=
      ⟨by show 2 ≤ sizeLine; decide, [.int ix tok0, v], .cons ⟨_, rfl⟩ (.cons ru .nil), ⟨_, hT2, rfl, _, rfl⟩⟩
    have Iv1 : Inv X pins σ (upd H sh.heap.objs.size (.tup [.int (ix : Nat), val])) { sh with heap := h'', toks := tok0 + 1 } :=
      Iv.turnedNew (ch := [e, it]) (fun b ob hb q => (butE.2 b (fun z => hb (by simp [z]))).trans (kept b ob (fun z => hb (by simp [z])) (fun z => hb (by simp [z])) q)) hf (Nat.le_refl _) new
    refine ⟨.ref sh.heap.objs.size, _, Iv1, rfl, ⟨_, val, rfl, Iv.hok.fresh (Nat.le_refl _), rfl, fun ys hy => by rw [Iv.tuple_inj hy seqA]; exact gotX⟩, ⟨⟨v, ?_⟩, hit'.at fun o q => (butE.2 it (Ne.symm neE)).trans q, neE⟩, fun b hb => ?_⟩
    · have e1 : ((ix + 1 : Nat) : Int) = (ix : Int) + 1 := by omega
      rw [e1]; exact he'
    · have hb' : b < sh.heap.objs.size := by
        have either : b = e ∨ b = it := by simpa using hb
        rcases either with z | z
        · rw [z]; exact eIn
        · rw [z]; exact itIn
      rw [upd_ne (Nat.ne_of_lt hb')]
      exact (hf b hb).1
  done := by
    intro X hP hw hK hc ix pins sh σ H E Iv hf st hg
    subst hP hw hK
    obtain ⟨⟨old, hEn⟩, atIt, neE⟩ := st
    obtain ⟨row, seqA, gotX⟩ := hg
    obtain ⟨its, rv, p, sizeA⟩ := Iv.tuple seqA
    obtain ⟨f0, f1, f2, f3, f4, f5⟩ := hf it (by simp)
    have hl := rv.length
    have hpi : sh.heap.IsTuple a its.toArray := p
    have tupAt : sh.TypeIs (.ref e) "enumerate" := ⟨_, hEn, rfl⟩
    unfold pyNext
    refine wpAny_bind (wpAny_attempt (wpAny_callSpecial?_slot (name := Str.ofString "__next__") tupAt F.slot_enumerate_next
      (wpAny_call_entry F.slot_enumerate_next tupAt F.entry_enumerate_next ?_ (F.args_enumerate_next_1 _))))
    show wpAny _ _ (field (.ref e) 2 >>= _) _ _ _
    refine wpAny_bind (wpAny_field hEn rfl (x := .ref it) rfl ?_)
    refine wpAny_bind (wpAny_nextOf_tuple_end (Iv.ok.hd hc) atIt hpi (by simp; omega) fun h' val he' hx' => ?_)
    obtain ⟨o, outE, hc⟩ := hx'
    refine wpAny_bind (wpAny_isInstance (T := "StopIteration") (b := true) ⟨o, outE, hc⟩ isSubtype_stop ?_)
    exact wpAny_pure ⟨rfl, Iv.turned (t' := sh.toks) (fun b o hb q => he' b o hb q) f0 f1 f3 f4 f5⟩
  self := fun A ix sh Q E st h => let ⟨⟨_, hEn⟩, _⟩ := st; wpAny_pyIter_enum hEn h
def iEnumT (K : PySem.W.Frag) (ta : TA) : TI := fun σ H R => ta σ H fun vs H1 => ∃ a row, vs = [.ref a] ∧ SqT K H1 a row ∧ R (IteT K a) H1
theorem pi_enumT {X : Cx} {e : Expr} {ta : TA} {p pos tpos : Pos} {elts : List Expr} {kk : Nat} (hg : Gl X "enumerate") (hm : X.mg "enumerate" = none) (ha : PA X [e] ta) (hs : starEach [e] X.env = [(false, eval e X.env)] := by rfl) :
    PI X (.Tuple elts kk tpos) (.Call (.Name "enumerate" p) [e] [] pos) (iEnumT X.K ta) := by
  refine ⟨fun pins sh σ H R Iv h => ?_⟩
  refine Call_ (ld_blt Iv hg hm boot_enumerate (PyProof.Rows.callWith_type1 (thn (ha.run pos pins sh σ H _ Iv h) fun us z1 ⟨vs, H1, Iv1, r1, begun⟩ => ?_) hs rfl))
  obtain ⟨a, row, ex, seqA, q⟩ := begun
  subst ex
  cases r1 with
  | cons rel rels =>
    cases rels
    cases rel
    obtain ⟨its, rv, p', sizeA⟩ := Iv1.tuple seqA
    have hpi : z1.heap.IsTuple a its.toArray := p'
    refine enum1_begins (begins_tuple a its.toArray) hpi fun h' hEn atIt grown kept => wpAny_pyIter_enum hEn ?_
    have Iv2 : Inv X pins σ H1 { z1 with heap := h' } := Iv1.kept (t' := z1.toks) kept
    have hal : a < z1.heap.objs.size := by obtain ⟨o, e, _⟩ := hpi; exact Heap.lt_size e
    refine ⟨z1.heap.objs.size + 1, [z1.heap.objs.size + 1, z1.heap.objs.size], _, _, H1, rfl, Iv2, turn_enumT a (z1.heap.objs.size + 1) z1.heap.objs.size (Nat.ne_of_lt hal) (Nat.ne_of_lt (Nat.lt_succ_of_lt hal)), ⟨⟨.none, hEn⟩, ⟨_, atIt, rfl, rfl⟩, Nat.succ_ne_self _⟩, fun b hb => ?_, q⟩
    have either : b = z1.heap.objs.size + 1 ∨ b = z1.heap.objs.size := by simpa using hb
    have hle : z1.heap.objs.size ≤ b := by
      rcases either with z | z
      · rw [z]; exact Nat.le_add_right _ _
      · rw [z]; exact Nat.le_refl _
    exact Iv1.fpOk hle (Iv1.hok.fresh hle)
theorem walk_enumT {K : PySem.W.Frag} {a : Addr} {row : List V} : Walk (IteT K a) row.length (fun H => SqT K H a row) (YPair (fun ix => some (.int (ix : Nat))) (fun ix => row[ix]?)) := by
  refine ⟨fun ix _ hi q => ⟨row, row[ix], q, by simp [hi]⟩, fun _ q => ⟨row, q, Nat.le_refl _⟩, fun ix H v H' _ q y => ?_⟩
  obtain ⟨T, val, h1, h2, h3, h4⟩ := y
  exact ⟨T, .int (ix : Nat), val, h1, h2, h3, rfl, h4 row q⟩
/-! ### in, not in, len by own methods -/
section
variable {X : Cx} {k : Nat} {C : Addr}
/-- val in o, o an instance of the class at C with its own __contains__ -/
def rInOwn (C : Addr) (sp : Sp) (neg : Bool) : R2 := fun val y H Q => ∃ (a dx : Addr) (fs : List (Str × V)), y = .ref a ∧ H a = some (.ins C dx fs) ∧ sp [.ref a, val] H (fun v H' => ∃ b : Bool, v = .bl b ∧ Q (.bl (neg != b)) H') E0
theorem contains_own {ps : List Str} {sp : Sp} (c : MCal X.prog X.w X.K X.mg X.base C "__contains__" ps k sp) (hr : Room (k + 1) X.A) {pins : List (Addr × Obj)} {sh : Shared} {σ : L2.St} {H : Hp} {val : V} {u : Value} {a dx : Addr} {fs : List (Str × V)} {Q : Bool → Shared → Prop}
    (Iv : Inv X pins σ H sh) (rx : RelV val u) (ha : H a = some (.ins C dx fs)) {R : Bool → Hp → Prop} (h : sp [.ref a, val] H (fun v H' => ∃ b : Bool, v = .bl b ∧ R b H') E0) (seqA : ∀ b s' H', Inv X pins σ H' s' → R b H' → Q b s') :
    wpAny (model X.prog X.w) X.A (contains (.ref a) u) Q X.xe sh := by
  obtain ⟨f, fd, m, bd, F⟩ := c.ex
  obtain ⟨mA, J, _⟩ := ins_get Iv.hok ha
  obtain ⟨od, J, _⟩ := J.look
  unfold contains
  try with_reducible refine wpAny_holding ?_
  have r2 : Vals [V.ref a, val] [Value.ref a, u] := .cons rfl (.cons rx .nil)
  have go : wpAny (model X.prog X.w) X.A (call (.ref f) [.ref a, u]) (fun v s' => ∃ b : Bool, v = .bool b ∧ Q b s') X.xe sh := by
    refine thn (run_fn (ds := []) (dvs := []) (Q := fun v H' => ∃ b : Bool, v = .bl b ∧ R b H') F (hr.mono (Nat.le_succ _)) bd .nil pass0 Iv r2 h) fun v s' gotV => ?_
    obtain ⟨w', H', I', r', b, e, q⟩ := gotV
    subst e
    cases r'
    exact ⟨b, rfl, seqA b s' H' I' q⟩
  have e0 : stdlibNamesSay? (.ref a) u = none := by cases u <;> rfl
  rw [e0]
  dsimp only
  refine wpAny_bind (wpAny_bind (J.type.here ((PySem.W.looks_findIn Iv.kIn m.at_).here ?_)))
  show wpAny _ _ (if (some (Value.ref f) == some Value.none) = true then _ else _) _ _ sh
  have n1 : ¬ ((some (Value.ref f) == some Value.none) = true) := fun z => Bool.noConfusion (show false = true from z)
  rw [if_neg n1]
  show wpAny _ _ (callSpecialUnlessNone? (.ref a) "__contains__" [u] _ >>= _) _ _ sh
  unfold callSpecialUnlessNone?
  refine wpAny_bind (wpAny_bind (wpAny_bind (J.type.here ((PySem.W.looks_findIn Iv.kIn m.at_).here ?_))))
  refine wpAny_holding ?_
  refine wpAny_bind ((PySem.W.bind_fn Iv.kIn _ (beq_iff_eq.mp m.fn)).here ?_)
  show wpAny _ _ (if (Value.ref f == Value.none) = true then _ else _) _ _ sh
  have n2 : ¬ ((Value.ref f == Value.none) = true) := fun z => Bool.noConfusion (show false = true from z)
  rw [if_neg n2]
  refine wpAny_bind (thn go fun v s' gotV => ?_)
  obtain ⟨b, e, q⟩ := gotV
  subst e
  exact wpAny_pure (wpAny_truthy_bool q)
theorem op_in_own {ps : List Str} {sp : Sp} (c : MCal X.prog X.w X.K X.mg X.base C "__contains__" ps k sp) (hr : Room (k + 1) X.A) : OpR X (compareOp .In) (rInOwn C sp false) := by
  intro pins sh σ H val y v u Q Iv rx ry h
  obtain ⟨a, dx, fs, rfl, ha, q⟩ := h
  cases ry
  show wpAny _ _ (contains (.ref a) v >>= fun b => pure (Value.bool b)) _ _ sh
  refine wpAny_bind (contains_own c hr Iv rx ha q fun b s' H' I' q' => wpAny_pure ⟨.bl b, H', I', rfl, ?_⟩)
  cases b <;> exact q'
theorem op_notIn_own {ps : List Str} {sp : Sp} (c : MCal X.prog X.w X.K X.mg X.base C "__contains__" ps k sp) (hr : Room (k + 1) X.A) : OpR X (compareOp .NotIn) (rInOwn C sp true) := by
  intro pins sh σ H val y v u Q Iv rx ry h
  obtain ⟨a, dx, fs, rfl, ha, q⟩ := h
  cases ry
  show wpAny _ _ (contains (.ref a) v >>= fun b => pure (Value.bool (!b))) _ _ sh
  refine wpAny_bind (contains_own c hr Iv rx ha q fun b s' H' I' q' => wpAny_pure ⟨.bl (!b), H', I', rfl, ?_⟩)
  cases b <;> exact q'
/-- len(o), o an instance of the class at C with its own __len__ -/
theorem call_len_own {ps : List Str} {sp : Sp} (c : MCal X.prog X.w X.K X.mg X.base C "__len__" ps k sp) (hr : Room (k + 1) X.A) :
    CallR X (.builtin "len") (fun row H Q => ∃ (a dx : Addr) (fs : List (Str × V)), row = [.ref a] ∧ H a = some (.ins C dx fs) ∧ sp [.ref a] H (fun v H' => ∃ n : Nat, v = .int n ∧ n < 1000 ∧ Q (.int n) H') E0) := by
  intro pins sh σ H row us Q Iv rel h
  obtain ⟨a, dx, fs, rfl, ha, q⟩ := h
  obtain ⟨u, rfl, ru⟩ := vals1 rel
  cases ru
  obtain ⟨f, fd, m, bd, F⟩ := c.ex
  obtain ⟨mA, J, _⟩ := ins_get Iv.hok ha
  obtain ⟨od, J, _⟩ := J.look
  obtain ⟨m', fr⟩ := Iv.fr
  have r2 : Vals [V.ref a] [Value.ref a] := .cons rfl .nil
  refine PySem.W.len_K fr Iv.ok.mod.kin J m.at_ m.fn ?_
  have hr1 : Room k X.A.in1 := hr.in1
  have hl := F.len _ _ _ _ q
  have e0 := Iv.env0
  have e1 : Env0 X.prog X.w X.K X.mg X.base X.A.in1 X.stack sh H := ⟨e0.frames, e0.mod, e0.bs, e0.bsz, e0.funs, e0.frf, e0.hok, e0.bare⟩
  refine wpAny_call (codeAny_mono (F.run X.A.in1 X.stack sh H ⟨[.ref a], []⟩ [.ref a] [.ref a] _ E0 hr1 e1 (by
    have := bd sh [.ref a] Iv.kIn (by simpa using hl)
    simpa using this) r2 q) fun rel s' seqA => ?_)
  cases rel with
  | error e => exact pass0 pins σ H sh e s' Iv seqA
  | ok fl =>
    cases fl with
    | ret w =>
      obtain ⟨z, H', I', rz, n, ez, hn, qn⟩ := Iv.after seqA
      subst ez
      obtain ⟨t, rfl⟩ := rz
      exact ⟨by omega, .int n, H', I'.tok _, ⟨_, rfl⟩, qn⟩
    | next => exact False.elim seqA
    | brk => exact False.elim seqA
    | cont => exact False.elim seqA
end
end K56
set_option Elab.async false
set_option linter.all false
set_option maxRecDepth 100000
/-! Small lemmas: texts in lists, slices, heaps. -/
namespace K56
open PySem PySem.Spec PyProof.Rows L2
abbrev svs (ps : List Str) : List V := ps.map V.str
theorem inV_str (z : Str) (ps : List Str) : inV (.str z) (svs ps) = decide (z ∈ ps) := by
  unfold inV
  rw [List.any_map]
  by_cases h : z ∈ ps
  · rw [decide_eq_true h]
    exact List.any_eq_true.mpr ⟨z, h, beq_iff_eq.mpr rfl⟩
  · rw [decide_eq_false h]
    rw [List.any_eq_false]
    intro y hy e
    have e' : y = z := eq_of_beq (show (y == z) = true from e)
    exact h (e' ▸ hy)
theorem flat_svs (ps : List Str) : (svs ps).all flatV = true := List.all_eq_true.mpr fun v hv => by
  obtain ⟨z, _, rfl⟩ := List.mem_map.mp hv
  rfl
theorem cut_take (xs : List V) (i : Nat) (h : i ≤ xs.length) : cutV xs none (some (i : Int)) = xs.take i := by
  unfold cutV
  rw [HT.sIx_nat, HT.sIx_none, List.drop_zero, Nat.min_eq_left h, Nat.sub_zero]
theorem cut_svs (xs : List Str) (i : Nat) (h : i ≤ xs.length) : cutV (svs xs) none (some (i : Int)) = svs (xs.take i) := by
  rw [cut_take _ _ (by rw [List.length_map]; exact h), ← List.map_take]
theorem cut_short {xs : List V} {i : Nat} (h : i < xs.length) : ¬ (HT.sIx xs.length 0 none = 0 ∧ HT.sIx xs.length xs.length (some (i : Int)) = xs.length) := by
  rw [HT.sIx_nat]
  omega
theorem svs_get {xs : List Str} {i : Nat} {v : V} (h : (svs xs)[i]? = some v) : ∃ z, xs[i]? = some z ∧ v = .str z := by
  rw [List.getElem?_map] at h
  cases e : xs[i]? with
  | none => rw [e] at h; cases h
  | some z => rw [e] at h; exact ⟨z, rfl, (Option.some.inj h).symm⟩
theorem take_nd {α : Type} {xs : List α} {i : Nat} {x : α} (h : xs[i]? = some x) (hn : (xs.take i).Nodup) (hx : x ∉ xs.take i) : (xs.take (i + 1)).Nodup := by
  rw [List.take_add_one, h]
  exact nd_snoc_ hn hx
where
  nd_snoc_ {α : Type} {l : List α} {k : α} (h : l.Nodup) (hk : k ∉ l) : (l ++ [k]).Nodup := by
    rw [List.nodup_append]
    refine ⟨h, by simp, fun a ha b hb => ?_⟩
    have e : b = k := by simpa using hb
    subst e
    intro e
    subst e
    exact hk ha
theorem not_nd {α : Type} {xs : List α} {i : Nat} {x : α} (h : xs[i]? = some x) (hx : x ∈ xs.take i) : ¬ xs.Nodup := fun hn => by
  obtain ⟨j, hj⟩ := List.mem_iff_getElem?.mp hx
  have hl := (List.getElem?_eq_some_iff.mp hj).1
  rw [List.length_take] at hl
  rw [List.getElem?_take_of_lt (by omega)] at hj
  have := nd_ix hn hj h
  omega
/-! ### heaps -/
theorem same_new {H : Hp} {p : Addr} {o : HO} (h : H p = none) : Same H (upd H p o) := fun b x e => by
  rw [upd_ne (ne_of_none e h)]
  exact e
theorem smN {H H1 : Hp} {p : Addr} {o : HO} (s : Same H H1) (h : H1 p = none) : Same H (upd H1 p o) := s.trans (same_new h)
theorem smT {K : PySem.W.Frag} {H H' : Hp} {a : Addr} {xs : List V} (e : Same H H') (h : SqT K H a xs) : SqT K H' a xs := by
  rcases h with (h | ⟨o, h⟩) | h
  · exact .inl (.inl (e _ _ h))
  · exact .inl (.inr ⟨o, e _ _ h⟩)
  · exact .inr h
theorem smL {K : PySem.W.Frag} {H H' : Hp} {a : Addr} {xs : List V} (e : Same H H') (h : SqL K H a xs) : SqL K H' a xs := Same.seq e h
theorem tupT {K : PySem.W.Frag} {H : Hp} {a : Addr} {xs : List V} (h : H a = some (.tup xs)) : SqT K H a xs := .inl (.inl h)
theorem lstL {K : PySem.W.Frag} {H : Hp} {a : Addr} {xs : List V} (h : H a = some (.lst xs)) : SqL K H a xs := .inl (.inl h)
theorem small64 {n : Nat} (h : n ≤ 1000) : n ≤ sizeLine := Nat.le_of_lt (small1000 h)
end K56
set_option Elab.async false
set_option linter.all false
set_option maxRecDepth 100000
/-! Names, people, pairs. -/
namespace K56
open PySem PySem.Spec PyProof.Rows L2
def letters : Str := "abcdefghijklmnopqrstuvwxyz"
structure NameOk (z : Str) : Prop where
  lo : 1 ≤ z.length
  hi : z.length ≤ 8
  low : ∀ c ∈ z.cps.toList, c ∈ letters.cps.toList
section
variable {P : Program} {w : World} {K : PySem.W.Frag} {mg : Str → Option Value} {base : Heap}
/-! ### is_name -/
def spIsName : Sp := fun vs H Q _ => ∃ z : Str, vs = [.str z] ∧ NameOk z ∧ Q (.bl true) H
theorem sc15 : FnScope ["value", "sign"] ["value"] (defScope (top 15)) := ⟨rfl, rfl, rfl, by decide +kernel, rfl, by decide +kernel, by decide +kernel⟩
theorem ok_is_name (D : Def K mg "is_name" (top 15)) (g : Glo mg) (gL : ∃ t, mg "LETTERS" = some (.str letters t)) : Cal P w K mg base "is_name" ["value"] 1 spIsName := by
  obtain ⟨tL, gL⟩ := gL
  refine D.cal sc15 (fun vs H Q E h => ?_) (fun _ _ _ _ _ _ us hl => match us, hl with | [_], _ => rfl) fun f cdv A outer s H vs Q E hr h => ?_
  · obtain ⟨z, rfl, _⟩ := h
    rfl
  obtain ⟨z, rfl, n, q⟩ := h
  refine ⟨_, pss_cons (ps_if (PW.pt (pw_or (pt_not (pt_val (pe_isi g.isi g.str boot_str (pv 0)))) (pw_or1 (pt_not (pt_chain op_le op_le pe_int (pe_callB call_len_str (by rfl) g.len PySem.boot_len (pa_cons (pv 0) pa_nil)) pe_int))))) (pss_one (ps_ret pe_bl)) pss_nil)
    (pss_cons (ps_for PassesOwn.never rfl (pi_str (pv 0)) (pg_name (i := 1) sc15.nd rfl (.inl rfl)) (pss_one (ps_if (pt_cmpR op_notIn_sign (pv 1) (pe_glob (v := .str letters) rfl gL ⟨_, rfl⟩) rfl) (pss_one (ps_ret pe_bl)) pss_nil)))
    (pss_one (ps_ret pe_bl))), ?_⟩
  have hz : z.length ≤ sizeLine := Nat.le_trans n.hi (by decide)
  have h1 : (1 : Int) ≤ z.length := by have := n.lo; omega
  have h2 : (z.length : Int) ≤ 8 := by have := n.hi; omega
  refine ⟨.str z, rfl, _, _, _, rfl, .base (.str _), by decide +kernel, true, rfl, iteF ?_⟩
  refine ⟨.str z, rfl, z, rfl, hz, 1, z.length, rfl, rfl, true, congrArg V.bl (decide_eq_true h1), iteT ⟨z.length, 8, rfl, rfl, true, congrArg V.bl (decide_eq_true h2), iteF ?_⟩⟩
  refine ⟨.str z, rfl, z, rfl, for_it walk_str (fun _ σ H' => H' = H ∧ ∃ y, σ = [some (.str z), y]) ⟨rfl, none, rfl⟩ (fun _ _ _ _ _ => trivial) ?_ ?_⟩
  · rintro i x σ H1 H2 hi ⟨rfl, y, rfl⟩ ⟨rfl, c, hc, rfl⟩
    have hm : c ∈ letters.cps.toList := n.low c (List.mem_of_getElem? (by rw [Array.getElem?_toList]; exact hc))
    exact ⟨_, rfl, c, letters, rfl, rfl, false, by rw [decide_eq_true hm]; rfl, iteF ⟨rfl, _, rfl⟩⟩
  · rintro σ H1 ⟨rfl, y, rfl⟩
    exact q
/-! ### is_person -/
def spIsPerson (K : PySem.W.Frag) : Sp := fun vs H Q _ => ∃ (pa : Addr) (ps : List Str) (z : Str), vs = [.ref pa, .str z] ∧ SqT K H pa (svs ps) ∧ Q (.bl (decide (z ∈ ps))) H
theorem sc16 : FnScope ["people", "value"] ["people", "value"] (defScope (top 16)) := ⟨rfl, rfl, rfl, by decide +kernel, rfl, by decide +kernel, by decide +kernel⟩
theorem ok_is_person (D : Def K mg "is_person" (top 16)) (g : Glo mg) : Cal P w K mg base "is_person" ["people", "value"] 1 (spIsPerson K) := by
  refine D.cal sc16 (fun vs H Q E h => ?_) (fun _ _ _ _ _ _ us hl => match us, hl with | [_, _], _ => rfl) fun f cdv A outer s H vs Q E hr h => ?_
  · obtain ⟨pa, ps, z, rfl, _⟩ := h
    rfl
  obtain ⟨pa, ps, z, rfl, hp, q⟩ := h
  refine ⟨_, pss_one (ps_ret (pe_and (pe_isi g.isi g.str boot_str (pv 1)) (pe_one (pe_cmpR op_in_seq (pv 1) (pv 0) (by rfl))))), ?_⟩
  refine ⟨.str z, rfl, _, _, _, rfl, .base (.str _), by decide +kernel, true, rfl, iteT ?_⟩
  refine ⟨_, rfl, _, rfl, pa, svs ps, rfl, .inr hp, rfl, flat_svs ps, ?_⟩
  show Q (.bl (inV (.str z) (svs ps))) H
  rw [inV_str]
  exact q
/-! ### are_different -/
def spDiff (K : PySem.W.Frag) : Sp := fun vs H Q _ => ∃ (pa va : Addr) (ps xs : List Str), vs = [.ref pa, .ref va] ∧ SqT K H pa (svs ps) ∧ SqT K H va (svs xs) ∧ (∀ x ∈ xs, x ∈ ps) ∧ xs.length ≤ 1000 ∧ ∀ H', Same H H' → Q (.bl (decide xs.Nodup)) H'
theorem sc17 : FnScope ["people", "values", "index", "value"] ["people", "values"] (defScope (top 17)) := ⟨rfl, rfl, rfl, by decide +kernel, rfl, by decide +kernel, by decide +kernel⟩
theorem ok_are_different (D : Def K mg "are_different" (top 17)) (g : Glo mg) (cP : Cal P w K mg base "is_person" ["people", "value"] 1 (spIsPerson K)) : Cal P w K mg base "are_different" ["people", "values"] 2 (spDiff K) := by
  refine D.cal sc17 (fun vs H Q E h => ?_) (fun _ _ _ _ _ _ us hl => match us, hl with | [_, _], _ => rfl) fun f cdv A outer s H vs Q E hr h => ?_
  · obtain ⟨pa, va, ps, xs, rfl, _⟩ := h
    rfl
  obtain ⟨pa, va, ps, xs, rfl, hp, hv, hin, hz, q⟩ := h
  refine ⟨_, pss_cons (ps_for PassesOwn.never rfl (pi_enumT (by rfl) g.enu (pa_cons (pv 1) pa_nil)) (pg_tup rfl (pgs_cons (pg_name (i := 2) sc17.nd rfl (.inl rfl)) (pgs_cons (pg_name (i := 3) sc17.nd rfl (.inl rfl)) pgs_nil)))
      (pss_one (ps_if (PW.pt (pw_or (pt_not (pt_val (pe_cal cP hr (by rfl) (pa_cons (pv 0) (pa_cons (pv 3) pa_nil))))) (pw_or1 (pt_cmpR op_in_seq (pv 3) (pe_slice sl_tup (pv 1) po_none (po_some (pv 2))) (by rfl))))) (pss_one (ps_ret pe_bl)) pss_nil)))
    (pss_one (ps_ret pe_bl)), ?_⟩
  refine ⟨.ref va, rfl, va, svs xs, rfl, hv, for_it walk_enumT (fun i σ H' => ∃ y2 y3, σ = [some (.ref pa), some (.ref va), y2, y3] ∧ Same H H' ∧ (xs.take i).Nodup) ⟨none, none, rfl, Same.refl _, by simp⟩ (fun _ _ _ _ ⟨_, _, _, sm, _⟩ => smT sm hv) ?_ ?_⟩
  · rintro i x σ H1 H2 hi ⟨y2, y3, rfl, sm, hn⟩ ⟨T, a, b, rfl, nT, rfl, ea, eb⟩
    rw [List.length_map] at hi
    cases ea
    obtain ⟨z, hz, rfl⟩ := svs_get eb
    have sm2 : Same H (upd H1 T (.tup [.int (i : Nat), .str z])) := smN sm nT
    refine ⟨T, _, rfl, tupT upd_same, rfl, _, _, rfl, _, _, rfl, rfl, ?_⟩
    have hzp : z ∈ ps := hin z (List.mem_of_getElem? hz)
    refine ⟨_, rfl, _, rfl, pa, ps, z, rfl, smT sm2 hp, true, congrArg V.bl (decide_eq_true hzp), iteF ?_⟩
    refine ⟨_, rfl, _, rfl, _, rfl, i, rfl, va, svs xs, rfl, smT sm2 hv, cut_short (by rw [List.length_map]; exact hi), fun p np => ?_⟩
    refine ⟨p, _, rfl, .inr (tupT upd_same), rfl, ?_, _, rfl, ?_⟩
    · rw [cut_svs _ _ (Nat.le_of_lt hi)]
      exact flat_svs _
    · show if inV (.str z) (cutV (svs xs) none (some (i : Int))) = true then _ else _
      rw [cut_svs _ _ (Nat.le_of_lt hi), inV_str]
      have sm3 : Same H (upd (upd H1 T (.tup [.int (i : Nat), .str z])) p (.tup (svs (xs.take i)))) := smN sm2 np
      refine ite2 (fun e => ?_) (fun e => ?_)
      · have hf : decide xs.Nodup = false := decide_eq_false (not_nd hz (of_decide_eq_true e))
        have := q _ sm3
        rw [hf] at this
        exact this
      · exact ⟨_, _, rfl, sm3, take_nd hz hn fun m => e (decide_eq_true m)⟩
  · rintro σ H1 ⟨y2, y3, rfl, sm, hn⟩
    rw [List.length_map, List.take_length] at hn
    have := q H1 sm
    rw [decide_eq_true hn] at this
    exact this
end
end K56
set_option Elab.async false
set_option linter.all false
set_option maxRecDepth 100000
/-! {x: True for x in xs}, xs a list of tuples of ints and texts. -/
namespace K56
open PySem PySem.Spec PyProof.Rows L2
theorem tkey_keep {prog : Program} {w : World} {h h' : Heap} {ks : List Key} {a : Addr} (x : (tupleKind (mixKind prog w)).is h ks a) (k : ∀ o, h.get? a = some o → h'.get? a = some o) : (tupleKind (mixKind prog w)).is h' ks a := by
  obtain ⟨o, its, n, h1, h2, h3, h4⟩ := x
  exact ⟨o, its, n, k o h1, h2, h3, h4⟩
/-- the dict of these keys, each with True, as the comprehension fills it -/
def trues (ks : List (List Key)) : List (List Key × V) := ks.foldl (fun acc k => putK acc k (.bl true)) []
theorem trues_snoc (ks : List (List Key)) (k : List Key) : trues (ks ++ [k]) = putK (trues ks) k (.bl true) := by
  unfold trues
  rw [List.foldl_append]
  rfl
theorem trues_len (ks : List (List Key)) : (trues ks).length ≤ ks.length := by
  suffices h : ∀ (ks : List (List Key)) (acc : List (List Key × V)), (ks.foldl (fun acc k => putK acc k (.bl true)) acc).length ≤ acc.length + ks.length by
    have := h ks []
    simpa [trues] using this
  intro ks
  induction ks with
  | nil => intro acc; exact Nat.le_refl _
  | cons k r ih =>
    intro acc
    have h1 := ih (putK acc k (.bl true))
    have h2 := length_putK acc k (.bl true)
    show (r.foldl (fun acc k => putK acc k (.bl true)) (putK acc k (.bl true))).length ≤ acc.length + (r.length + 1)
    omega
theorem trues_val (ks : List (List Key)) (k : List Key) : (valV (trues ks) k).isSome = true ↔ k ∈ ks := by
  suffices h : ∀ (ks : List (List Key)) (acc : List (List Key × V)), (valV (ks.foldl (fun acc k => putK acc k (.bl true)) acc) k).isSome = true ↔ ((valV acc k).isSome = true ∨ k ∈ ks) by
    have := h ks []
    rw [show valV ([] : List (List Key × V)) k = none from rfl] at this
    simpa [trues] using this
  intro ks
  induction ks with
  | nil => intro acc; simp
  | cons j r ih =>
    intro acc
    have h1 := ih (putK acc j (.bl true))
    show (valV (r.foldl (fun acc k => putK acc k (.bl true)) (putK acc j (.bl true))) k).isSome = true ↔ _
    rw [h1, valV_put]
    by_cases e : k = j
    · subst e
      simp
    · rw [if_neg e]
      simp [e]
def tTrues (te : TE) : TE := fun σ H Q => te σ H fun x H1 => ∃ (a : Addr) (ts : List (Addr × List Key)), x = .ref a ∧ H1 a = some (.lst (ts.map fun t => V.ref t.1)) ∧ (∀ t ∈ ts, H1 t.1 = some (.tup (t.2.map kV))) ∧ ts.length ≤ 1000 ∧
  ∀ D, H1 D = none → Q (.ref D) (upd H1 D (.dT (trues (ts.map (·.2)))))
section
variable {X : Cx}
theorem pe_trues {y : Str} {j : Nat} {p1 p2 p3 pos : Pos} {iter : Expr} {scope : Scope} {te : TE} (hc : X.calm = true) (hu : X.A.units + 1 < cLine) (hy : scope.names.lookup y = some .local) (hcell : ∀ z ∈ scope.names, z.2 ≠ .cell) (hfree : ∀ z ∈ scope.names, z.2 ≠ .free)
    (hkind : scope.kind = .function) (hnames : ∀ z ∈ scope.names, z.2 = .local → scope.names.lookup z.1 = some .local) (he : PE X iter te) (hdb : (y == ("__debug__" : Str)) = false := by decide) (hs : ∀ x, foldedSetIterable iter X.env x = pure x := by intro _; rfl) :
    PE X (.DictComp (.Name y p1) (.Constant (.bool true) j p2) [⟨.Name y p3, iter, [], 0⟩] scope pos) (tTrues te) := by
  refine ⟨fun pins sh σ H Q Iv h => ?_⟩
  refine DictComp_goes (cl := cloFrom X.env.cells scope.names []) (closure_ok fun z hz e => absurd e (hfree z hz)) hcell hkind hnames ?_ hs
  refine thn (he.run pins sh σ H _ Iv h) fun xv z1 hx => ?_
  obtain ⟨x, H1, Iv1, rx, a, ts, rfl, hl, hts, hz, q⟩ := hx
  obtain rfl : xv = Value.ref a := rx
  obtain ⟨hsz, its, n, rv, hobj⟩ := Iv1.hok a _ hl
  have hL : z1.heap.IsList a its.toArray := ⟨_, hobj, rfl, n, rfl⟩
  have hlt : a < z1.heap.objs.size := Heap.lt_size hobj
  have hlen : its.length = ts.length := by
    have := rv.length
    rw [List.length_map] at this
    exact this.symm
  -- the items are the tuples
  have item : ∀ (i : Nat) (v : Value), its[i]? = some v → ∃ t, ts[i]? = some t ∧ v = .ref t.1 := by
    intro i v hv
    have hi : i < ts.length := by
      rw [← hlen]
      exact (List.getElem?_eq_some_iff.mp hv).1
    have e1 : (ts.map fun t => V.ref t.1)[i]? = some (.ref ts[i].1) := by
      rw [List.getElem?_map, List.getElem?_eq_getElem hi]
      rfl
    obtain ⟨u, hu', ru⟩ := rv.get e1
    rw [hv] at hu'
    cases hu'
    exact ⟨ts[i], List.getElem?_eq_getElem hi, ru⟩
  refine wpAny_pyIter_list hL ?_
  generalize hI : z1.heap.objs.size = It
  have hIa : a ≠ It := by rw [← hI]; exact Nat.ne_of_lt hlt
  generalize hs2 : ({ z1 with heap := z1.heap.push { cls := .type "list_iterator", data := .fields #[.ref a, .int 0 0] } } : Shared) = z2
  have old2 : ∀ b o, z1.heap.get? b = some o → z2.heap.get? b = some o := fun b o e => by
    rw [← hs2]
    exact Heap.get?_push_of_some _ e
  have it2 : z2.heap.IsListIter It a 0 := by
    rw [← hs2, ← hI]
    exact ⟨_, Heap.get?_push_size _ rfl, rfl, rfl⟩
  have sz2 : z2.heap.objs.size = It + 1 := by rw [← hs2, ← hI]; exact Heap.size_push ..
  have bI : ∀ b o, z1.heap.get? b = some o → b ≠ It := fun b o e => by rw [← hI]; exact Nat.ne_of_lt (Heap.lt_size e)
  refine ⟨It, _, _, _, _, _, rfl, Goes.list (Iv.ok.hd hc) It a hIa its.toArray, ⟨it2, hL.at fun o e => old2 a o e⟩, fun D C s3 hB hD => ?_⟩
  obtain ⟨⟨h3, tk3, e3⟩, old3, nD, nC, hDC, hnm⟩ := hB
  have kind : (compEnvC scope (cloFrom X.env.cells scope.names []) C X.env).kindOf y = some .local := lookup_relabel_local hy
  have hp : ((compEnvC scope (cloFrom X.env.cells scope.names []) C X.env).scope.kind == .class || ((compEnvC scope (cloFrom X.env.cells scope.names []) C X.env).scope.kind == .module && (compEnvC scope (cloFrom X.env.cells scope.names []) C X.env).locals != (compEnvC scope (cloFrom X.env.cells scope.names []) C X.env).globals)) = false := by
    show (scope.kind == .class || (scope.kind == .module && _)) = false
    rw [hkind]
    rfl
  have szD : It < D := by rw [sz2] at nD; exact nD
  have szC : It < C := by rw [sz2] at nC; exact nC
  have old13 : ∀ b o, z1.heap.get? b = some o → s3.heap.get? b = some o := fun b o e => old3 b o (old2 b o e)
  have bC : ∀ b o, z1.heap.get? b = some o → b ≠ C := fun b o e => Nat.ne_of_lt (Nat.lt_trans (by rw [← hI]; exact Heap.lt_size e) szC)
  have bD : ∀ b o, z1.heap.get? b = some o → b ≠ D := fun b o e => Nat.ne_of_lt (Nat.lt_trans (by rw [← hI]; exact Heap.lt_size e) szD)
  -- what holds at turn i
  refine ⟨fun i s' => ∃ h' tok0 m xs, s' = { z1 with heap := h', toks := tok0 } ∧ h'.Ns C m ∧ KT H1 (trues ((ts.take i).map (·.2))) xs ∧
    (∃ o es ep, h'.get? D = some o ∧ o.ExactDict ∧ o.data = .dict es ep ∧ es.toList = xs.map (entryOfKey (tupleKind (mixKind X.prog X.w))) ∧ (xs.map (·.1)).Nodup) ∧ ∀ b o, z1.heap.get? b = some o → h'.get? b = some o, ?_, ?_, ?_, ?_⟩
  · refine ⟨h3, tk3, _, [], by rw [e3, ← hs2], by rw [e3] at hnm; exact hnm, by simp [trues]; exact .nil, ⟨_, #[], 0, by rw [e3] at hD; exact hD, ⟨rfl, rfl, rfl⟩, rfl, rfl, by simp⟩, fun b o e => ?_⟩
    have := old13 b o e
    rw [e3] at this
    exact this
  · rintro i s' h' tok0 ⟨h4, tk4, m, xs, rfl, n4, r4, ⟨o, es, ep, d1, d2⟩, k4⟩ hk _
    exact ⟨h', tok0, m, xs, rfl, n4.at' fun o e => hk C o (by simp; exact Nat.ne_of_gt szC) e, r4, ⟨o, es, ep, hk D o (by simp; exact Nat.ne_of_gt szD) d1, d2⟩, fun b o e => hk b o (by simp; exact bI b o e) (k4 b o e)⟩
  · rintro i v s' hi hv ⟨sti, stl⟩ ⟨h4, tk4, m, xs, rfl, n4, r4, ⟨o, es, ep, d1, d2, d3, d4, d5⟩, k4⟩
    have hv' : its[i]? = some v := by simpa using hv
    obtain ⟨t, ht, rfl⟩ := item i v hv'
    have htm : t ∈ ts := List.mem_of_getElem? ht
    refine wpAny_assign_Name (wpAny_storeName_local kind n4 (fun h5 n5 s5 => ?_) hp)
    refine wpAny_tests_nil ?_
    have ex5 := s5.extBut
    show wpAny _ _ (eval (.Name y p1) _) _ _ _
    rw [eval_Name _ _ _ hdb]
    refine wpAny_bind (wpAny_standAt (wpAny_loadName_local hkind kind n5 (v := .ref t.1) (by simp) ?_))
    show wpAny _ _ (eval (.Constant (.bool true) j p2) _) _ _ _
    refine wpAny_Constant_bool ?_
    have k5 : ∀ b o, z1.heap.get? b = some o → h5.get? b = some o := fun b o e => ex5 b o (bC b o e) (k4 b o e)
    have key1 := key_of (ks := t.2) Iv1.hok (hts t htm)
    have key5 : (tupleKind (mixKind X.prog X.w)).is h5 t.2 t.1 := tkey_keep key1 fun o e => k5 _ o e
    have all5 : ∀ x ∈ xs, (tupleKind (mixKind X.prog X.w)).is h5 x.1 x.2.1 := by
      have gen : ∀ {l : List (List Key × V)} {m : List (List Key × Addr × Value)}, KT H1 l m → ∀ x ∈ m, (tupleKind (mixKind X.prog X.w)).is h5 x.1 x.2.1 := by
        intro l m z
        induction z with
        | nil => intro x hx; cases hx
        | cons hq _ ih =>
          intro x hx
          cases hx with
          | head => exact tkey_keep (key_of Iv1.hok (by rw [← hq.1]; exact hq.2.1)) fun o e => k5 _ o e
          | tail _ hx => exact ih x hx
      exact gen r4
    have dd : h5.DictOfH (tupleKind (mixKind X.prog X.w)) D xs := ⟨o, es, ep, ex5 D o hDC d1, d2, d3, d4, all5, d5⟩
    have lx : xs.length ≤ sizeLine := by
      have e1 := Paired.length r4
      have e2 := trues_len ((ts.take i).map (·.2))
      rw [List.length_map, List.length_take] at e2
      rw [sizeLine_eq]
      omega
    refine wpAny_dictSet_heap (hsz := lx) (show X.A.units < cLine by omega) key5 dd fun h6 d6 s6 => ?_
    obtain ⟨o6, es6, ep6, q1, q2, q3, q4, _, q5⟩ := d6
    have hDb : ∀ b o, b ≠ D → h5.get? b = some o → h6.get? b = some o := fun b o hb e => s6.extBut b o hb e
    refine ⟨⟨h6, _, _, _, rfl, n5.at' fun o e => hDb C o (Ne.symm hDC) e, ?_, ⟨o6, es6, ep6, q1, q2, q3, q4, q5⟩, fun b o e => hDb b o (bD b o e) (k5 b o e)⟩, ?_, ?_⟩
    · have e1 : (ts.take (i + 1)).map (·.2) = (ts.take i).map (·.2) ++ [t.2] := by
        rw [List.take_add_one, ht]
        simp
      rw [e1, trues_snoc]
      exact r4.put t.2 (hts t htm) rfl
    · exact sti.at fun o e => hDb It o (Nat.ne_of_lt szD) (ex5 It o (Nat.ne_of_lt szC) e)
    · exact stl.at fun o e => hDb a o (Nat.ne_of_lt (Nat.lt_trans (by rw [← hI]; exact hlt) szD)) (ex5 a o (Nat.ne_of_lt (Nat.lt_trans (by rw [← hI]; exact hlt) szC)) e)
  · rintro s' ⟨h4, tk4, m, xs, rfl, n4, r4, ⟨o, es, ep, d1, d2, d3, d4, d5⟩, k4⟩
    refine ⟨m, n4, fun h5 s5 => ?_⟩
    have k5 : ∀ b o, z1.heap.get? b = some o → h5.get? b = some o := fun b o e => s5.extBut b o (bC b o e) (k4 b o e)
    have nDl : z1.heap.objs.size ≤ D := by rw [hI]; exact Nat.le_of_lt szD
    have etk : (ts.take its.toArray.size).map (·.2) = ts.map (·.2) := by
      rw [List.size_toArray, hlen, List.take_length]
    rw [etk] at r4
    have new : ObjOk X.prog X.w (upd H1 D (.dT (trues (ts.map (·.2))))) h5 D (.dT (trues (ts.map (·.2)))) := by
      refine ⟨?_, ?_, xs, r4.keeps fun b ys e => ?_, o, es, ep, s5.extBut D o hDC d1, d2, d3, d4, d5⟩
      · have e2 := trues_len (ts.map (·.2))
        rw [List.length_map] at e2
        rw [sizeLine_eq]
        omega
      · have : sysModules < D := Nat.lt_of_lt_of_le Iv1.big nDl
        exact beq_eq_false_iff_ne.mpr (Nat.ne_of_gt this)
      · rw [upd_ne (ne_of_none e (Iv1.hok.fresh nDl))]
        exact e
    exact ⟨.ref D, _, Iv1.laid (t' := tk4) k5 nDl new, rfl, q D (Iv1.hok.fresh nDl)⟩
end
end K56
set_option Elab.async false
set_option linter.all false
set_option maxRecDepth 100000
/-! list(d.keys()); sorted(t) of a tuple of texts; xs.remove(z) of a text. -/
namespace K56
open PySem PySem.Spec PyProof.Rows L2
/-! ### list(d.keys()) -/
def tListKeys (te : TE) : TE := fun σ H Q => te σ H fun x H1 => ∃ (d : Addr) (kvs : List (Key × V)), x = .ref d ∧ H1 d = some (.dK kvs) ∧ ∀ p, H1 p = none → Q (.ref p) (upd H1 p (.lst (kvs.map fun kv => kV kv.1)))
section
variable {X : Cx}
theorem pe_listKeys {ee : Expr} {te : TE} {p apos cpos pos : Pos} (hc : X.calm = true) (hm : X.mg "list" = none) (he : PE X ee te) (hg : Gl X "list" := by rfl) (hbase : attributeBase ee "keys" X.env (eval ee X.env) = eval ee X.env := by rfl)
    (hline : (apos.endLine == cpos.line) = true := by rfl)
    (hs : starEach [.Call (.Attribute ee "keys" apos) [] [] cpos] X.env = (false, eval (.Call (.Attribute ee "keys" apos) [] [] cpos) X.env) :: starEach [] X.env := by rfl) :
    PE X (.Call (.Name "list" p) [.Call (.Attribute ee "keys" apos) [] [] cpos] [] pos) (tListKeys te) := by
  refine ⟨fun pins sh σ H Q Iv hq => ?_⟩
  refine wpAny_Call_Name_kw (ld_blt Iv hg hm boot_list (PyProof.Rows.callWith_type1 ?_ hs rfl))
  rw [hs]
  refine Calls.spliced_cons (rest := backTo pos (starEach [] X.env)) ?_
  refine wpAny_Call_method (T := "dict") (id := "dict.keys") hbase rfl hline F.plainAttrs_dict F.slot_dict_keys F.type_dict_keys (thn (he.run pins sh σ H _ Iv hq) fun u z1 hx => ?_)
  obtain ⟨x, H1, Iv1, rx, d, kvs, rfl, hd, q⟩ := hx
  obtain rfl : u = Value.ref d := rx
  obtain ⟨hz, lo, vs, kv, hdo⟩ := dk_of Iv1.hok hd
  obtain ⟨ep, dAt⟩ := hdo.dictAt
  have eqLen : kvs.length = vs.length := Paired.length kv
  refine ⟨hdo.typeIs, hdo.mapOf.noDict, ?_⟩
  show wpAny _ _ (callWith cpos (.builtin "dict.keys") [.ref d] [] []) _ X.xe z1
  refine method_meetsIn F.slot_dict_keys F.entry_dict_keys rfl (PySem.evalArgs_none ⟨rfl, hdo.typeIs, F.args_dict_keys_1 _, _, PySem.W.kdl_meets_keys (mixKind X.prog X.w) d lo, ⟨vs, hdo⟩, ?_⟩)
  refine Calls.spliced_nil ?_
  have held : ∀ b ob, z1.heap.get? b = some ob → (z1.heap.push { cls := .type "dict_keys", data := .fields #[.ref d] }).get? b = some ob := fun b ob ee => Heap.get?_push_of_some _ ee
  have Iv2 : Inv X pins σ H1 { z1 with heap := z1.heap.push { cls := .type "dict_keys", data := .fields #[.ref d] } } := Iv1.kept (t' := z1.toks) held
  generalize ez2 : ({ z1 with heap := z1.heap.push { cls := .type "dict_keys", data := .fields #[.ref d] } } : Shared) = z2 at Iv2
  have view : PySem.W.KdlKeysView z2.heap z1.heap.objs.size d := by rw [← ez2]; exact ⟨_, Heap.get?_push_size _ rfl, rfl, rfl⟩
  have dAt2 : z2.heap.DictAt (mixKind X.prog X.w) d vs ep := by rw [← ez2]; exact dAt.push _
  refine PySem.W.kdl_call (s := z2) (PySem.W.kdl_keys (knd := mixKind X.prog X.w) (kvs := vs) (ep := ep) (d := d) (r := z1.heap.objs.size)) (Iv.ok.hd hc) ⟨view, dAt2⟩ (by omega) fun h' tok0 acc c hk isL hacc => ?_
  have sizes : acc.toList.length = kvs.length := by rw [Array.length_toList, hacc.1, eqLen]
  have row : Vals (kvs.map fun kv => kV kv.1) acc.toList := by
    refine vals_of_at (by rw [List.length_map, sizes]) fun j x u h1 h2 => ?_
    obtain ⟨k, y, h3, h4⟩ := hacc.2 j u (by rw [← Array.getElem?_toList]; exact h2)
    have eA : (kvs.map (·.1))[j]? = some k := by
      rw [KV.keys kv, List.getElem?_map, h3]
      rfl
    have eB : (kvs.map fun kv => kV kv.1)[j]? = some (kV k) := by
      have : (kvs.map fun kv => kV kv.1) = (kvs.map (·.1)).map kV := by rw [List.map_map]; rfl
      rw [this, List.getElem?_map, eA]
      rfl
    rw [eB] at h1
    rw [← Option.some.inj h1]
    exact keyIs_rel h4
  have fresh : H1 z2.heap.objs.size = none := Iv2.hok.fresh (Nat.le_refl _)
  refine ⟨.ref z2.heap.objs.size, _, Iv2.laid (t' := tok0) hk (Nat.le_refl _) (show ObjOk X.prog X.w _ _ _ (.lst (kvs.map fun kv => kV kv.1)) from ⟨by rw [List.length_map]; exact hz, acc.toList, c, row, ?_⟩), rfl, q _ fresh⟩
  rw [Array.toArray_toList]
  exact isL
/-! ### sorted(t) -/
def rSortedTS (K : PySem.W.Frag) : List V → Hp → VK → Prop := fun vs H Q => ∃ (a : Addr) (xs : List Str), vs = [V.ref a] ∧ SqT K H a (svs xs) ∧ xs.length < 64 ∧
  ∀ (ys : List Str) (p : Addr), ys.Perm xs → sortedS ys = true → H p = none → Q (.ref p) (upd H p (.lst (svs ys)))
theorem cr_sortedTS : CallR X (.builtin "sorted") (rSortedTS X.K) := by
  intro pins sh σ H vs us Q Iv r h
  obtain ⟨a, xs, rfl, hs, h64, q⟩ := h
  obtain ⟨its, rels, ⟨o, ho, hc, n, hd⟩, _⟩ := Iv.tuple hs
  rw [Vals.ref1 r]
  have isL := rels.strs
  have hl : its.length = xs.length := by
    have := rels.length
    rw [List.length_map] at this
    exact this.symm
  have small : its.length ≤ sizeLine := by rw [hl, sizeLine_eq]; omega
  refine Calls.call_function_entry kind_sorted plain_sorted entry_sorted (args_sorted1 _) ?_
  unfold Builtin.«sorted»
  refine wpAny_bind (m := checkCount "sorted" 1 1 _) (wpAny_pure ?_)
  refine wpAny_bind (wpAny_collect_seq a (.inr rfl) ho hc hd (fun h' hk => ?_) (by simpa using small))
  have Iv1 : Inv X pins σ H { sh with heap := h' } := Iv.kept (t' := sh.toks) hk
  refine wpAny_bind (wpAny_newList ?_ (by simpa using small))
  have eL : its.toArray.toList = its := by simp
  rw [eL]
  have made : (h'.push (seqObj "list" its.toArray 0)).get? h'.objs.size = some (seqObj "list" its.toArray 0) := Heap.get?_push_size _ rfl
  show wpAny _ _ _ _ _ { sh with heap := h'.push (seqObj "list" its.toArray 0) }
  refine wpAny_bind (wpAny_holding (wpAny_call_entry slot_list_sort ⟨_, made, rfl⟩ entry_list_sort (list_sort_treeK strKind_oneLt (s := { sh with heap := h'.push (seqObj "list" its.toArray 0) }) made isL.keysOf (fun v₁ v₂ rest ee => keyKind_strs (by rw [← ee]; exact isL)) (by rw [hl]; exact h64) fun st' hp hs' => ⟨_, rfl, ?_⟩) (args_list_sort _)))
  obtain ⟨ys, g1, g2, g3⟩ := sorted_out_str isL hp hs'
  obtain ⟨e', he'⟩ := sortedHeap_at (vs := its) (out := (arrOf st').map (·.2)) made
  have hlen : (svs ys).length ≤ sizeLine := by rw [List.length_map, g2.length_eq, sizeLine_eq]; omega
  have keep : ∀ b u, h'.get? b = some u → (sortedHeap (h'.push (seqObj "list" its.toArray 0)) h'.objs.size its ((arrOf st').map (·.2))).get? b = some u := fun b u ee => by
    have inB : b < h'.objs.size := Heap.lt_size ee
    rw [sortedHeap_old (Nat.ne_of_lt inB) (Nat.lt_of_lt_of_eq (Nat.lt_succ_of_lt inB) (size_push' _ _).symm)]
    exact Heap.get?_push_of_some _ ee
  have ob0 : ObjOk X.prog X.w (upd H h'.objs.size (.lst (svs ys))) (sortedHeap (h'.push (seqObj "list" its.toArray 0)) h'.objs.size its ((arrOf st').map (·.2))) h'.objs.size (.lst (svs ys)) :=
    ⟨hlen, ((arrOf st').map (·.2)).toList, e', vals_of_strs g1, by rw [Array.toArray_toList]; exact he'⟩
  exact wpAny_pure ⟨_, rfl, .ref h'.objs.size, _, Iv1.laid (t' := sh.toks) keep (Nat.le_refl _) ob0, rfl, q ys _ g2 g3 (Iv1.hok.fresh (Nat.le_refl _))⟩
/-! ### xs.remove(z), z there -/
def isTxt (z : Str) (v : Value) : Bool := match v with
  | .str x _ => decide (x = z)
  | _ => false
theorem isTxt_gives {z : Str} {t : Tok} {us : List Value} {xs : List Str} (r : Vals (svs xs) us) : ∀ y ∈ us, MeetsSeq.EqGives y (.str z t) (isTxt z y) := fun y hy => by
  obtain ⟨i, hi⟩ := List.mem_iff_getElem?.mp hy
  have hlt : i < (svs xs).length := by
    rw [r.length]
    exact (List.getElem?_eq_some_iff.mp hi).1
  obtain ⟨u, hu, ru⟩ := r.get (List.getElem?_eq_getElem hlt)
  rw [hi] at hu
  cases hu
  obtain ⟨x, _, ee⟩ := svs_get (List.getElem?_eq_getElem hlt)
  rw [ee] at ru
  obtain ⟨t', rfl⟩ := ru
  exact fun _ _ _ _ _ _ h => wpAny_eqBool_str h
theorem map_eraseIdx {α β : Type} (f : α → β) : ∀ (l : List α) (j : Nat), (l.map f).eraseIdx j = (l.eraseIdx j).map f
  | [], _ => rfl
  | _ :: _, 0 => rfl
  | x :: l, j + 1 => congrArg (f x :: ·) (map_eraseIdx f l j)
theorem len_eraseIdx {α : Type} : ∀ (l : List α) (j : Nat), (l.eraseIdx j).length ≤ l.length
  | [], _ => Nat.le_refl _
  | _ :: l, 0 => Nat.le_succ _
  | _ :: l, j + 1 => Nat.succ_le_succ (len_eraseIdx l j)
theorem erase_idx (xs : List Str) (z : Str) (hz : z ∈ xs) : xs.erase z = xs.eraseIdx (xs.idxOf z) := List.erase_eq_eraseIdx_of_idxOf rfl
def rRemS : V → List V → Hp → VK → Prop := fun x ys H Q => ∃ (l : Addr) (xs : List Str) (z : Str), x = .ref l ∧ ys = [.str z] ∧ H l = some (.lst (svs xs)) ∧ z ∈ xs ∧ Q .non (upd H l (.lst (svs (xs.erase z))))
theorem mt_removeS : MtM X "list.remove" rRemS := by
  intro pins sh σ H x ys v us Q Iv rx rxs h
  obtain ⟨l, xs, z, rfl, rfl, hH, hz, q⟩ := h
  cases rx
  obtain ⟨u, rfl, ru⟩ := rxs.one
  obtain ⟨t, rfl⟩ := ru
  obtain ⟨hsz, its, n, r, hl, ee⟩ := Iv.lstM hH
  rw [List.length_map] at hl hsz
  have at_ : ∀ (m : Nat) (hm : m < its.length), ∃ t', its[m] = .str (xs[m]'(by omega)) t' := fun m hm => by
    have eA : (svs xs)[m]? = some (.str (xs[m]'(by omega))) := by rw [List.getElem?_map, List.getElem?_eq_getElem (by omega : m < xs.length)]; rfl
    obtain ⟨u, hu, ru⟩ := r.get eA
    obtain ⟨t', rfl⟩ := ru
    rw [List.getElem?_eq_getElem hm] at hu
    exact ⟨t', Option.some.inj hu⟩
  have hj : xs.idxOf z < xs.length := List.idxOf_lt_length_of_mem hz
  have hj' : xs.idxOf z < its.length := by omega
  refine call_meets PySem.F.slot_list_remove ⟨_, ee, rfl⟩ PySem.F.entry_list_remove (PySem.F.args_list_remove_2 _ _)
    (MeetsSeq.list_remove l its.toArray n (.str z t) (isTxt z) (fun y hy => isTxt_gives r y (by simpa using hy)) (xs.idxOf z) (by simpa using hj') ?_ ?_ (by rw [List.size_toArray]; omega)) ⟨ee, ?_⟩
  · obtain ⟨t', eA⟩ := at_ _ hj'
    have eB : its.toArray[xs.idxOf z]'(by simpa using hj') = .str (xs[xs.idxOf z]) t' := by simpa using eA
    rw [eB]
    exact decide_eq_true (List.getElem_idxOf hj)
  · intro m hm hmj
    have hm' : m < its.length := by simpa using hm
    obtain ⟨t', eA⟩ := at_ _ hm'
    have eB : its.toArray[m] = .str (xs[m]'(by omega)) t' := by simpa using eA
    rw [eB]
    refine decide_eq_false fun e3 => ?_
    have := List.not_of_lt_findIdx (p := (· == z)) (xs := xs) (show m < xs.findIdx (· == z) from hmj)
    simp [e3] at this
  · have rr := r.eraseIdx (xs.idxOf z)
    rw [map_eraseIdx, ← erase_idx xs z hz] at rr
    refine ⟨.non, _, Iv.lset (its' := its.eraseIdx (xs.idxOf z)) (t' := sh.toks) hH ee ?_ rr ?_, rfl, q⟩
    · show its.toArray.eraseIdxIfInBounds (xs.idxOf z) = _
      rw [List.eraseIdxIfInBounds_toArray]
    · have h1 := len_eraseIdx xs (xs.idxOf z)
      rw [List.length_map, erase_idx xs z hz]
      omega
end
end K56
set_option Elab.async false
set_option linter.all false
set_option maxRecDepth 100000
/-! Checks of people and pairs; the party. -/
namespace K56
open PySem PySem.Spec PyProof.Rows L2
section
variable {P : Program} {w : World} {K : PySem.W.Frag} {mg : Str → Option Value} {base : Heap}
/-! ### is_pair -/
def spIsPair (K : PySem.W.Frag) : Sp := fun vs H Q _ => ∃ (pa t : Addr) (ps : List Str) (a b : Str), vs = [.ref pa, .ref t] ∧ SqT K H pa (svs ps) ∧ H t = some (.tup [.str a, .str b]) ∧ a ∈ ps ∧ b ∈ ps ∧ ∀ H', Same H H' → Q (.bl (decide (a ≠ b))) H'
theorem sc18 : FnScope ["people", "value"] ["people", "value"] (defScope (top 18)) := ⟨rfl, rfl, rfl, by decide +kernel, rfl, by decide +kernel, by decide +kernel⟩
theorem ok_is_pair (D : Def K mg "is_pair" (top 18)) (g : Glo mg) (cD : Cal P w K mg base "are_different" ["people", "values"] 2 (spDiff K)) : Cal P w K mg base "is_pair" ["people", "value"] 3 (spIsPair K) := by
  refine D.cal sc18 (fun vs H Q E h => ?_) (fun _ _ _ _ _ _ us hl => match us, hl with | [_, _], _ => rfl) fun f cdv A outer s H vs Q E hr h => ?_
  · obtain ⟨pa, t, ps, a, b, rfl, _⟩ := h
    rfl
  obtain ⟨pa, t, ps, a, b, rfl, hp, ht, ha, hb, q⟩ := h
  refine ⟨_, pss_one (ps_ret (pe_and (pe_isi g.isi g.tup boot_tuple (pv 1)) (pe_and (pe_cmpR op_eq (pe_callB call_len_seq (by rfl) g.len PySem.boot_len (pa_cons (pv 1) pa_nil)) pe_int (nomark _)) (pe_one (pe_cal cD hr (by rfl) (pa_cons (pv 0) (pa_cons (pv 1) pa_nil))))))), ?_⟩
  refine ⟨_, rfl, _, _, _, rfl, .base (.tup ht), by decide +kernel, true, rfl, iteT ?_⟩
  refine ⟨_, rfl, t, _, rfl, .inr (tupT ht), rfl, true, rfl, iteT ?_⟩
  refine ⟨_, rfl, _, rfl, pa, t, ps, [a, b], rfl, hp, tupT ht, fun x hx => ?_, (by show 2 ≤ 1000; decide), fun H' sm => ?_⟩
  · rcases List.mem_cons.mp hx with e | hx
    · exact e ▸ ha
    · exact (List.mem_singleton.mp hx) ▸ hb
  · have e : decide ([a, b].Nodup) = decide (a ≠ b) := decide_eq_decide.mpr (by simp)
    rw [e]
    exact q H' sm
/-! ### check_people -/
structure PeopleOk (ps : List Str) : Prop where
  lo : 2 ≤ ps.length
  hi : ps.length ≤ 8
  nm : ∀ z ∈ ps, NameOk z
  nd : ps.Nodup
def spCheckPeople (K : PySem.W.Frag) : Sp := fun vs H Q _ => ∃ (pa : Addr) (ps : List Str), vs = [.ref pa] ∧ H pa = some (.tup (svs ps)) ∧ PeopleOk ps ∧ ∀ H', Same H H' → Q .non H'
theorem sc19 : FnScope ["people", "index", "person"] ["people"] (defScope (top 19)) := ⟨rfl, rfl, rfl, by decide +kernel, rfl, by decide +kernel, by decide +kernel⟩
theorem ok_check_people (D : Def K mg "check_people" (top 19)) (g : Glo mg) (gM : ∃ t, mg "MOST_PEOPLE" = some (.int 24 t)) (cN : Cal P w K mg base "is_name" ["value"] 1 spIsName) : Cal P w K mg base "check_people" ["people"] 2 (spCheckPeople K) := by
  obtain ⟨tM, gM⟩ := gM
  refine D.cal sc19 (fun vs H Q E h => ?_) (fun _ _ _ _ _ _ us hl => match us, hl with | [_], _ => rfl) fun f cdv A outer s H vs Q E hr h => ?_
  · obtain ⟨pa, ps, rfl, _⟩ := h
    rfl
  obtain ⟨pa, ps, rfl, hp, ok, q⟩ := h
  refine ⟨_, pss_cons (ps_if (PW.pt (pw_or (pt_not (pt_val (pe_isi g.isi g.tup boot_tuple (pv 0)))) (pw_or1 (pt_not (pt_chain op_le op_le pe_int (pe_callB call_len_seq (by rfl) g.len PySem.boot_len (pa_cons (pv 0) pa_nil)) (pe_glob (v := .int 24) rfl gM ⟨_, rfl⟩)))))) pss_never pss_nil)
    (pss_one (ps_for PassesOwn.never rfl (pi_enumT (by rfl) g.enu (pa_cons (pv 0) pa_nil)) (pg_tup rfl (pgs_cons (pg_name (i := 1) sc19.nd rfl (.inl rfl)) (pgs_cons (pg_name (i := 2) sc19.nd rfl (.inl rfl)) pgs_nil)))
      (pss_one (ps_if (PW.pt (pw_or (pt_not (pt_val (pe_cal cN hr (by rfl) (pa_cons (pv 2) pa_nil)))) (pw_or1 (pt_cmpR op_in_seq (pv 2) (pe_slice sl_tup (pv 0) po_none (po_some (pv 1))) (by rfl))))) pss_never pss_nil)))), ?_⟩
  have h1 : (2 : Int) ≤ (svs ps).length := by rw [List.length_map]; have := ok.lo; omega
  have h2 : ((svs ps).length : Int) ≤ 24 := by rw [List.length_map]; have := ok.hi; omega
  have hv : SqT K H pa (svs ps) := tupT hp
  refine ⟨_, rfl, _, _, _, rfl, .base (.tup hp), by decide +kernel, true, rfl, iteF ?_⟩
  refine ⟨_, rfl, pa, svs ps, rfl, .inr hv, 2, _, rfl, rfl, true, congrArg V.bl (decide_eq_true h1), iteT ⟨_, 24, rfl, rfl, true, congrArg V.bl (decide_eq_true h2), iteF ?_⟩⟩
  refine ⟨_, rfl, pa, svs ps, rfl, hv, for_it walk_enumT (fun i σ H' => ∃ y2 y3, σ = [some (.ref pa), y2, y3] ∧ Same H H') ⟨none, none, rfl, Same.refl _⟩ (fun _ _ _ _ ⟨_, _, _, sm⟩ => smT sm hv) ?_ ?_⟩
  · rintro i x σ H1 H2 hi ⟨y2, y3, rfl, sm⟩ ⟨T, a, b, rfl, nT, rfl, ea, eb⟩
    rw [List.length_map] at hi
    cases ea
    obtain ⟨z, hz, rfl⟩ := svs_get eb
    have sm2 : Same H (upd H1 T (.tup [.int (i : Nat), .str z])) := smN sm nT
    refine ⟨T, _, rfl, tupT upd_same, rfl, _, _, rfl, _, _, rfl, rfl, ?_⟩
    refine ⟨_, rfl, z, rfl, ok.nm z (List.mem_of_getElem? hz), true, rfl, iteF ?_⟩
    refine ⟨_, rfl, _, rfl, _, rfl, i, rfl, pa, svs ps, rfl, smT sm2 hv, cut_short (by rw [List.length_map]; exact hi), fun p np => ?_⟩
    refine ⟨p, _, rfl, .inr (tupT upd_same), rfl, ?_, _, rfl, ?_⟩
    · rw [cut_svs _ _ (Nat.le_of_lt hi)]
      exact flat_svs _
    · show if inV (.str z) (cutV (svs ps) none (some (i : Int))) = true then _ else _
      rw [cut_svs _ _ (Nat.le_of_lt hi), inV_str]
      refine ite2 (fun e => ?_) (fun e => ?_)
      · exact absurd ok.nd (not_nd hz (of_decide_eq_true e))
      · exact ⟨_, _, rfl, smN sm2 np⟩
  · rintro σ H1 ⟨y2, y3, rfl, sm⟩
    exact q H1 sm
/-! ### check_pairs -/
/-- a row of pairs of people: where each tuple lies, and what it holds -/
abbrev Prs := List (Addr × Str × Str)
structure PrsAt (H : Hp) (ps : List Str) (rs : Prs) : Prop where
  at_ : ∀ r ∈ rs, H r.1 = some (.tup [.str r.2.1, .str r.2.2])
  ok : ∀ r ∈ rs, r.2.1 ∈ ps ∧ r.2.2 ∈ ps ∧ r.2.1 ≠ r.2.2
  few : rs.length ≤ 600
theorem PrsAt.same {H H' : Hp} {ps : List Str} {rs : Prs} (x : PrsAt H ps rs) (s : Same H H') : PrsAt H' ps rs := ⟨fun r hr => s _ _ (x.at_ r hr), x.ok, x.few⟩
def spCheckPairs (K : PySem.W.Frag) : Sp := fun vs H Q _ => ∃ (pa qa : Addr) (ps : List Str) (rs : Prs), vs = [.ref pa, .ref qa] ∧ SqT K H pa (svs ps) ∧ H qa = some (.lst (rs.map fun r => V.ref r.1)) ∧ PrsAt H ps rs ∧ ∀ H', Same H H' → Q .non H'
theorem sc20 : FnScope ["people", "pairs", "index", "pair"] ["people", "pairs"] (defScope (top 20)) := ⟨rfl, rfl, rfl, by decide +kernel, rfl, by decide +kernel, by decide +kernel⟩
theorem ok_check_pairs (D : Def K mg "check_pairs" (top 20)) (g : Glo mg) (gM : ∃ t, mg "MOST_BARRED" = some (.int 600 t)) (cP : Cal P w K mg base "is_pair" ["people", "value"] 3 (spIsPair K)) : Cal P w K mg base "check_pairs" ["people", "pairs"] 4 (spCheckPairs K) := by
  obtain ⟨tM, gM⟩ := gM
  refine D.cal sc20 (fun vs H Q E h => ?_) (fun _ _ _ _ _ _ us hl => match us, hl with | [_, _], _ => rfl) fun f cdv A outer s H vs Q E hr h => ?_
  · obtain ⟨pa, qa, ps, rs, rfl, _⟩ := h
    rfl
  obtain ⟨pa, qa, ps, rs, rfl, hp, hq, rsA, q⟩ := h
  refine ⟨_, pss_cons (ps_if (PW.pt (pw_or (pt_not (pt_val (pe_isi g.isi g.lst boot_list (pv 1)))) (pw_or1 (pt_cmpR op_gt (pe_callB call_len_seq (by rfl) g.len PySem.boot_len (pa_cons (pv 1) pa_nil)) (pe_glob (v := .int 600) rfl gM ⟨_, rfl⟩) (nomark _))))) pss_never pss_nil)
    (pss_one (ps_for PassesOwn.never rfl (pi_enum (by rfl) g.enu (pa_cons (pv 1) pa_nil)) (pg_tup rfl (pgs_cons (pg_name (i := 2) sc20.nd rfl (.inl rfl)) (pgs_cons (pg_name (i := 3) sc20.nd rfl (.inl rfl)) pgs_nil)))
      (pss_one (ps_if (pt_not (pt_val (pe_cal cP hr (by rfl) (pa_cons (pv 0) (pa_cons (pv 3) pa_nil))))) pss_never pss_nil)))), ?_⟩
  have h2 : ¬ (600 : Int) < (rs.map fun r => V.ref r.1).length := by rw [List.length_map]; have := rsA.few; omega
  have hv : SqL K H qa (rs.map fun r => V.ref r.1) := lstL hq
  refine ⟨_, rfl, _, _, _, rfl, .base (.lst hq), by decide +kernel, true, rfl, iteF ?_⟩
  refine ⟨_, rfl, qa, _, rfl, .inl hv, _, 600, rfl, rfl, false, congrArg V.bl (decide_eq_false h2), iteF ?_⟩
  refine ⟨_, rfl, qa, _, rfl, hv, for_it walk_enum (fun i σ H' => ∃ y2 y3, σ = [some (.ref pa), some (.ref qa), y2, y3] ∧ Same H H') ⟨none, none, rfl, Same.refl _⟩ (fun _ _ _ _ ⟨_, _, _, sm⟩ => smL sm hv) ?_ ?_⟩
  · rintro i x σ H1 H2 hi ⟨y2, y3, rfl, sm⟩ ⟨T, a, b, rfl, nT, rfl, ea, eb⟩
    rw [List.length_map] at hi
    cases ea
    have eb : (rs.map fun r => V.ref r.1)[i]? = some b := eb
    rw [List.getElem?_map, List.getElem?_eq_getElem hi] at eb
    cases eb
    have hm : rs[i] ∈ rs := List.getElem_mem hi
    have sm2 : Same H (upd H1 T (.tup [.int (i : Nat), .ref rs[i].1])) := smN sm nT
    obtain ⟨o1, o2, o3⟩ := rsA.ok _ hm
    refine ⟨T, _, rfl, tupT upd_same, rfl, _, _, rfl, _, _, rfl, rfl, ?_⟩
    refine ⟨_, rfl, _, rfl, pa, _, ps, rs[i].2.1, rs[i].2.2, rfl, smT sm2 hp, sm2 _ _ (rsA.at_ _ hm), o1, o2, fun H' sm3 => ⟨true, congrArg V.bl (decide_eq_true o3), iteF ?_⟩⟩
    exact ⟨_, _, rfl, sm2.trans sm3⟩
  · rintro σ H1 ⟨y2, y3, rfl, sm⟩
    exact q H1 sm
/-! ### check_name -/
def spCheckName (K : PySem.W.Frag) : Sp := fun vs H Q _ => ∃ (pa : Addr) (ps : List Str) (z : Str), vs = [.ref pa, .str z] ∧ SqT K H pa (svs ps) ∧ z ∈ ps ∧ Q .non H
theorem sc21 : FnScope ["people", "value"] ["people", "value"] (defScope (top 21)) := ⟨rfl, rfl, rfl, by decide +kernel, rfl, by decide +kernel, by decide +kernel⟩
theorem ok_check_name (D : Def K mg "check_name" (top 21)) (cP : Cal P w K mg base "is_person" ["people", "value"] 1 (spIsPerson K)) : Cal P w K mg base "check_name" ["people", "value"] 2 (spCheckName K) := by
  refine D.cal sc21 (fun vs H Q E h => ?_) (fun _ _ _ _ _ _ us hl => match us, hl with | [_, _], _ => rfl) fun f cdv A outer s H vs Q E hr h => ?_
  · obtain ⟨pa, ps, z, rfl, _⟩ := h
    rfl
  obtain ⟨pa, ps, z, rfl, hp, hz, q⟩ := h
  refine ⟨_, pss_one (ps_if (pt_not (pt_val (pe_cal cP hr (by rfl) (pa_cons (pv 0) (pa_cons (pv 1) pa_nil))))) pss_never pss_nil), ?_⟩
  exact ⟨_, rfl, _, rfl, pa, ps, z, rfl, hp, true, congrArg V.bl (decide_eq_true hz), iteF q⟩
end
end K56
set_option Elab.async false
set_option linter.all false
set_option maxRecDepth 100000
/-! A comprehension that keeps some of a row of texts. -/
namespace K56
open PySem PySem.Spec PyProof.Rows L2
theorem wipe_set1 {σ : L2.St} {v : Nat} {x : Option V} : wipe ((wipe σ [v]).set v x) [v] = wipe σ [v] := by
  show ((σ.set v none).set v x).set v none = σ.set v none
  rw [List.set_set, List.set_set]
theorem filter_take {α : Type} {p : α → Bool} {xs : List α} {i : Nat} {x : α} (h : xs[i]? = some x) : (xs.take (i + 1)).filter p = (xs.take i).filter p ++ (if p x = true then [x] else []) := by
  rw [List.take_add_one, h, List.filter_append]
  congr 1
  by_cases e : p x = true <;> simp [e]
theorem same_upd {H H1 : Hp} {D : Addr} {o : HO} (s : Same H H1) (h : H D = none) : Same H (upd H1 D o) := fun b x e => by
  rw [upd_ne (ne_of_none e h)]
  exact s b x e
/-- [x for x in xs if p x] -/
theorem lc_filter {J : It} {xs : List Str} {G : Hp → Prop} {Y : Nat → Hp → V → Hp → Prop} (w : Walk J xs.length G Y) {H1 : Hp} {D : Addr} {tt : TT} {v : Nat} {σ : L2.St} {Qd : Hp → Prop} (p : Str → Bool) (hD : H1 D = none) (hv : v < σ.length) (hz : xs.length ≤ 1000)
    (hY : ∀ i H x H', i < xs.length → Y i H x H' → H' = H ∧ ∃ z, xs[i]? = some z ∧ x = .str z) (hG : ∀ H, Same H1 H → G H)
    (ht : ∀ z ∈ xs, ∀ H, Same H1 H → ∀ Q : Bool → Hp → Prop, (∀ H', Same H H' → Q (p z) H') → tt ((σ.set v none).set v (some (.str z))) H Q)
    (hd : ∀ H, Same H1 H → H D = some (.lst (svs (xs.filter p))) → Qd H) :
    ∃ W : Nat → Nat → Hp → Prop, (∃ fuel, W 0 fuel (upd H1 D (.lst []))) ∧ ∀ i fuel H, W i fuel H →
      (J.stop i H ∧ Qd H) ∨ (J.go i H ∧ ∃ Nx : Hp → Prop, (∀ H', Nx H' → ∃ m', m' < fuel ∧ W (i + 1) m' H') ∧ ∀ x H', J.yld i H x H' → gName v x (wipe σ [v]) H' fun σ2 H2 => wipe σ2 [v] = wipe σ [v] ∧ tt σ2 H2 fun b H3 =>
        if b = true then tVar v σ2 H3 fun y H4 => ∃ acc, H4 D = some (.lst acc) ∧ acc.length < sizeLine ∧ Nx (upd H4 D (.lst (acc ++ [y]))) else Nx H3) := by
  refine lc_it w (fun i H => Same H1 H ∧ H D = some (.lst (svs ((xs.take i).filter p)))) ⟨same_new hD, upd_same⟩ (fun i H _ h => hG H h.1) ?_ ?_
  · rintro i x H H' hi ⟨sm, eD⟩ hy
    obtain ⟨rfl, z, hz', rfl⟩ := hY i H x H' hi hy
    refine ⟨wipe_set1, ht z (List.mem_of_getElem? hz') _ sm _ fun H'' s2 => ?_⟩
    have eD2 := s2 _ _ eD
    have sm2 : Same H1 H'' := sm.trans s2
    cases e : p z with
    | false =>
      refine iteF ⟨sm2, ?_⟩
      rw [filter_take hz', e, eD2]
      simp
    | true =>
      refine iteT ⟨.str z, ?_, _, eD2, ?_, same_upd sm2 hD, ?_⟩
      · show (((σ.set v none).set v (some (.str z))) : L2.St)[v]? = _
        rw [List.getElem?_set_self (by rw [List.length_set]; exact hv)]
      · rw [List.length_map]
        have := List.length_filter_le p (xs.take i)
        rw [List.length_take] at this
        exact small1000 (by omega)
      · rw [upd_same, filter_take hz', e]
        simp
  · rintro H ⟨sm, eD⟩
    rw [List.take_length] at eD
    exact hd H sm eD
theorem yat_svs {xs : List Str} : ∀ i H x H', i < xs.length → YAt (svs xs) i H x H' → H' = H ∧ ∃ z, xs[i]? = some z ∧ x = .str z := fun i H x H' _ y => ⟨y.1, svs_get y.2⟩
theorem walk_tupS {K : PySem.W.Frag} {a : Addr} {xs : List Str} : Walk (Itt K a) xs.length (fun H => SqT K H a (svs xs)) (YAt (svs xs)) := by
  have := walk_tup (K := K) (a := a) (xs := svs xs)
  rw [List.length_map] at this
  exact this
theorem walk_listS {K : PySem.W.Frag} {a : Addr} {xs : List Str} : Walk (Itl K a) xs.length (fun H => SqL K H a (svs xs)) (YAt (svs xs)) := by
  have := walk_list (K := K) (a := a) (xs := svs xs)
  rw [List.length_map] at this
  exact this
end K56
set_option Elab.async false
set_option linter.all false
set_option maxRecDepth 100000
/-! The party. -/
namespace K56
open PySem PySem.Spec PyProof.Rows L2
/-! ### data -/
theorem kcp : ¬ (("_people" : Str) = "_closed") := by decide +kernel
def pflds (pa d : Addr) : List (Str × V) := putF "_closed" (.ref d) (putF "_people" (.ref pa) [])
theorem pflds_people (pa d : Addr) : (pflds pa d).lookup ("_people" : Str) = some (.ref pa) := by
  unfold pflds
  rw [lookup_putF, if_neg kcp, lookup_putF, if_pos rfl]
theorem pflds_closed (pa d : Addr) : (pflds pa d).lookup ("_closed" : Str) = some (.ref d) := by
  unfold pflds
  rw [lookup_putF, if_pos rfl]
/-- a party stands at p: its people, its barred pairs -/
structure PartyAt (C : Addr) (H : Hp) (p : Addr) (ps : List Str) (bs : List (Str × Str)) : Prop where
  ob : ∃ dx pa d kvs, H p = some (.ins C dx (pflds pa d)) ∧ H pa = some (.tup (svs ps)) ∧ H d = some (.dT kvs) ∧ ∀ a b : Str, (valV kvs [Sum.inr a, Sum.inr b]).isSome = true ↔ (a, b) ∈ bs
theorem PartyAt.same {C : Addr} {H H' : Hp} {p : Addr} {ps : List Str} {bs : List (Str × Str)} (x : PartyAt C H p ps bs) (s : Same H H') : PartyAt C H' p ps bs := by
  obtain ⟨dx, pa, d, kvs, h1, h2, h3, h4⟩ := x.ob
  exact ⟨dx, pa, d, kvs, s _ _ h1, s _ _ h2, s _ _ h3, h4⟩
/-- a may give to b -/
def okp (bs : List (Str × Str)) (a b : Str) : Bool := decide (a ≠ b) && !decide ((a, b) ∈ bs)
/-- the class as the top has made it -/
structure PTxt (K : PySem.W.Frag) (mg : Str → Option Value) (C : Addr) : Prop where
  cl : Cls K C
  nP : NoAttr K C "_people"
  nC : NoAttr K C "_closed"
  mgC : mg "Party" = some (.ref C)
section
variable {P : Program} {w : World} {K : PySem.W.Frag} {mg : Str → Option Value} {base : Heap} {C : Addr}
/-! ### __init__ -/
def spInit (C : Addr) : Sp := fun vs H Q _ => ∃ (p dx pa qa : Addr) (ps : List Str) (rs : Prs), vs = [.ref p, .ref pa, .ref qa] ∧ H p = some (.ins C dx []) ∧ H pa = some (.tup (svs ps)) ∧ PeopleOk ps ∧ H qa = some (.lst (rs.map fun r => V.ref r.1)) ∧ PrsAt H ps rs ∧
  ∀ H', PartyAt C H' p ps (rs.map (·.2)) → (∀ b o, H b = some o → b ≠ p → H' b = some o) → Q .non H'
theorem scPI : FnScope ["self", "people", "barred", "pair"] ["self", "people", "barred"] (defScope (pm 0)) := ⟨rfl, rfl, rfl, by decide +kernel, rfl, by decide +kernel, by decide +kernel⟩
theorem inr2 {a b x y : Str} : ([Sum.inr a, Sum.inr b] : List Key) = [Sum.inr x, Sum.inr y] ↔ (a = x ∧ b = y) := by
  constructor
  · intro h
    injection h with h1 h2
    injection h2 with h3 _
    exact ⟨Sum.inr.inj h1, Sum.inr.inj h3⟩
  · rintro ⟨rfl, rfl⟩
    rfl
theorem ok_pinit (D : MDef K C "__init__" "Party.__init__" (pm 0)) (T : PTxt K mg C) (c1 : Cal P w K mg base "check_people" ["people"] 2 (spCheckPeople K)) (c2 : Cal P w K mg base "check_pairs" ["people", "pairs"] 4 (spCheckPairs K)) :
    MCal P w K mg base C "__init__" ["self", "people", "barred"] 5 (spInit C) := by
  refine D.cal scPI (fun vs H Q E h => ?_) (fun _ _ _ _ _ _ us hl => match us, hl with | [_, _, _], _ => rfl) fun f cdv A outer s H vs Q E hr h => ?_
  · obtain ⟨p, dx, pa, qa, ps, rs, rfl, _⟩ := h
    rfl
  obtain ⟨p, dx, pa, qa, ps, rs, rfl, hp, hpa, ok, hqa, rsA, q⟩ := h
  refine ⟨_, pss_cons (ps_expr (pe_cal c1 (hr.mono (by decide)) (by rfl) (pa_cons (pv 1) pa_nil)))
    (pss_cons (ps_expr (pe_cal c2 hr (by rfl) (pa_cons (pv 1) (pa_cons (pv 2) pa_nil))))
    (pss_cons (ps_fld (pv 0) (pv 1) rfl)
    (pss_one (ps_fld (pv 0) (pe_trues rfl (hu_of hr) rfl (by decide +kernel) (by decide +kernel) rfl (by decide +kernel) (pv 2)) rfl)))), ?_⟩
  refine ⟨_, rfl, pa, ps, rfl, hpa, ok, fun H1 s1 => ?_⟩
  refine ⟨_, rfl, _, rfl, pa, qa, ps, rs, rfl, tupT (s1 _ _ hpa), s1 _ _ hqa, rsA.same s1, fun H2 s2 => ?_⟩
  have s02 : Same H H2 := s1.trans s2
  have hp2 := s02 _ _ hp
  refine ⟨_, rfl, _, rfl, p, C, dx, [], rfl, hp2, T.cl, T.nP, (by show 0 < 1000; decide), ?_⟩
  have nqa : qa ≠ p := ne_of hqa hp (by intro z; cases z)
  refine ⟨_, rfl, qa, rs.map fun r => (r.1, ([Sum.inr r.2.1, Sum.inr r.2.2] : List Key)), rfl, ?_, ?_, ?_, fun D nD => ?_⟩
  · rw [upd_ne nqa, List.map_map]
    exact s02 _ _ hqa
  · intro t ht
    obtain ⟨r, hr', rfl⟩ := List.mem_map.mp ht
    have e := rsA.at_ r hr'
    rw [upd_ne (ne_of e hp (by intro z; cases z))]
    exact s02 _ _ e
  · rw [List.length_map]
    have := rsA.few
    omega
  have nDp : D ≠ p := fun z => by
    rw [z, upd_same] at nD
    cases nD
  have nD2 : H2 D = none := by
    rw [upd_ne nDp] at nD
    exact nD
  refine ⟨_, rfl, p, C, dx, _, rfl, (by rw [upd_ne nDp.symm, upd_same]), T.cl, T.nC, (by show 1 < 1000; decide), ?_⟩
  refine q _ ⟨dx, pa, D, trues ((rs.map fun r => (r.1, ([Sum.inr r.2.1, Sum.inr r.2.2] : List Key))).map (·.2)), upd_same, ?_, ?_, fun a b => ?_⟩ fun b o e hb => ?_
  · have e := s02 _ _ hpa
    rw [upd_ne (ne_of hpa hp (by intro z; cases z)), upd_ne (ne_of_none e nD2), upd_ne (ne_of hpa hp (by intro z; cases z))]
    exact e
  · rw [upd_ne nDp, upd_same]
  · rw [trues_val, List.map_map, List.mem_map, List.mem_map]
    constructor
    · rintro ⟨r, hr', e⟩
      obtain ⟨e1, e2⟩ := inr2.mp e
      exact ⟨r, hr', by rw [← e1, ← e2]⟩
    · rintro ⟨r, hr', e⟩
      refine ⟨r, hr', ?_⟩
      show [Sum.inr r.2.1, Sum.inr r.2.2] = _
      rw [e]
  · have e2 := s02 _ _ e
    rw [upd_ne hb, upd_ne (ne_of_none e2 nD2), upd_ne hb]
    exact e2
/-! ### people -/
def spPeople (C : Addr) : Sp := fun vs H Q _ => ∃ (p : Addr) (ps : List Str) (bs : List (Str × Str)), vs = [.ref p] ∧ PartyAt C H p ps bs ∧ ∀ pa, H pa = some (.tup (svs ps)) → Q (.ref pa) H
theorem scPP : FnScope ["self"] ["self"] (defScope (pm 1)) := ⟨rfl, rfl, rfl, by decide +kernel, rfl, by decide +kernel, by decide +kernel⟩
theorem ok_people (D : MDef K C "people" "Party.people" (pm 1)) (T : PTxt K mg C) : MCal P w K mg base C "people" ["self"] 1 (spPeople C) := by
  refine D.cal scPP (fun vs H Q E h => ?_) (fun _ _ _ _ _ _ us hl => match us, hl with | [_], _ => rfl) fun f cdv A outer s H vs Q E hr h => ?_
  · obtain ⟨p, ps, bs, rfl, _⟩ := h
    rfl
  obtain ⟨p, ps, bs, rfl, pt, q⟩ := h
  obtain ⟨dx, pa, d, kvs, h1, h2, h3, h4⟩ := pt.ob
  exact ⟨_, pss_one (ps_ret (pe_fld (pv 0) rfl)), _, rfl, p, C, dx, _, _, rfl, h1, T.cl, T.nP, pflds_people _ _, q pa h2⟩
/-! ### __len__ -/
def spLen (C : Addr) : Sp := fun vs H Q _ => ∃ (p : Addr) (ps : List Str) (bs : List (Str × Str)), vs = [.ref p] ∧ PartyAt C H p ps bs ∧ Q (.int ps.length) H
theorem scPL : FnScope ["self"] ["self"] (defScope (pm 8)) := ⟨rfl, rfl, rfl, by decide +kernel, rfl, by decide +kernel, by decide +kernel⟩
theorem ok_plen (D : MDef K C "__len__" "Party.__len__" (pm 8)) (T : PTxt K mg C) (g : Glo mg) : MCal P w K mg base C "__len__" ["self"] 1 (spLen C) := by
  refine D.cal scPL (fun vs H Q E h => ?_) (fun _ _ _ _ _ _ us hl => match us, hl with | [_], _ => rfl) fun f cdv A outer s H vs Q E hr h => ?_
  · obtain ⟨p, ps, bs, rfl, _⟩ := h
    rfl
  obtain ⟨p, ps, bs, rfl, pt, q⟩ := h
  obtain ⟨dx, pa, d, kvs, h1, h2, h3, h4⟩ := pt.ob
  refine ⟨_, pss_one (ps_ret (pe_callB call_len_seq (by rfl) g.len PySem.boot_len (pa_cons (pe_fld (pv 0) rfl) pa_nil))), _, rfl, p, C, dx, _, _, rfl, h1, T.cl, T.nP, pflds_people _ _, pa, svs ps, rfl, .inr (tupT h2), ?_⟩
  rw [List.length_map]
  exact q
/-! ### __contains__ -/
def spHas (C : Addr) : Sp := fun vs H Q _ => ∃ (p t : Addr) (ps : List Str) (bs : List (Str × Str)) (a b : Str), vs = [.ref p, .ref t] ∧ PartyAt C H p ps bs ∧ H t = some (.tup [.str a, .str b]) ∧ a ∈ ps ∧ b ∈ ps ∧ ∀ H', Same H H' → Q (.bl (okp bs a b)) H'
theorem scPC : FnScope ["self", "pair"] ["self", "pair"] (defScope (pm 7)) := ⟨rfl, rfl, rfl, by decide +kernel, rfl, by decide +kernel, by decide +kernel⟩
theorem ok_has (D : MDef K C "__contains__" "Party.__contains__" (pm 7)) (T : PTxt K mg C) (cP : Cal P w K mg base "is_pair" ["people", "value"] 3 (spIsPair K)) : MCal P w K mg base C "__contains__" ["self", "pair"] 4 (spHas C) := by
  refine D.cal scPC (fun vs H Q E h => ?_) (fun _ _ _ _ _ _ us hl => match us, hl with | [_, _], _ => rfl) fun f cdv A outer s H vs Q E hr h => ?_
  · obtain ⟨p, t, ps, bs, a, b, rfl, _⟩ := h
    rfl
  obtain ⟨p, t, ps, bs, a, b, rfl, pt, ht, ha, hb, q⟩ := h
  obtain ⟨dx, pa, d, kvs, h1, h2, h3, h4⟩ := pt.ob
  refine ⟨_, pss_one (ps_ret (pe_and (pe_cal cP hr (by rfl) (pa_cons (pe_fld (pv 0) rfl) (pa_cons (pv 1) pa_nil))) (pe_one (pe_cmp (pc_dnotin (hu_of hr) (pv 1) (pe_fld (pv 0) rfl)) rfl)))), ?_⟩
  refine ⟨_, rfl, p, C, dx, _, _, rfl, h1, T.cl, T.nP, pflds_people _ _, _, rfl, pa, t, ps, a, b, rfl, tupT h2, ht, ha, hb, fun H1 sm => ⟨_, rfl, ?_⟩⟩
  refine ite2 (fun e => ?_) (fun e => ?_)
  · have ne : a ≠ b := of_decide_eq_true e
    refine ⟨_, rfl, _, rfl, p, C, dx, _, _, rfl, sm _ _ h1, T.cl, T.nC, pflds_closed _ _, d, _, rfl, DGet.t (k := [Sum.inr a, Sum.inr b]) (sm _ _ h3) (sm _ _ ht), ?_⟩
    have e2 : (!(valV kvs [Sum.inr a, Sum.inr b]).isSome) = okp bs a b := by
      unfold okp
      rw [decide_eq_true ne]
      by_cases m : (a, b) ∈ bs
      · rw [(h4 a b).mpr m, decide_eq_true m]
        rfl
      · cases z : (valV kvs [Sum.inr a, Sum.inr b]).isSome with
        | true => exact absurd ((h4 a b).mp z) m
        | false =>
          rw [decide_eq_false m]
          rfl
    rw [e2]
    exact q H1 sm
  · have e2 : okp bs a b = false := by
      unfold okp
      cases z : decide (a ≠ b) with
      | true => exact absurd z e
      | false => rfl
    have := q H1 sm
    rw [e2] at this
    exact this
/-! ### may -/
def spMay (C : Addr) : Sp := fun vs H Q _ => ∃ (p : Addr) (ps : List Str) (bs : List (Str × Str)) (z : Str), vs = [.ref p, .str z] ∧ PartyAt C H p ps bs ∧ z ∈ ps ∧ ps.length ≤ 8 ∧ ∀ H' l ys, Same H H' → H l = none → H' l = some (.lst (svs ys)) → ys.Perm (ps.filter (okp bs z)) → Q (.ref l) H'
theorem scPM : FnScope ["self", "giver", "taker"] ["self", "giver"] (defScope (pm 3)) := ⟨rfl, rfl, rfl, by decide +kernel, rfl, by decide +kernel, by decide +kernel⟩
theorem ok_may (D : MDef K C "may" "Party.may" (pm 3)) (T : PTxt K mg C) (g : Glo mg) (cN : Cal P w K mg base "check_name" ["people", "value"] 2 (spCheckName K)) (cC : MCal P w K mg base C "__contains__" ["self", "pair"] 4 (spHas C)) : MCal P w K mg base C "may" ["self", "giver"] 6 (spMay C) := by
  refine D.cal scPM (fun vs H Q E h => ?_) (fun _ _ _ _ _ _ us hl => match us, hl with | [_, _], _ => rfl) fun f cdv A outer s H vs Q E hr h => ?_
  · obtain ⟨p, ps, bs, z, rfl, _⟩ := h
    rfl
  obtain ⟨p, ps, bs, z, rfl, pt, hz, h8, q⟩ := h
  obtain ⟨dx, pa, d, kvs, h1, h2, h3, h4⟩ := pt.ob
  refine ⟨_, pss_cons (ps_expr (pe_cal cN (hr.mono (by decide)) (by rfl) (pa_cons (pe_fld (pv 0) rfl) (pa_cons (pv 1) pa_nil))))
    (pss_one (ps_ret (pe_callB cr_sortedS (by rfl) g.srt boot_sorted (pa_cons (pe_lc (own := [("taker", 2)]) (g := gName 2) rfl scPM.nd (pi_tup (pe_fld (pv 0) rfl)) (blkOk_by (own := [("taker", 2)]) (N := ["self", "giver", "taker"]) (sc := defScope (pm 3)) (by decide +kernel)) (fun _ _ _ _ _ => pg_name (i := 2) scPM.nd rfl (.inl rfl))
      (fun _ _ _ _ _ => pts_one (pt_cmpR (op_in_own (X := Cx.blk _ _ _ _ _ _) cC hr) (pe_tup (pa_cons (pv 1) (pa_cons (pv 2) pa_nil))) (pv 0) (by rfl))) (fun _ _ _ _ _ => pv 2)) pa_nil)))), ?_⟩
  refine ⟨_, rfl, p, C, dx, _, _, rfl, h1, T.cl, T.nP, pflds_people _ _, _, rfl, pa, ps, z, rfl, tupT h2, hz, ?_⟩
  refine ⟨_, rfl, p, C, dx, _, _, rfl, h1, T.cl, T.nP, pflds_people _ _, pa, rfl, ⟨_, tupT h2⟩, fun D nD => ?_⟩
  refine lc_filter walk_tupS (okp bs z) nD (by show 2 < 3; decide) (by omega) yat_svs (fun H' sm => tupT (sm _ _ h2)) (fun y hy H' sm R hR => ?_) (fun H' sm eD => ?_)
  · refine ⟨_, rfl, _, rfl, (by show 2 ≤ sizeLine; decide), fun t nt => ?_⟩
    have s1 : Same H' (upd H' t (.tup [.str z, .str y])) := same_new nt
    refine ⟨_, rfl, p, dx, _, rfl, s1 _ _ (sm _ _ h1), p, t, ps, bs, z, y, rfl, pt.same (sm.trans s1), upd_same, hz, hy, fun H'' s2 => ⟨_, rfl, _, rfl, ?_⟩⟩
    have := hR H'' (s1.trans s2)
    cases e : okp bs z y <;> (rw [e] at this; exact this)
  · refine ⟨D, _, rfl, lstL eD, ?_, fun ys l pe _ nl => ?_⟩
    · have := List.length_filter_le (okp bs z) ps
      omega
    · exact q _ l ys (smN sm nl) (Same.free sm nl) upd_same pe
end
end K56
set_option Elab.async false
set_option linter.all false
set_option maxRecDepth 100000
/-! Dicts by people: of lists, of texts. -/
namespace K56
open PySem PySem.Spec PyProof.Rows L2 Gift
/-! ### what stands in them -/
def kvD (ps : List Str) (f : Str → V) : List (Key × V) := ps.map fun z => (Sum.inr z, f z)
abbrev kvA (ps : List Str) (ad : Str → Addr) : List (Key × V) := kvD ps fun z => .ref (ad z)
theorem valV_kvD {ps : List Str} {f : Str → V} {z : Str} (h : z ∈ ps) : valV (kvD ps f) (Sum.inr z) = some (f z) := by
  induction ps with
  | nil => cases h
  | cons y r ih =>
    by_cases e : y = z
    · subst e
      exact valV_pos (p := (Sum.inr y, f y)) rfl
    · show valV ((Sum.inr y, f y) :: kvD r f) _ = _
      rw [valV_neg (fun q => e (Sum.inr.inj q))]
      exact ih ((List.mem_cons.mp h).resolve_left fun q => e q.symm)
theorem valV_kvD_none {ps : List Str} {f : Str → V} {z : Str} (h : z ∉ ps) : valV (kvD ps f) (Sum.inr z) = none := by
  induction ps with
  | nil => rfl
  | cons y r ih =>
    have e : ¬ y = z := fun q => h (by rw [q]; exact List.mem_cons_self)
    show valV ((Sum.inr y, f y) :: kvD r f) _ = _
    rw [valV_neg (fun q => e (Sum.inr.inj q))]
    exact ih fun fuel => h (List.mem_cons_of_mem _ fuel)
theorem kvD_congr {ps : List Str} {f f' : Str → V} (h : ∀ z ∈ ps, f z = f' z) : kvD ps f = kvD ps f' := List.map_congr_left fun z hz => by rw [h z hz]
theorem kvD_get {ps : List Str} {f : Str → V} {i : Nat} {k : Key} {v : V} (h : (kvD ps f)[i]? = some (k, v)) : ∃ z, ps[i]? = some z ∧ k = Sum.inr z ∧ v = f z := by
  unfold kvD at h
  rw [List.getElem?_map] at h
  cases e : ps[i]? with
  | none => rw [e] at h; cases h
  | some z =>
    rw [e] at h
    cases h
    exact ⟨z, rfl, rfl, rfl⟩
theorem kvD_len (ps : List Str) (f : Str → V) : (kvD ps f).length = ps.length := List.length_map ..
theorem kvD_take {ps : List Str} {f : Str → V} {i : Nat} {z : Str} {v : V} (hn : ps.Nodup) (h : ps[i]? = some z) : putK (kvD (ps.take i) f) (Sum.inr z) v = kvD (ps.take (i + 1)) (fup f z v) := by
  have hz : z ∉ ps.take i := fun fuel => not_nd h fuel hn
  rw [putK_new _ (valV_kvD_none hz), List.take_add_one, h]
  unfold kvD
  rw [List.map_append]
  congr 1
  · refine List.map_congr_left fun y hy => ?_
    rw [fup_ne fun q => hz (by rw [← q]; exact hy)]
  · show [(Sum.inr z, v)] = [(Sum.inr z, fup f z v z)]
    rw [fup_same]
theorem dget_rd {H : Hp} {d : Addr} {tbl : List (Key × V)} {k : Key} (h : Rd H d (.dK tbl)) : DGet H d (kV k) (valV tbl k) := .inl ⟨tbl, k, h, rfl, rfl⟩
theorem dget_p {H : Hp} {d : Addr} {ps : List Str} {f : Str → V} {z : Str} (h : Rd H d (.dK (kvD ps f))) (hz : z ∈ ps) : DGet H d (.str z) (some (f z)) := .inl ⟨_, Sum.inr z, h, rfl, (valV_kvD hz).symm⟩
/-- the lists of a dict of lists -/
structure DL (H : Hp) (ps : List Str) (ad : Str → Addr) (R : Str → List Str) : Prop where
  ls : ∀ z ∈ ps, H (ad z) = some (.lst (svs (R z)))
  inj : ∀ y ∈ ps, ∀ z ∈ ps, ad y = ad z → y = z
theorem DL.same {H H' : Hp} {ps : List Str} {ad : Str → Addr} {R : Str → List Str} (x : DL H ps ad R) (s : Same H H') : DL H' ps ad R := ⟨fun z hz => s _ _ (x.ls z hz), x.inj⟩
/-- all that was tracked is as it was, but for the lists at ad -/
def SameBut (ps : List Str) (ad : Str → Addr) (H H' : Hp) : Prop := ∀ b o, H b = some o → (∀ z ∈ ps, b ≠ ad z) → H' b = some o
theorem Same.but {ps : List Str} {ad : Str → Addr} {H H' : Hp} (s : Same H H') : SameBut ps ad H H' := fun b o e _ => s b o e
theorem SameBut.trans {ps : List Str} {ad : Str → Addr} {H H1 H2 : Hp} (a : SameBut ps ad H H1) (b : SameBut ps ad H1 H2) : SameBut ps ad H H2 := fun c o e h => b c o (a c o e h) h
theorem DL.set {H : Hp} {ps : List Str} {ad : Str → Addr} {R : Str → List Str} (x : DL H ps ad R) {z : Str} (hz : z ∈ ps) (L : List Str) : DL (upd H (ad z) (.lst (svs L))) ps ad (fup R z L) ∧ SameBut ps ad H (upd H (ad z) (.lst (svs L))) := by
  refine ⟨⟨fun y hy => ?_, x.inj⟩, fun b o e h => ?_⟩
  · by_cases e : y = z
    · subst e
      rw [upd_same, fup_same]
    · rw [upd_ne fun q => e (x.inj y hy z hz q), fup_ne e]
      exact x.ls y hy
  · rw [upd_ne (h z hz)]
    exact e
/-! ### {z: [..] for z in ps} -/
/-- a dict comprehension over people whose values are new lists -/
theorem dc_lists {J : It} {ps : List Str} {G : Hp → Prop} {Y : Nat → Hp → V → Hp → Prop} (w : Walk J ps.length G Y) (hn : ps.Nodup) (hz : ps.length ≤ 1000) {H1 : Hp} {D : Addr} (hD : H1 D = none) {g : TG} {tk tv : TE} {vs : List Nat} {σ : L2.St} {Qd : Hp → Prop} (P : Str → List Str → Prop)
    (hG : ∀ H, Same H1 H → G H)
    (hs : ∀ i z x H H' (Kc : V → V → Hp → Prop), ps[i]? = some z → Same H1 H → Y i H x H' → (∀ H5 l ys, Same H H5 → H l = none → H5 l = some (.lst (svs ys)) → P z ys → Kc (.str z) (.ref l) H5) →
      g x (wipe σ vs) H' fun σ2 H2 => wipe σ2 vs = wipe σ vs ∧ tk σ2 H2 fun y H4 => tv σ2 H4 fun v H5 => Kc y v H5)
    (hd : ∀ H ad R, Same H1 H → H D = some (.dK (kvA ps ad)) → DL H ps ad R → (∀ z ∈ ps, H1 (ad z) = none ∧ ad z ≠ D) → (∀ z ∈ ps, P z (R z)) → Qd H) :
    ∃ W : Nat → Nat → Hp → Prop, (∃ fuel, W 0 fuel (upd H1 D (.dK []))) ∧ ∀ i fuel H, W i fuel H →
      (J.stop i H ∧ Qd H) ∨ (J.go i H ∧ ∃ Nx : Hp → Prop, (∀ H', Nx H' → ∃ m', m' < fuel ∧ W (i + 1) m' H') ∧ ∀ x H', J.yld i H x H' → g x (wipe σ vs) H' fun σ2 H2 => wipe σ2 vs = wipe σ vs ∧ tYes σ2 H2 fun b H3 =>
        if b = true then tk σ2 H3 fun y H4 => tv σ2 H4 fun z H5 => ∃ tbl k, y = kV k ∧ H5 D = some (.dK tbl) ∧ tbl.length < sizeLine ∧ Nx (upd H5 D (.dK (putK tbl k z))) else Nx H3) := by
  let Pv : Nat → Hp → Prop := fun i H => ∃ ad R, Same H1 H ∧ H D = some (.dK (kvA (ps.take i) ad)) ∧ DL H (ps.take i) ad R ∧ (∀ z ∈ ps.take i, H1 (ad z) = none ∧ ad z ≠ D) ∧ ∀ z ∈ ps.take i, P z (R z)
  refine ⟨fun i fuel H => fuel = ps.length - i ∧ i ≤ ps.length ∧ Pv i H, ⟨ps.length, rfl, Nat.zero_le _, fun _ => 0, fun _ => [], same_new hD, upd_same, ⟨fun z h => by simp at h, fun z h => by simp at h⟩, fun z h => by simp at h, fun z h => by simp at h⟩, ?_⟩
  rintro i fuel H ⟨rfl, hi, ad, R, sm, eD, dl, fr, pr⟩
  by_cases hlt : i < ps.length
  · refine .inr ⟨w.goes i H hlt (hG H sm), Pv (i + 1), fun H' p' => ⟨ps.length - (i + 1), by omega, rfl, hlt, p'⟩, fun x H' y => ?_⟩
    have hzi : ps[i]? = some ps[i] := List.getElem?_eq_getElem hlt
    refine hs i ps[i] x H H' (fun y v H5 => ∃ tbl k, y = kV k ∧ H5 D = some (.dK tbl) ∧ tbl.length < sizeLine ∧ Pv (i + 1) (upd H5 D (.dK (putK tbl k v)))) hzi sm (w.yields i H x H' hlt (hG H sm) y) fun H5 l ys s5 nl el py => ?_
    have eD5 := s5 _ _ eD
    refine ⟨_, Sum.inr ps[i], rfl, eD5, ?_, ?_⟩
    · rw [kvD_len, List.length_take]
      exact small1000 (by omega)
    have nlD : l ≠ D := fun q => by rw [q, eD] at nl; cases nl
    have hni : ps[i] ∉ ps.take i := fun fuel => not_nd hzi fuel hn
    have old : ∀ z ∈ ps.take i, z ≠ ps[i] := fun z hz e => hni (e ▸ hz)
    have cases_ : ∀ z ∈ ps.take (i + 1), z = ps[i] ∨ (z ≠ ps[i] ∧ z ∈ ps.take i) := fun z hz => by
      rw [List.take_add_one, hzi] at hz
      rcases List.mem_append.mp hz with h | h
      · exact .inr ⟨old z h, h⟩
      · exact .inl (by simpa using h)
    refine ⟨fup ad ps[i] l, fup R ps[i] ys, same_upd (sm.trans s5) hD, ?_, ⟨fun z hz => ?_, fun y hy z hz e => ?_⟩, fun z hz => ?_, fun z hz => ?_⟩
    · rw [upd_same]
      have e1 : kvA (ps.take i) ad = kvD (ps.take i) fun z => V.ref (ad z) := rfl
      rw [e1, kvD_take hn hzi]
      congr 2
      refine kvD_congr fun z _ => ?_
      by_cases e : z = ps[i]
      · rw [e, fup_same, fup_same]
      · rw [fup_ne e, fup_ne e]
    · rcases cases_ z hz with rfl | ⟨ne, hz⟩
      · rw [fup_same, fup_same, upd_ne nlD]
        exact el
      · rw [fup_ne ne, fup_ne ne, upd_ne (fr z hz).2]
        exact s5 _ _ (dl.ls z hz)
    · rcases cases_ y hy with rfl | ⟨ne, hy⟩
      · rcases cases_ z hz with rfl | ⟨nz, hz⟩
        · rfl
        · rw [fup_same, fup_ne nz] at e
          rw [e, dl.ls z hz] at nl
          cases nl
      · rcases cases_ z hz with rfl | ⟨nz, hz⟩
        · rw [fup_same, fup_ne ne] at e
          rw [← e, dl.ls y hy] at nl
          cases nl
        · rw [fup_ne ne, fup_ne nz] at e
          exact dl.inj y hy z hz e
    · rcases cases_ z hz with rfl | ⟨ne, hz⟩
      · rw [fup_same]
        exact ⟨sm.free nl, nlD⟩
      · rw [fup_ne ne]
        exact fr z hz
    · rcases cases_ z hz with rfl | ⟨ne, hz⟩
      · rw [fup_same]
        exact py
      · rw [fup_ne ne]
        exact pr z hz
  · have e : i = ps.length := by omega
    subst e
    rw [List.take_length] at eD dl fr pr
    exact .inl ⟨w.stops H (hG H sm), hd H ad R sm eD dl fr pr⟩
/-- a dict comprehension over people whose values are values -/
theorem dc_vals {J : It} {ps : List Str} {G : Hp → Prop} {Y : Nat → Hp → V → Hp → Prop} (w : Walk J ps.length G Y) (hn : ps.Nodup) (hz : ps.length ≤ 1000) {H1 : Hp} {D : Addr} (hD : H1 D = none) {g : TG} {tk tv : TE} {vs : List Nat} {σ : L2.St} {Qd : Hp → Prop} (f : Str → V)
    (hG : ∀ H, Same H1 H → G H)
    (hs : ∀ i z x H H' (Kc : V → V → Hp → Prop), ps[i]? = some z → Same H1 H → Y i H x H' → (∀ H5, Same H H5 → Kc (.str z) (f z) H5) →
      g x (wipe σ vs) H' fun σ2 H2 => wipe σ2 vs = wipe σ vs ∧ tk σ2 H2 fun y H4 => tv σ2 H4 fun v H5 => Kc y v H5)
    (hd : ∀ H, Same H1 H → H D = some (.dK (kvD ps f)) → Qd H) :
    ∃ W : Nat → Nat → Hp → Prop, (∃ fuel, W 0 fuel (upd H1 D (.dK []))) ∧ ∀ i fuel H, W i fuel H →
      (J.stop i H ∧ Qd H) ∨ (J.go i H ∧ ∃ Nx : Hp → Prop, (∀ H', Nx H' → ∃ m', m' < fuel ∧ W (i + 1) m' H') ∧ ∀ x H', J.yld i H x H' → g x (wipe σ vs) H' fun σ2 H2 => wipe σ2 vs = wipe σ vs ∧ tYes σ2 H2 fun b H3 =>
        if b = true then tk σ2 H3 fun y H4 => tv σ2 H4 fun z H5 => ∃ tbl k, y = kV k ∧ H5 D = some (.dK tbl) ∧ tbl.length < sizeLine ∧ Nx (upd H5 D (.dK (putK tbl k z))) else Nx H3) := by
  let Pv : Nat → Hp → Prop := fun i H => Same H1 H ∧ H D = some (.dK (kvD (ps.take i) f))
  refine ⟨fun i fuel H => fuel = ps.length - i ∧ i ≤ ps.length ∧ Pv i H, ⟨ps.length, rfl, Nat.zero_le _, same_new hD, upd_same⟩, ?_⟩
  rintro i fuel H ⟨rfl, hi, sm, eD⟩
  by_cases hlt : i < ps.length
  · refine .inr ⟨w.goes i H hlt (hG H sm), Pv (i + 1), fun H' p' => ⟨ps.length - (i + 1), by omega, rfl, hlt, p'⟩, fun x H' y => ?_⟩
    have hzi : ps[i]? = some ps[i] := List.getElem?_eq_getElem hlt
    refine hs i ps[i] x H H' (fun y v H5 => ∃ tbl k, y = kV k ∧ H5 D = some (.dK tbl) ∧ tbl.length < sizeLine ∧ Pv (i + 1) (upd H5 D (.dK (putK tbl k v)))) hzi sm (w.yields i H x H' hlt (hG H sm) y) fun H5 s5 => ?_
    refine ⟨_, Sum.inr ps[i], rfl, s5 _ _ eD, ?_, same_upd (sm.trans s5) hD, ?_⟩
    · rw [kvD_len, List.length_take]
      exact small1000 (by omega)
    · rw [upd_same, kvD_take hn hzi]
      congr 2
      refine kvD_congr fun z _ => ?_
      by_cases e : z = ps[i]
      · rw [e, fup_same]
      · rw [fup_ne e]
  · have e : i = ps.length := by omega
    subst e
    rw [List.take_length] at eD
    exact .inl ⟨w.stops H (hG H sm), hd H sm eD⟩
/-- the keys of a locked dict, one after another -/
theorem walk_kvD {d : Addr} {o : Obj} {ps : List Str} {f : Str → V} : Walk (Itk d o (kvD ps f)) ps.length (fun H => H d = some (.frz o (.dK (kvD ps f)))) (fun i H x H' => H' = H ∧ ∃ z, ps[i]? = some z ∧ x = .str z) := by
  have w := walk_keys (d := d) (o := o) (kvs := kvD ps f)
  rw [kvD_len] at w
  refine w.mono (fun _ h => h) fun i H x H' _ _ y => ?_
  obtain ⟨e, k, v, h1, h2⟩ := y
  obtain ⟨z, h3, h4, _⟩ := kvD_get h1
  subst h4
  exact ⟨e, z, h3, h2⟩
/-- its pairs, each a new tuple -/
theorem walk_kvI {d : Addr} {o : Obj} {ps : List Str} {f : Str → V} : Walk (Iti d o (kvD ps f)) ps.length (fun H => H d = some (.frz o (.dK (kvD ps f)))) (fun i H x H' => ∃ T z, x = .ref T ∧ H T = none ∧ H' = upd H T (.tup [.str z, f z]) ∧ ps[i]? = some z) := by
  refine ⟨fun i H hi h => ⟨h, by rw [kvD_len]; exact hi⟩, fun H h => ⟨h, by rw [kvD_len]; exact Nat.le_refl _⟩, fun i H x H' _ _ y => ?_⟩
  obtain ⟨T, k, v, h1, h2, h3, h4⟩ := y
  obtain ⟨z, h5, h6, h7⟩ := kvD_get h1
  subst h6 h7
  exact ⟨T, z, h2, h3, h4, h5⟩
end K56
set_option Elab.async false
set_option linter.all false
set_option maxRecDepth 100000
/-! Rows; no choice. -/
namespace K56
open PySem PySem.Spec PyProof.Rows L2 Gift
section
variable {P : Program} {w : World} {K : PySem.W.Frag} {mg : Str → Option Value} {base : Heap} {C : Addr}
/-! ### party_rows -/
/-- the takers of z, in some order -/
def Rows (ps : List Str) (bs : List (Str × Str)) (R : Str → List Str) : Prop := ∀ z ∈ ps, (R z).Perm (ps.filter (okp bs z))
def spRows (C : Addr) : Sp := fun vs H Q _ => ∃ (p : Addr) (ps : List Str) (bs : List (Str × Str)), vs = [.ref p] ∧ PartyAt C H p ps bs ∧ ps.length ≤ 8 ∧ ps.Nodup ∧
  ∀ H' d ad R, Same H H' → H d = none → H' d = some (.dK (kvA ps ad)) → DL H' ps ad R → (∀ z ∈ ps, H (ad z) = none ∧ ad z ≠ d) → Rows ps bs R → Q (.ref d) H'
theorem sc28 : FnScope ["party", "person"] ["party"] (defScope (top 28)) := ⟨rfl, rfl, rfl, by decide +kernel, rfl, by decide +kernel, by decide +kernel⟩
theorem ok_party_rows (D : Def K mg "party_rows" (top 28)) (T : PTxt K mg C) (cM : MCal P w K mg base C "may" ["self", "giver"] 6 (spMay C)) (cP : MCal P w K mg base C "people" ["self"] 1 (spPeople C)) : Cal P w K mg base "party_rows" ["party"] 7 (spRows C) := by
  refine D.cal sc28 (fun vs H Q E h => ?_) (fun _ _ _ _ _ _ us hl => match us, hl with | [_], _ => rfl) fun f cdv A outer s H vs Q E hr h => ?_
  · obtain ⟨p, ps, bs, rfl, _⟩ := h
    rfl
  obtain ⟨p, ps, bs, rfl, pt, h8, hn, q⟩ := h
  obtain ⟨fM, fdM, mM, bM, GM⟩ := cM.ex
  obtain ⟨fP, fdP, mP, bP, GP⟩ := cP.ex
  have hr1 : Room 1 _ := hr.mono (by decide)
  refine ⟨_, pss_one (ps_ret (pe_dc (own := [("person", 1)]) (g := gName 1) rfl sc28.nd (pi_tup (pe_meth0 (pv 0) T.cl mP GP hr1 bP .nil pass0)) (blkOk_by (own := [("person", 1)]) (N := ["party", "person"]) (sc := defScope (top 28)) (by decide +kernel)) (fun _ _ _ _ _ => pg_name (i := 1) sc28.nd rfl (.inl rfl))
    (fun _ _ _ _ _ => pts_nil) (fun _ _ _ _ _ => pv 1) (fun _ _ _ _ _ => pe_meth (X := Cx.blk _ _ _ _ _ _) (pv 0) T.cl mM GM hr bM .nil pass0 (pa_cons (pv 1) pa_nil)))), ?_⟩
  obtain ⟨dx, pa, d, kvs, h1, h2, h3, h4⟩ := pt.ob
  refine ⟨_, rfl, p, dx, _, rfl, h1, by first | (unfold pflds; rw [lookup_putF, if_neg (by decide +kernel), lookup_putF, if_neg (by decide +kernel)]; rfl), p, ps, bs, rfl, pt, fun pa' hpa' => ⟨pa', rfl, ⟨_, tupT hpa'⟩, fun D nD => ?_⟩⟩
  refine dc_lists walk_tupS hn (by omega) nD (fun z ys => ys.Perm (ps.filter (okp bs z))) (fun H' sm => tupT (sm _ _ hpa')) (fun i z x H1 H2 Kc hz sm hy hk => ?_) fun H' ad R sm eD dl fr pr => ?_
  · obtain ⟨rfl, hx⟩ := hy
    obtain ⟨z', hz', rfl⟩ := svs_get hx
    rw [hz] at hz'
    cases hz'
    refine ⟨wipe_set1, _, rfl, _, rfl, p, dx, _, rfl, sm _ _ h1, by first | (unfold pflds; rw [lookup_putF, if_neg (by decide +kernel), lookup_putF, if_neg (by decide +kernel)]; rfl), _, rfl, p, ps, bs, z, rfl, pt.same sm, List.mem_of_getElem? hz, h8, fun H5 l ys s5 nl el pe => ?_⟩
    exact hk H5 l ys s5 nl el pe
  · exact q H' D ad R sm nD eD dl fr pr
/-! ### no_choice -/
def spNoChoice : Sp := fun vs H Q _ => ∃ (d : Addr) (ps : List Str) (f : Str → V), vs = [.ref d] ∧ H d = some (.dK (kvD ps f)) ∧ ps.length ≤ 1000 ∧ ps.Nodup ∧
  ∀ H' c ad, Same H H' → H c = none → H' c = some (.dK (kvA ps ad)) → DL H' ps ad (fun _ => []) → (∀ z ∈ ps, H (ad z) = none ∧ ad z ≠ c) → Q (.ref c) H'
theorem sc33 : FnScope ["rows", "person"] ["rows"] (defScope (top 33)) := ⟨rfl, rfl, rfl, by decide +kernel, rfl, by decide +kernel, by decide +kernel⟩
theorem ok_no_choice (D : Def K mg "no_choice" (top 33)) : Cal P w K mg base "no_choice" ["rows"] 1 spNoChoice := by
  refine D.cal sc33 (fun vs H Q E h => ?_) (fun _ _ _ _ _ _ us hl => match us, hl with | [_], _ => rfl) fun f cdv A outer s H vs Q E hr h => ?_
  · obtain ⟨d, ps, f, rfl, _⟩ := h
    rfl
  obtain ⟨d, ps, f, rfl, hd, hz, hn, q⟩ := h
  refine ⟨_, pss_one (ps_ret (pe_lock (pe_dc (own := [("person", 1)]) (g := gName 1) rfl sc33.nd (pi_keys (pv 0)) (blkOk_by (own := [("person", 1)]) (N := ["rows", "person"]) (sc := defScope (top 33)) (by decide +kernel)) (fun _ _ _ _ _ => pg_name (i := 1) sc33.nd rfl (.inl rfl))
    (fun _ _ _ _ _ => pts_nil) (fun _ _ _ _ _ => pv 1) (fun _ _ _ _ _ => pe_lst pa_nil)))), ?_⟩
  refine ⟨d, _, hd, trivial, fun od => ?_⟩
  refine ⟨_, rfl, d, od, rfl, .inl ⟨_, upd_same, fun D nD => ?_⟩⟩
  have nDd : D ≠ d := fun z => by rw [z, upd_same] at nD; cases nD
  have nD' : H D = none := by rw [upd_ne nDd] at nD; exact nD
  refine dc_lists walk_kvD hn hz nD (fun z ys => ys = []) (fun H' sm => sm _ _ upd_same) (fun i z x H1 H2 Kc hz sm hy hk => ?_) fun H' ad R sm eD dl fr pr => ?_
  · obtain ⟨rfl, z', hz', rfl⟩ := hy
    rw [hz] at hz'
    cases hz'
    refine ⟨wipe_set1, _, rfl, Nat.zero_le _, fun l nl => ?_⟩
    exact hk _ l [] (same_new nl) nl upd_same rfl
  · have sH : Same H (upd H' d (.dK (kvD ps f))) := fun b o e => by
      by_cases hb : b = d
      · subst hb
        rw [hd] at e
        cases e
        exact upd_same
      · rw [upd_ne hb]
        exact sm b o (by rw [upd_ne hb]; exact e)
    have ne : ∀ z ∈ ps, ad z ≠ d := fun z hz e => by
      have := (fr z hz).1
      rw [e, upd_same] at this
      cases this
    refine ⟨sm _ _ upd_same, q _ D ad sH nD' (by rw [upd_ne nDd]; exact eD) ⟨fun z hz => ?_, dl.inj⟩ fun z hz => ⟨?_, (fr z hz).2⟩⟩
    · rw [upd_ne (ne z hz), dl.ls z hz, pr z hz]
    · have := (fr z hz).1
      rw [upd_ne (ne z hz)] at this
      exact this
end
end K56
set_option Elab.async false
set_option linter.all false
set_option maxRecDepth 100000
/-! Dicts as tables of pairs. -/
namespace K56
open PySem PySem.Spec PyProof.Rows L2 Gift
def enc {β : Type} (f : β → V) (m : List (Str × β)) : List (Key × V) := m.map fun p => (Sum.inr p.1, f p.2)
section
variable {β : Type} {f : β → V}
theorem enc_len (m : List (Str × β)) : (enc f m).length = m.length := List.length_map ..
theorem valV_enc (m : List (Str × β)) (z : Str) : valV (enc f m) (Sum.inr z) = (lk m z).map f := by
  induction m with
  | nil => rfl
  | cons p r ih =>
    by_cases e : p.1 = z
    · rw [lk_pos e]
      exact valV_pos (p := (Sum.inr p.1, f p.2)) (congrArg Sum.inr e)
    · rw [lk_neg e, ← ih]
      exact valV_neg (p := (Sum.inr p.1, f p.2)) fun q => e (Sum.inr.inj q)
theorem putK_enc (m : List (Str × β)) (z : Str) (v : β) : putK (enc f m) (Sum.inr z) (f v) = enc f (pt m z v) := by
  unfold putK pt
  have e : ((enc f m).any fun kv => decide (kv.1 = Sum.inr z)) = (m.any fun p => decide (p.1 = z)) := by
    rw [valV_any, lk_any, valV_enc, Option.isSome_map]
  rw [e]
  split
  · unfold enc
    rw [List.map_map, List.map_map]
    refine List.map_congr_left fun p _ => ?_
    show (if (Sum.inr p.1 : Key) = Sum.inr z then ((Sum.inr p.1 : Key), f v) else (Sum.inr p.1, f p.2)) = (Sum.inr (if p.1 = z then (p.1, v) else p).1, f (if p.1 = z then (p.1, v) else p).2)
    by_cases h : p.1 = z
    · rw [if_pos h, if_pos (congrArg Sum.inr h)]
    · rw [if_neg h, if_neg fun q => h (Sum.inr.inj q)]
  · unfold enc
    rw [List.map_append]
    rfl
theorem dget_e {H : Hp} {d : Addr} {m : List (Str × β)} {z : Str} (h : Rd H d (.dK (enc f m))) : DGet H d (.str z) ((lk m z).map f) := .inl ⟨_, Sum.inr z, h, rfl, (valV_enc m z).symm⟩
theorem dput_e {H : Hp} {d : Addr} {m : List (Str × β)} {z : Str} {v : β} (h : H d = some (.dK (enc f m))) (hl : m.length ≤ 1000) : DPut H d (.str z) (f v) (upd H d (.dK (enc f (pt m z v)))) := by
  rw [← putK_enc]
  exact DPut.k (k := Sum.inr z) h (by rw [enc_len]; exact small1000 hl)
theorem enc_get {m : List (Str × β)} {i : Nat} {k : Key} {v : V} (h : (enc f m)[i]? = some (k, v)) : ∃ p, m[i]? = some p ∧ k = Sum.inr p.1 ∧ v = f p.2 := by
  unfold enc at h
  rw [List.getElem?_map] at h
  cases e : m[i]? with
  | none => rw [e] at h; cases h
  | some p =>
    rw [e] at h
    cases h
    exact ⟨p, rfl, rfl, rfl⟩
theorem walk_encK {d : Addr} {o : Obj} {m : List (Str × β)} : Walk (Itk d o (enc f m)) m.length (fun H => H d = some (.frz o (.dK (enc f m)))) (fun i H x H' => H' = H ∧ ∃ p, m[i]? = some p ∧ x = .str p.1) := by
  have w := walk_keys (d := d) (o := o) (kvs := enc f m)
  rw [enc_len] at w
  refine w.mono (fun _ h => h) fun i H x H' _ _ y => ?_
  obtain ⟨e, k, v, h1, h2⟩ := y
  obtain ⟨p, h3, h4, _⟩ := enc_get h1
  subst h4
  exact ⟨e, p, h3, h2⟩
end
/-- a dict of marks -/
def encT (sn : List Str) : List (Key × V) := sn.map fun z => (Sum.inr z, .bl true)
theorem encT_len (sn : List Str) : (encT sn).length = sn.length := List.length_map ..
theorem valV_encT (sn : List Str) (z : Str) : (valV (encT sn) (Sum.inr z)).isSome = decide (z ∈ sn) := by
  induction sn with
  | nil => rfl
  | cons y r ih =>
    by_cases e : y = z
    · subst e
      rw [show valV (encT (y :: r)) (Sum.inr y) = some (.bl true) from valV_pos (p := (Sum.inr y, V.bl true)) rfl]
      simp
    · rw [show valV (encT (y :: r)) (Sum.inr z) = valV (encT r) (Sum.inr z) from valV_neg (p := (Sum.inr y, V.bl true)) fun q => e (Sum.inr.inj q), ih]
      have e' : ¬ z = y := fun q => e q.symm
      simp [e']
theorem putK_encT {sn : List Str} {z : Str} (h : z ∉ sn) : putK (encT sn) (Sum.inr z) (.bl true) = encT (sn ++ [z]) := by
  have : valV (encT sn) (Sum.inr z) = none := by
    have := valV_encT sn z
    rw [decide_eq_false h] at this
    cases e : valV (encT sn) (Sum.inr z) with
    | none => rfl
    | some v => rw [e] at this; cases this
  rw [putK_new _ this]
  unfold encT
  rw [List.map_append]
  rfl
theorem dget_T {H : Hp} {d : Addr} {sn : List Str} {z : Str} (h : Rd H d (.dK (encT sn))) : ∃ o, DGet H d (.str z) o ∧ o.isSome = decide (z ∈ sn) := ⟨_, .inl ⟨_, Sum.inr z, h, rfl, rfl⟩, valV_encT sn z⟩
theorem dput_T {H : Hp} {d : Addr} {sn : List Str} {z : Str} (h : H d = some (.dK (encT sn))) (hz : z ∉ sn) (hl : sn.length ≤ 1000) : DPut H d (.str z) (.bl true) (upd H d (.dK (encT (sn ++ [z])))) := by
  rw [← putK_encT hz]
  exact DPut.k (k := Sum.inr z) h (by rw [encT_len]; exact small1000 hl)
end K56
set_option Elab.async false
set_option linter.all false
set_option maxRecDepth 100000
/-! seek, paired. -/
namespace K56
open PySem PySem.Spec PyProof.Rows L2 Gift
/-- all but what stands at two places is as it was -/
def Two (a b : Addr) (H H' : Hp) : Prop := ∀ c o, H c = some o → c ≠ a → c ≠ b → H' c = some o
theorem Two.refl {a b : Addr} {H : Hp} : Two a b H H := fun _ _ e _ _ => e
theorem Two.trans {a b : Addr} {H H1 H2 : Hp} (x : Two a b H H1) (y : Two a b H1 H2) : Two a b H H2 := fun c o e h1 h2 => y c o (x c o e h1 h2) h1 h2
theorem Two.upd1 {a b : Addr} {H H1 : Hp} {o : HO} (x : Two a b H H1) : Two a b H (upd H1 a o) := fun c u e h1 h2 => by
  rw [upd_ne h1]
  exact x c u e h1 h2
theorem Two.upd2 {a b : Addr} {H H1 : Hp} {o : HO} (x : Two a b H H1) : Two a b H (upd H1 b o) := fun c u e h1 h2 => by
  rw [upd_ne h2]
  exact x c u e h1 h2
/-- rows that may be read: a dict of lists -/
structure RowsAt (H : Hp) (d : Addr) (ps : List Str) (ad : Str → Addr) (R : Str → List Str) : Prop extends DL H ps ad R where
  dict : Rd H d (.dK (kvA ps ad))
abbrev enS (m : List (Str × Str)) : List (Key × V) := enc V.str m
theorem RowsAt.two {a b : Addr} {H H' : Hp} {d : Addr} {ps : List Str} {ad : Str → Addr} {R : Str → List Str} {ka kb : List (Key × V)} (x : RowsAt H d ps ad R) (t : Two a b H H') (ha : H a = some (.dK ka)) (hb : H b = some (.dK kb)) (da : d ≠ a) (db : d ≠ b) : RowsAt H' d ps ad R where
  ls := fun z hz => t _ _ (x.ls z hz) (ne_of (x.ls z hz) ha fun q => (nomatch q)) (ne_of (x.ls z hz) hb fun q => nomatch q)
  inj := x.inj
  dict := x.dict.elim (fun h => .inl (t _ _ h da db)) fun ⟨o, h⟩ => .inr ⟨o, t _ _ h da db⟩
theorem RowsAt.get {H : Hp} {d : Addr} {ps : List Str} {ad : Str → Addr} {R : Str → List Str} (x : RowsAt H d ps ad R) {z : Str} (hz : z ∈ ps) : DGet H d (.str z) (some (.ref (ad z))) := dget_p x.dict hz
section
variable {P : Program} {w : World} {K : PySem.W.Frag} {mg : Str → Option Value} {base : Heap} {C : Addr}
/-! ### seek -/
def spSeek (n : Nat) : Sp := fun vs H Q _ => ∃ (rd hd sd : Addr) (g : Str) (ps : List Str) (ad : Str → Addr) (R : Str → List Str) (m : List (Str × Str)) (sn : List Str), vs = [.ref rd, .str g, .ref hd, .ref sd] ∧
  RowsAt H rd ps ad R ∧ Inst ps R ∧ ps.length ≤ 1000 ∧ g ∈ ps ∧ H hd = some (.dK (enS m)) ∧ H sd = some (.dK (encT sn)) ∧ hd ≠ sd ∧ rd ≠ hd ∧ rd ≠ sd ∧ Held ps R m ∧ sn.Nodup ∧ (∀ t ∈ sn, t ∈ ps) ∧ ps.length - sn.length < n ∧
  (∀ H' m' sn', Two hd sd H H' → H' hd = some (.dK (enS m')) → H' sd = some (.dK (encT sn')) → Won ps R g sn m m' → Q (.bl true) H') ∧
  (∀ H' sn', Two hd sd H H' → H' hd = some (.dK (enS m)) → H' sd = some (.dK (encT sn')) → sn'.Nodup → (∀ t ∈ sn', t ∈ ps) → Shut R m sn sn' → (∀ u ∈ R g, u ∈ sn') → Q (.bl false) H')
theorem sc9 : FnScope ["rows", "giver", "held", "seen", "taker"] ["rows", "giver", "held", "seen"] (defScope (top 9)) := ⟨rfl, rfl, rfl, by decide +kernel, rfl, by decide +kernel, by decide +kernel⟩
theorem held_few {ps : List Str} {R : Str → List Str} {m : List (Str × Str)} (I : Inst ps R) (h : Held ps R m) (hz : ps.length ≤ 1000) : m.length ≤ 1000 := by
  have := nodup_le (A := m.map (·.1)) (B := ps) h.nd fun t ht => by
    obtain ⟨g, e⟩ := Option.isSome_iff_exists.mp (lk_isSome.mpr ht)
    obtain ⟨h1, h2⟩ := h.ok t g e
    exact I.sub g h1 t h2
  rw [List.length_map] at this
  omega
theorem ok_seek (D : Def K mg "seek" (top 9)) : ∀ n : Nat, Cal P w K mg base "seek" ["rows", "giver", "held", "seen"] (n + 1) (spSeek n)
  | 0 => by
    refine D.cal sc9 (fun vs H Q E h => ?_) (fun _ _ _ _ _ _ us hl => match us, hl with | [_, _, _, _], _ => rfl) fun f cdv A outer s H vs Q E hr h => ?_
    · obtain ⟨rd, hd, sd, g, ps, ad, R, m, sn, rfl, _⟩ := h
      rfl
    · obtain ⟨rd, hd, sd, g, ps, ad, R, m, sn, _, _, _, _, _, _, _, _, _, _, _, _, _, hf, _⟩ := h
      exact absurd hf (Nat.not_lt_zero _)
  | n + 1 => by
    have ih := ok_seek D n
    refine D.cal sc9 (fun vs H Q E h => ?_) (fun _ _ _ _ _ _ us hl => match us, hl with | [_, _, _, _], _ => rfl) fun f cdv A outer s H vs Q E hr h => ?_
    · obtain ⟨rd, hd, sd, g, ps, ad, R, m, sn, rfl, _⟩ := h
      rfl
    obtain ⟨rd, hd, sd, g, ps, ad, R, m, sn, rfl, rw_, I, hz, hg, em, es, nhs, nrh, nrs, hld, snn, snp, hf, qT, qF⟩ := h
    have hu := hu_of hr
    refine ⟨_, pss_cons (ps_for PassesOwn.never rfl (pi_list (pe_dget hu (pv 0) (pv 1) (fun _ _ => rfl))) (pg_name (i := 4) sc9.nd rfl (.inl rfl))
        (pss_cons (ps_if (pt_cmp (pc_din hu (pv 4) (pv 3))) (pss_one ps_continue) pss_nil)
        (pss_cons (ps_dput hu (pv 3) (pv 4) pe_bl rfl)
        (pss_one (ps_if (PW.pt (pw_or (pt_cmp (pc_dnotin hu (pv 4) (pv 2))) (pw_or1 (pt_val (pe_cal ih hr (by rfl) (pa_cons (pv 0) (pa_cons (pe_dget hu (pv 2) (pv 4) (fun _ _ => rfl)) (pa_cons (pv 2) (pa_cons (pv 3) pa_nil)))))))))
          (pss_cons (ps_dput hu (pv 2) (pv 4) (pv 1) rfl) (pss_one (ps_ret pe_bl))) pss_nil)))))
      (pss_one (ps_ret pe_bl)), ?_⟩
    have lg : SqL K H (ad g) (svs (R g)) := lstL (rw_.ls g hg)
    have nl : ∀ {z : Str}, z ∈ ps → ad z ≠ hd ∧ ad z ≠ sd := fun {z} hz => ⟨ne_of (rw_.ls z hz) em fun q => (nomatch q), ne_of (rw_.ls z hz) es fun q => nomatch q⟩
    refine ⟨_, rfl, _, rfl, rd, _, rfl, rw_.get hg, ad g, rfl, ⟨_, lg⟩, for_it (walk_listS (xs := R g)) (fun i σ H' => ∃ y sn1, σ = [some (.ref rd), some (.str g), some (.ref hd), some (.ref sd), y] ∧ Two hd sd H H' ∧ H' hd = some (.dK (enS m)) ∧ H' sd = some (.dK (encT sn1)) ∧ sn1.Nodup ∧ (∀ t ∈ sn1, t ∈ ps) ∧ Shut R m sn sn1 ∧ ∀ u ∈ (R g).take i, u ∈ sn1)
      ⟨none, sn, rfl, Two.refl, em, es, snn, snp, Shut.refl, fun u hu => by simp at hu⟩ (fun i σ H' _ h => ?_) ?_ ?_⟩
    · obtain ⟨y, sn1, _, tw, _⟩ := h
      exact lstL (tw _ _ (rw_.ls g hg) (nl hg).1 (nl hg).2)
    · rintro i x σ H0 H1 hi ⟨y, sn1, rfl, tw, em1, es1, nd1, sp1, sh1, tk1⟩ ⟨rfl, hx⟩
      obtain ⟨z, hz', rfl⟩ := svs_get hx
      have hzR : z ∈ R g := List.mem_of_getElem? hz'
      have hzp : z ∈ ps := I.sub g hg z hzR
      have snl : sn.length ≤ sn1.length := nodup_le snn sh1.le
      have tkn : ∀ {S : List Str}, (∀ u ∈ sn1, u ∈ S) → z ∈ S → ∀ u ∈ (R g).take (i + 1), u ∈ S := fun {S} h1 h2 u hu => by
        rw [List.take_add_one, hz'] at hu
        rcases List.mem_append.mp hu with h | h
        · exact h1 u (tk1 u h)
        · have : u = z := by simpa using h
          rw [this]
          exact h2
      obtain ⟨o, go, eo⟩ := dget_T (z := z) (.inl es1)
      -- if taker in seen
      refine ⟨_, rfl, _, rfl, sd, o, rfl, go, _, rfl, ?_⟩
      rw [eo]
      refine ite2 (fun hin => ?_) (fun hni => ?_)
      · exact ⟨_, sn1, rfl, tw, em1, es1, nd1, sp1, sh1, tkn (fun _ h => h) (of_decide_eq_true hin)⟩
      have hni : z ∉ sn1 := fun m => hni (decide_eq_true m)
      have lt1 : sn1.length < ps.length := by
        have := nodup_le (A := z :: sn1) (B := ps) (List.nodup_cons.mpr ⟨hni, nd1⟩) fun t ht => by
          rcases List.mem_cons.mp ht with e | ht
          · exact e ▸ hzp
          · exact sp1 t ht
        exact this
      -- seen[taker] = True
      refine ⟨_, rfl, _, rfl, sd, _, rfl, dput_T es1 hni (by omega), ?_⟩
      have tw2 : Two hd sd H (upd H1 sd (.dK (encT (sn1 ++ [z])))) := tw.upd2
      have em2 : (upd H1 sd (.dK (encT (sn1 ++ [z])))) hd = some (.dK (enS m)) := by rw [upd_ne nhs]; exact em1
      have es2 : (upd H1 sd (.dK (encT (sn1 ++ [z])))) sd = some (.dK (encT (sn1 ++ [z]))) := upd_same
      have mf : m.length ≤ 1000 := held_few I hld hz
      -- if taker not in held
      refine ⟨_, rfl, _, rfl, hd, _, rfl, dget_e (.inl em2), _, rfl, ?_⟩
      cases e : lk m z with
      | none =>
        refine iteT (iteT ?_)
        refine ⟨_, rfl, _, rfl, _, rfl, hd, _, rfl, dput_e em2 mf, ?_⟩
        refine qT _ _ _ tw2.upd1 upd_same (by rw [upd_ne nhs.symm]; exact es2) (Won.free hld hg hzR e fun h => hni (sh1.le z h))
      | some g0 =>
        refine iteF ?_
        have hg0 : g0 ∈ ps := (hld.ok z g0 e).1
        have nd2 : (sn1 ++ [z]).Nodup := by
          rw [List.nodup_append]
          refine ⟨nd1, by simp, fun a ha b hb => ?_⟩
          have eb : b = z := by simpa using hb
          rw [eb]
          intro q
          exact hni (q ▸ ha)
        have ge : DGet (upd H1 sd (.dK (encT (sn1 ++ [z])))) hd (.str z) (some (.str g0)) := by
          have := dget_e (f := V.str) (z := z) (.inl em2)
          rw [e] at this
          exact this
        refine ⟨_, rfl, _, rfl, _, rfl, hd, _, rfl, ge, _, rfl, _, rfl, rd, hd, sd, g0, ps, ad, R, m, sn1 ++ [z], rfl, rw_.two tw2 em es nrh nrs, I, hz, hg0, em2, es2, nhs, nrh, nrs, hld, nd2, fun t ht => ?_, ?_, fun H' m' sn' t' e1 e2 won => ?_, fun H' sn' t' e1 e2 nd' sp' sh' cl' => ?_⟩
        · rcases List.mem_append.mp ht with h | h
          · exact sp1 t h
          · have : t = z := by simpa using h
            rw [this]
            exact hzp
        · rw [List.length_append]
          show ps.length - (sn1.length + 1) < n
          omega
        · refine ⟨true, rfl, iteT ?_⟩
          have won' : Won ps R g sn m (pt m' z g) := Won.move hg hzR e sh1.le hni won
          have mf' : m'.length ≤ 1000 := held_few I won.held hz
          refine ⟨_, rfl, _, rfl, _, rfl, hd, _, rfl, dput_e e1 mf', ?_⟩
          exact qT _ _ _ (tw2.trans t').upd1 upd_same (by rw [upd_ne nhs.symm]; exact e2) won'
        · refine ⟨false, rfl, iteF ?_⟩
          refine ⟨_, sn', rfl, tw2.trans t', e1, e2, nd', sp', sh1.step e sh' cl', tkn (fun u hu => sh'.le u (List.mem_append_left _ hu)) (sh'.le z (List.mem_append_right _ (by simp)))⟩
    · rintro σ H1 ⟨y, sn1, rfl, tw, em1, es1, nd1, sp1, sh1, tk1⟩
      rw [List.take_length] at tk1
      exact qF H1 sn1 tw em1 es1 nd1 sp1 sh1 tk1
end
end K56
set_option Elab.async false
set_option linter.all false
set_option maxRecDepth 100000
/-! The tally of a choice: how often each taker is chosen, and by whom. -/
namespace K56
open PySem PySem.Spec PyProof.Rows L2 Gift
theorem svs_snoc (xs : List Str) (z : Str) : svs (xs ++ [z]) = svs xs ++ [.str z] := List.map_append ..
/-- who has chosen t, in the order of the pairs -/
def own (E : List (Str × Str)) (t : Str) : List Str := (E.filter fun p => decide (p.2 = t)).map (·.1)
theorem own_nil (t : Str) : own [] t = [] := rfl
theorem own_app (E F : List (Str × Str)) (t : Str) : own (E ++ F) t = own E t ++ own F t := by
  unfold own
  rw [List.filter_append, List.map_append]
theorem own_same (E : List (Str × Str)) (g t : Str) : own (E ++ [(g, t)]) t = own E t ++ [g] := by
  rw [own_app]
  congr 1
  unfold own
  simp
theorem own_other (E : List (Str × Str)) (g : Str) {t u : Str} (h : u ≠ t) : own (E ++ [(g, t)]) u = own E u := by
  rw [own_app]
  have : own [(g, t)] u = [] := by
    unfold own
    simp [fun e => h (Eq.symm e)]
    exact fun e => h e.symm
  rw [this, List.append_nil]
theorem own_row (g t : Str) : ∀ L : List Str, L.Nodup → own (L.map fun u => (g, u)) t = if t ∈ L then [g] else []
  | [], _ => rfl
  | x :: L, hn => by
    rw [List.nodup_cons] at hn
    have ih := own_row g t L hn.2
    have e : own ((x :: L).map fun u => (g, u)) t = own [(g, x)] t ++ own (L.map fun u => (g, u)) t := by
      rw [← own_app]
      rfl
    rw [e, ih]
    by_cases h : t = x
    · subst h
      have : own [(g, t)] t = [g] := by simp [own]
      rw [this, if_neg hn.1]
      simp
    · have : own [(g, x)] t = [] := by simp [own]; exact fun e => h e.symm
      rw [this]
      simp [h]
def pairsOfC (C : Str → List Str) (ps : List Str) : List (Str × Str) := ps.flatMap fun g => (C g).map fun t => (g, t)
theorem pairsOfC_snoc (C : Str → List Str) (ps : List Str) (g : Str) : pairsOfC C (ps ++ [g]) = pairsOfC C ps ++ (C g).map fun t => (g, t) := by
  unfold pairsOfC
  rw [List.flatMap_append]
  simp
theorem own_all (C : Str → List Str) (t : Str) : ∀ ps : List Str, (∀ g ∈ ps, (C g).Nodup) → own (pairsOfC C ps) t = ps.filter fun g => decide (t ∈ C g)
  | [], _ => rfl
  | g :: ps, h => by
    have ih := own_all C t ps fun x hx => h x (List.mem_cons_of_mem _ hx)
    have e : pairsOfC C (g :: ps) = (C g).map (fun t => (g, t)) ++ pairsOfC C ps := rfl
    rw [e, own_app, ih, own_row g t _ (h g List.mem_cons_self), List.filter_cons]
    by_cases m : t ∈ C g
    · rw [if_pos m, if_pos (decide_eq_true m)]
      rfl
    · rw [if_neg m, if_neg (by simpa using m)]
      rfl
theorem own_load (C : Str → List Str) (t : Str) (ps : List Str) (h : ∀ g ∈ ps, (C g).Nodup) : (own (pairsOfC C ps) t).length = load ps C t := by
  rw [own_all C t ps h]
  exact List.countP_eq_length_filter.symm
abbrev enI (m : List (Str × Nat)) : List (Key × V) := enc (fun n : Nat => V.int (n : Int)) m
abbrev enR (m : List (Str × Addr)) : List (Key × V) := enc V.ref m
/-- the two dicts, when the pairs E are told -/
structure Tally (H0 H : Hp) (ps : List Str) (l o : Addr) (E : List (Str × Str)) (ld : List (Str × Nat)) (ow : List (Str × Addr)) : Prop where
  same : Same H0 H
  hl : H l = some (.dK (enI ld))
  ho : H o = some (.dK (enR ow))
  fl : H0 l = none
  fo : H0 o = none
  nlo : l ≠ o
  kl : (ld.map (·.1)).Nodup ∧ ∀ t ∈ ld.map (·.1), t ∈ ps
  ko : (ow.map (·.1)).Nodup ∧ ∀ t ∈ ow.map (·.1), t ∈ ps
  non : ∀ t, own E t = [] → lk ld t = none ∧ lk ow t = none
  som : ∀ t, own E t ≠ [] → lk ld t = some (own E t).length ∧ ∃ a, lk ow t = some a
  at_ : ∀ t a, lk ow t = some a → H a = some (.lst (svs (own E t))) ∧ H0 a = none
  inj : ∀ t u a, lk ow t = some a → lk ow u = some a → t = u
section
variable {H0 H : Hp} {ps : List Str} {l o : Addr} {E : List (Str × Str)} {ld : List (Str × Nat)} {ow : List (Str × Addr)}
theorem Tally.lenl (x : Tally H0 H ps l o E ld ow) (h : ps.length ≤ 1000) : ld.length ≤ 1000 := by
  have := nodup_le x.kl.1 x.kl.2
  rw [List.length_map] at this
  omega
theorem Tally.leno (x : Tally H0 H ps l o E ld ow) (h : ps.length ≤ 1000) : ow.length ≤ 1000 := by
  have := nodup_le x.ko.1 x.ko.2
  rw [List.length_map] at this
  omega
theorem Tally.get (x : Tally H0 H ps l o E ld ow) (t : Str) : (((lk ld t).map fun n : Nat => V.int (n : Int)).getD (.int 0)) = .int ((own E t).length : Nat) := by
  by_cases h : own E t = []
  · rw [(x.non t h).1, h]
    rfl
  · rw [(x.som t h).1]
    rfl
theorem keys_sub {β : Type} {m : List (Str × β)} {ps : List Str} {t : Str} {v : β} (ht : t ∈ ps) (h : (m.map (·.1)).Nodup ∧ ∀ u ∈ m.map (·.1), u ∈ ps) : ((pt m t v).map (·.1)).Nodup ∧ ∀ u ∈ (pt m t v).map (·.1), u ∈ ps :=
  ⟨nodup_pt _ _ h.1, fun u hu => by
    rcases mem_keys_pt hu with e | e
    · exact e ▸ ht
    · exact h.2 u e⟩
/-- one pair more: the taker was known -/
theorem Tally.more (x : Tally H0 H ps l o E ld ow) {g t : Str} {a q : Addr} (ht : t ∈ ps) (ha : lk ow t = some a) (nq : (upd H l (.dK (enI (pt ld t ((own E t).length + 1))))) q = none) :
    Tally H0 (upd (upd (upd H l (.dK (enI (pt ld t ((own E t).length + 1))))) q (.lst [])) a (.lst (svs (own E t) ++ [.str g]))) ps l o (E ++ [(g, t)]) (pt ld t ((own E t).length + 1)) ow := by
  obtain ⟨ea, fa⟩ := x.at_ t a ha
  have nal : a ≠ l := ne_of ea x.hl fun z => nomatch z
  have nao : a ≠ o := ne_of ea x.ho fun z => nomatch z
  have nql : q ≠ l := fun z => by rw [z, upd_same] at nq; cases nq
  have nq' : H q = none := by rw [upd_ne nql] at nq; exact nq
  have noq : o ≠ q := ne_of_none x.ho nq'
  have naq : a ≠ q := ne_of_none ea nq'
  have hne : own E t ≠ [] := fun e => by rw [(x.non t e).2] at ha; cases ha
  refine ⟨fun b u e => ?_, ?_, ?_, x.fl, x.fo, x.nlo, keys_sub ht x.kl, x.ko, fun u hu => ?_, fun u hu => ?_, fun u b hb => ?_, x.inj⟩
  · rw [upd_ne (ne_of_none e fa), upd_ne (ne_of_none (x.same _ _ e) nq'), upd_ne (ne_of_none e x.fl)]
    exact x.same _ _ e
  · rw [upd_ne nal.symm, upd_ne nql.symm, upd_same]
  · rw [upd_ne nao.symm, upd_ne noq, upd_ne x.nlo.symm]
    exact x.ho
  · by_cases e : u = t
    · subst e
      rw [own_same] at hu
      simp at hu
    · rw [own_other E g e] at hu
      rw [lk_pt, if_neg e]
      exact x.non u hu
  · by_cases e : u = t
    · subst e
      rw [own_same, lk_pt, if_pos rfl, List.length_append]
      exact ⟨rfl, a, ha⟩
    · rw [own_other E g e] at hu ⊢
      rw [lk_pt, if_neg e]
      exact x.som u hu
  · obtain ⟨eb, fb⟩ := x.at_ u b hb
    refine ⟨?_, fb⟩
    by_cases e : u = t
    · subst e
      rw [ha] at hb
      cases hb
      rw [upd_same, own_same, svs_snoc]
    · have nba : b ≠ a := fun z => e (x.inj u t a (by rw [← z]; exact hb) ha)
      rw [upd_ne nba, upd_ne (ne_of_none eb nq'), upd_ne (ne_of eb x.hl fun z => nomatch z), own_other E g e]
      exact eb
/-- one pair more: the taker is new -/
theorem Tally.first (x : Tally H0 H ps l o E ld ow) {g t : Str} {q : Addr} (ht : t ∈ ps) (hn : own E t = []) (nq : (upd H l (.dK (enI (pt ld t ((own E t).length + 1))))) q = none) :
    Tally H0 (upd (upd (upd (upd H l (.dK (enI (pt ld t ((own E t).length + 1))))) q (.lst [])) o (.dK (enR (pt ow t q)))) q (.lst (svs (own E t) ++ [.str g]))) ps l o (E ++ [(g, t)]) (pt ld t ((own E t).length + 1)) (pt ow t q) := by
  have nql : q ≠ l := fun z => by rw [z, upd_same] at nq; cases nq
  have nq' : H q = none := by rw [upd_ne nql] at nq; exact nq
  have noq : o ≠ q := ne_of_none x.ho nq'
  have fq : H0 q = none := x.same.free nq'
  refine ⟨fun b u e => ?_, ?_, ?_, x.fl, x.fo, x.nlo, keys_sub ht x.kl, keys_sub ht x.ko, fun u hu => ?_, fun u hu => ?_, fun u b hb => ?_, fun u v b hu hv => ?_⟩
  · rw [upd_ne (ne_of_none e fq), upd_ne (ne_of_none e x.fo), upd_ne (ne_of_none e fq), upd_ne (ne_of_none e x.fl)]
    exact x.same _ _ e
  · rw [upd_ne nql.symm, upd_ne x.nlo, upd_ne nql.symm, upd_same]
  · rw [upd_ne noq, upd_same]
  · by_cases e : u = t
    · subst e
      rw [own_same] at hu
      simp at hu
    · rw [own_other E g e] at hu
      rw [lk_pt, if_neg e, lk_pt, if_neg e]
      exact x.non u hu
  · by_cases e : u = t
    · subst e
      rw [own_same, lk_pt, if_pos rfl, List.length_append, lk_pt, if_pos rfl]
      exact ⟨rfl, q, rfl⟩
    · rw [own_other E g e] at hu ⊢
      rw [lk_pt, if_neg e, lk_pt, if_neg e]
      exact x.som u hu
  · rw [lk_pt] at hb
    by_cases e : u = t
    · subst e
      rw [if_pos rfl] at hb
      cases hb
      refine ⟨?_, fq⟩
      rw [upd_same, own_same, svs_snoc]
    · rw [if_neg e] at hb
      obtain ⟨eb, fb⟩ := x.at_ u b hb
      refine ⟨?_, fb⟩
      rw [upd_ne (ne_of_none eb nq'), upd_ne (ne_of eb x.ho fun z => nomatch z), upd_ne (ne_of_none eb nq'), upd_ne (ne_of eb x.hl fun z => nomatch z), own_other E g e]
      exact eb
  · rw [lk_pt] at hu hv
    by_cases e : u = t
    · by_cases e' : v = t
      · rw [e, e']
      · rw [if_pos e] at hu
        rw [if_neg e'] at hv
        cases hu
        have := (x.at_ v _ hv).1
        rw [nq'] at this
        cases this
    · by_cases e' : v = t
      · rw [if_neg e] at hu
        rw [if_pos e'] at hv
        cases hv
        have := (x.at_ u _ hu).1
        rw [nq'] at this
        cases this
      · rw [if_neg e] at hu
        rw [if_neg e'] at hv
        exact x.inj u v b hu hv
theorem Tally.ext (x : Tally H0 H ps l o E ld ow) {H' : Hp} (s : Same H H') : Tally H0 H' ps l o E ld ow := ⟨x.same.trans s, s _ _ x.hl, s _ _ x.ho, x.fl, x.fo, x.nlo, x.kl, x.ko, x.non, x.som, fun t a h => ⟨s _ _ (x.at_ t a h).1, (x.at_ t a h).2⟩, x.inj⟩
end
end K56
set_option Elab.async false
set_option linter.all false
set_option maxRecDepth 100000
/-! paired. -/
namespace K56
open PySem PySem.Spec PyProof.Rows L2 Gift
open Classical in
/-- what is held, turned round -/
noncomputable def takerOf (m : List (Str × Str)) (g : Str) : Str := (if h : ∃ t, lk m t = some g then some h.choose else none).getD g
theorem takerOf_eq {m : List (Str × Str)} {g t : Str} (h : lk m t = some g) (hc : Gift.cnt m g ≤ 1) : takerOf m g = t := by
  have hx : ∃ t, lk m t = some g := ⟨t, h⟩
  unfold takerOf
  rw [dif_pos hx]
  exact cnt_one_inj hx.choose_spec h hc
theorem takerOf_lk {m : List (Str × Str)} {g : Str} (hn : (m.map (·.1)).Nodup) (hc : Gift.cnt m g = 1) : lk m (takerOf m g) = some g := by
  have hp : 0 < Gift.cnt m g := by omega
  obtain ⟨p, hp, e⟩ := List.countP_pos_iff.mp hp
  have e : p.2 = g := of_decide_eq_true e
  have h : lk m p.1 = some g := lk_of_mem hn (by rw [← e]; exact hp)
  rw [takerOf_eq h (by omega)]
  exact h
theorem snd_nodup {m : List (Str × Str)} (h : ∀ x, Gift.cnt m x ≤ 1) : (m.map (·.2)).Nodup := by
  rw [List.nodup_iff_count]
  intro x
  have : (m.map (·.2)).count x = Gift.cnt m x := by
    unfold List.count Gift.cnt
    rw [List.countP_map]
    refine List.countP_congr fun p _ => ?_
    simp
  rw [this]
  exact h x
section
variable {P : Program} {w : World} {K : PySem.W.Frag} {mg : Str → Option Value} {base : Heap} {C : Addr}
def spPaired : Sp := fun vs H Q _ => ∃ (rd : Addr) (ps : List Str) (ad : Str → Addr) (R : Str → List Str) (k : Nat), vs = [.ref rd] ∧ H rd = some (.dK (kvA ps ad)) ∧ DL H ps ad R ∧ Reg ps (k + 1) R ∧ ps.length ≤ 8 ∧
  ∀ H' D dr, Same H H' → H D = none → H' D = some (.dK (kvD ps fun z => .str (dr z))) → Draw ps R dr → Q (.ref D) H'
theorem sc10 : FnScope ["rows", "held", "giver", "takers", "taker"] ["rows"] (defScope (top 10)) := ⟨rfl, rfl, rfl, by decide +kernel, rfl, by decide +kernel, by decide +kernel⟩
theorem same_unlock {H H' : Hp} {d : Addr} {u : HO} {od : Obj} (hd : H d = some u) (s : ∀ b o, b ≠ d → H b = some o → H' b = some o) : Same H (upd H' d u) := fun b o e => by
  by_cases hb : b = d
  · subst hb
    rw [hd] at e
    rw [upd_same, e]
  · rw [upd_ne hb]
    exact s b o hb e
theorem ok_paired (D : Def K mg "paired" (top 10)) (cS : ∀ n : Nat, Cal P w K mg base "seek" ["rows", "giver", "held", "seen"] (n + 1) (spSeek n)) : Cal P w K mg base "paired" ["rows"] 11 spPaired := by
  refine D.cal sc10 (fun vs H Q E h => ?_) (fun _ _ _ _ _ _ us hl => match us, hl with | [_], _ => rfl) fun f cdv A outer s H vs Q E hr h => ?_
  · obtain ⟨rd, ps, ad, R, k, rfl, _⟩ := h
    rfl
  obtain ⟨rd, ps, ad, R, k, rfl, hrd, dl, reg, h8, q⟩ := h
  have hu := hu_of hr
  refine ⟨_, pss_cons (ps_set (i := 1) sc10.nd rfl (.inr rfl) pe_dnewK)
    (pss_cons (ps_lock (ps_for PassesOwn.never rfl (pi_keys (pv 0)) (pg_name (i := 2) sc10.nd rfl (.inl rfl))
      (pss_one (ps_if (pt_not (pt_val (pe_cal (cS 9) hr (by rfl) (pa_cons (pv 0) (pa_cons (pv 2) (pa_cons (pv 1) (pa_cons pe_dnewK pa_nil))))))) pss_never pss_nil))))
    (pss_cons (ps_set (i := 3) sc10.nd rfl (.inr rfl) (pe_lock (pe_dc (own := [("taker", 4)]) (g := gName 4) rfl sc10.nd (pi_keys (pv 1)) (blkOk_by (own := [("taker", 4)]) (N := ["rows", "held", "giver", "takers", "taker"]) (sc := defScope (top 10)) (by decide +kernel)) (fun _ _ _ _ _ => pg_name (i := 4) sc10.nd rfl (.inl rfl))
      (fun _ _ _ _ _ => pts_nil) (fun _ _ _ _ _ => pe_dget (X := Cx.blk _ _ _ _ _ _) hu (pv 1) (pv 4) (fun _ _ => rfl)) (fun _ _ _ _ _ => pv 4))))
    (pss_one (ps_ret (pe_lock (pe_dc (own := [("giver", 2)]) (g := gName 2) rfl sc10.nd (pi_keys (pv 0)) (blkOk_by (own := [("giver", 2)]) (N := ["rows", "held", "giver", "takers", "taker"]) (sc := defScope (top 10)) (by decide +kernel)) (fun _ _ _ _ _ => pg_name (i := 2) sc10.nd rfl (.inl rfl))
      (fun _ _ _ _ _ => pts_nil) (fun _ _ _ _ _ => pv 2) (fun _ _ _ _ _ => pe_dget (X := Cx.blk _ _ _ _ _ _) hu (pv 3) (pv 2) (fun _ _ => rfl)))))))), ?_⟩
  -- held = {}
  intro hd nhd
  have s1 : Same H (upd H hd (.dK [])) := same_new nhd
  have nrh : rd ≠ hd := ne_of_none hrd nhd
  -- for giver in rows
  refine ⟨rd, _, s1 _ _ hrd, trivial, fun od => ?_⟩
  refine ⟨_, rfl, rd, od, rfl, .inl ⟨_, upd_same, for_it walk_kvD (fun i σ H' => ∃ y m, σ = [some (.ref rd), some (.ref hd), y, none, none] ∧ (∀ b o, H b = some o → b ≠ rd → H' b = some o) ∧ H' rd = some (.frz od (.dK (kvA ps ad))) ∧ H' hd = some (.dK (enS m)) ∧ Held ps R m ∧ ∀ x, Gift.cnt m x = if x ∈ ps.take i then 1 else 0)
    ⟨none, [], rfl, fun b o e hb => by rw [upd_ne hb]; exact s1 _ _ e, upd_same, by rw [upd_ne nrh.symm]; exact upd_same, ⟨by simp, fun t g h => by cases h⟩, fun x => by simp [Gift.cnt]⟩ (fun i σ H' _ h => ?_) ?_ ?_⟩⟩
  · obtain ⟨y, m, _, _, e, _⟩ := h
    exact e
  · rintro i x σ H0 H1 hi ⟨y, m, rfl, sm, erd, em, hld, hc⟩ ⟨rfl, z, hz, rfl⟩
    have hzp : z ∈ ps := List.mem_of_getElem? hz
    refine ⟨_, rfl, _, rfl, _, rfl, fun sd nsd => ?_⟩
    have nsdh : hd ≠ sd := ne_of_none em nsd
    have nsdr : rd ≠ sd := ne_of_none erd nsd
    have nfr : ∀ {b : Addr} {o : HO}, H b = some o → b ≠ rd → b ≠ sd := fun {b o} e hb => ne_of_none (sm b o e hb) nsd
    have hni : z ∉ ps.take i := fun m => not_nd hz m reg.nd
    have lsn : ∀ y ∈ ps, ad y ≠ rd := fun y hy => ne_of (dl.ls y hy) hrd fun q => nomatch q
    refine ⟨rd, hd, sd, z, ps, ad, R, m, [], rfl, ⟨⟨fun y hy => ?_, dl.inj⟩, .inr ⟨od, ?_⟩⟩, reg.toInst, by omega, hzp, ?_, upd_same, nsdh, nrh, nsdr, hld, by simp, fun t ht => by simp at ht, by show ps.length - 0 < 9; omega, fun H' m' sn' tw e1 e2 won => ?_, fun H' sn' tw e1 e2 nd' sp' sh' cl' => ?_⟩
    · rw [upd_ne (nfr (dl.ls y hy) (lsn y hy))]
      exact sm _ _ (dl.ls y hy) (lsn y hy)
    · rw [upd_ne nsdr]
      exact erd
    · rw [upd_ne nsdh]
      exact em
    · refine ⟨true, rfl, iteF ?_⟩
      refine ⟨_, m', rfl, fun b o e hb => ?_, ?_, e1, won.held, fun x => ?_⟩
      · refine tw b o ?_ (ne_of_none e nhd) (nfr e hb)
        rw [upd_ne (nfr e hb)]
        exact sm b o e hb
      · refine tw rd _ ?_ nrh nsdr
        rw [upd_ne nsdr]
        exact erd
      · rw [won.cn x, hc x, List.take_add_one, hz]
        by_cases e : z = x
        · subst e
          simp [hni]
        · have e' : ¬ x = z := fun q => e q.symm
          simp [e, e']
    · refine (no_shut reg.toInst (Nat.succ_pos k) reg.len reg.ld hld hzp ?_ (fun x => ?_) nd' sp' sh' cl').elim
      · rw [hc z, if_neg hni]
      · rw [hc x]
        split <;> omega
  · rintro σ H1 ⟨y, m, rfl, sm, erd, em, hld, hc⟩
    rw [List.take_length] at hc
    refine ⟨erd, ?_⟩
    have sm1 : Same H (upd H1 rd (.dK (kvA ps ad))) := same_unlock (od := od) hrd fun b o hb e => sm b o e hb
    have em1 : (upd H1 rd (.dK (kvA ps ad))) hd = some (.dK (enS m)) := by rw [upd_ne nrh.symm]; exact em
    generalize hH2 : upd H1 rd (.dK (kvA ps ad)) = H2 at sm1 em1
    have c1 : ∀ x, Gift.cnt m x ≤ 1 := fun x => by rw [hc x]; split <;> omega
    have mlen : m.length ≤ 1000 := held_few reg.toInst hld (by omega)
    -- takers = {held[taker]: taker for taker in held}
    refine ⟨hd, _, em1, trivial, fun oh => ?_⟩
    refine ⟨_, rfl, hd, oh, rfl, .inl ⟨_, upd_same, fun D nD => ?_⟩⟩
    have nDh : D ≠ hd := fun z => by rw [z, upd_same] at nD; cases nD
    have nD2 : H2 D = none := by rw [upd_ne nDh] at nD; exact nD
    have wk : Walk (Itk hd oh (enS m)) (m.map (·.2)).length (fun H => H hd = some (.frz oh (.dK (enS m)))) (fun i H x H' => H' = H ∧ ∃ p, m[i]? = some p ∧ x = .str p.1) := by
      rw [List.length_map]
      exact walk_encK
    refine dc_vals wk (snd_nodup c1) (by rw [List.length_map]; exact mlen) nD (fun g => .str (takerOf m g)) (fun H' sm => sm _ _ upd_same) (fun i z x H3 H4 Kc hz sm3 hy hk => ?_) fun H3 sm3 eD => ?_
    · obtain ⟨rfl, p, hp, rfl⟩ := hy
      rw [List.getElem?_map, hp] at hz
      have ez : p.2 = z := Option.some.inj hz
      have hl : lk m p.1 = some z := by
        rw [← ez]
        exact lk_of_mem hld.nd (List.mem_of_getElem? hp)
      have ge : DGet H4 hd (.str p.1) (some (.str z)) := by
        have := dget_e (f := V.str) (z := p.1) (.inr ⟨oh, sm3 _ _ upd_same⟩)
        rw [hl] at this
        exact this
      refine ⟨wipe_set1, _, rfl, _, rfl, hd, _, rfl, ge, _, rfl, ?_⟩
      have := hk H4 (Same.refl _)
      rw [takerOf_eq hl (c1 z)] at this
      exact this
    · refine ⟨sm3 _ _ upd_same, ?_⟩
      have sm4 : Same H2 (upd H3 hd (.dK (enS m))) := same_unlock (od := oh) em1 fun b o hb e => sm3 b o (by rw [upd_ne hb]; exact e)
      have eD4 : (upd H3 hd (.dK (enS m))) D = some (.dK (kvD (m.map (·.2)) fun g => .str (takerOf m g))) := by rw [upd_ne nDh]; exact eD
      generalize hH5 : upd H3 hd (.dK (enS m)) = H5 at sm4 eD4
      have sm5 : Same H H5 := sm1.trans sm4
      -- return {giver: takers[giver] for giver in rows}
      refine ⟨rd, _, sm5 _ _ hrd, trivial, fun or => ?_⟩
      have nDr : rd ≠ D := ne_of_none (sm1 _ _ hrd) nD2
      refine ⟨_, rfl, rd, or, rfl, .inl ⟨_, upd_same, fun E nE => ?_⟩⟩
      have nEr : E ≠ rd := fun z => by rw [z, upd_same] at nE; cases nE
      have nE5 : H5 E = none := by rw [upd_ne nEr] at nE; exact nE
      refine dc_vals walk_kvD reg.nd (by omega) nE (fun g => .str (takerOf m g)) (fun H' sm => sm _ _ upd_same) (fun i z x H6 H7 Kc hz sm6 hy hk => ?_) fun H6 sm6 eE => ?_
      · obtain ⟨rfl, z', hz', rfl⟩ := hy
        rw [hz] at hz'
        cases hz'
        have hzp : z ∈ ps := List.mem_of_getElem? hz
        have hm : z ∈ m.map (·.2) := by
          have h1 : Gift.cnt m z = 1 := by rw [hc z, if_pos hzp]
          have h2 := lk_mem (takerOf_lk hld.nd h1)
          exact List.mem_map.mpr ⟨_, h2, rfl⟩
        have eD7 : H7 D = some (.dK (kvD (m.map (·.2)) fun g => .str (takerOf m g))) := sm6 _ _ (by rw [upd_ne nDr.symm]; exact eD4)
        exact ⟨wipe_set1, _, rfl, _, rfl, _, rfl, D, _, rfl, dget_p (.inl eD7) hm, hk H7 (Same.refl _)⟩
      · refine ⟨sm6 _ _ upd_same, ?_⟩
        have sm8 : Same H5 (upd H6 rd (.dK (kvA ps ad))) := same_unlock (od := or) (sm5 _ _ hrd) fun b o hb e => sm6 b o (by rw [upd_ne hb]; exact e)
        refine q _ E (takerOf m) (sm5.trans sm8) (sm5.free nE5) (by rw [upd_ne nEr]; exact eE) ?_
        exact draw_of hld fun g hg => takerOf_lk hld.nd (by rw [hc g, if_pos hg])
end
end K56
set_option Elab.async false
set_option linter.all false
set_option maxRecDepth 100000
/-! flow_way. -/
namespace K56
open PySem PySem.Spec PyProof.Rows L2 Gift
def optV (o : Option Str) : V := match o with
  | none => .non
  | some t => .str t
abbrev enF (m : List (Str × Option Str)) : List (Key × V) := enc optV m
theorem RowsAt.same {H H' : Hp} {d : Addr} {ps : List Str} {ad : Str → Addr} {R : Str → List Str} (x : RowsAt H d ps ad R) (s : Same H H') : RowsAt H' d ps ad R :=
  ⟨x.toDL.same s, x.dict.elim (fun h => .inl (s _ _ h)) fun ⟨o, h⟩ => .inr ⟨o, s _ _ h⟩⟩
/-- the search's three objects -/
structure Srch (H0 H : Hp) (ca fa wa : Addr) (cm : List (Str × Str)) (fr : List (Str × Option Str)) : Prop where
  same : Same H0 H
  hc : H ca = some (.dK (enS cm))
  hf : H fa = some (.dK (enF fr))
  hw : H wa = some (.lst (svs (found fr)))
  fc : H0 ca = none
  ff : H0 fa = none
  fw : H0 wa = none
  ncf : ca ≠ fa
theorem Srch.came {H0 H : Hp} {ca fa wa : Addr} {cm : List (Str × Str)} {fr : List (Str × Option Str)} (x : Srch H0 H ca fa wa cm fr) (t g : Str) : Srch H0 (upd H ca (.dK (enS (pt cm t g)))) ca fa wa (pt cm t g) fr where
  same := same_upd x.same x.fc
  hc := upd_same
  hf := by rw [upd_ne x.ncf.symm]; exact x.hf
  hw := by rw [upd_ne (ne_of x.hw x.hc fun z => nomatch z)]; exact x.hw
  fc := x.fc
  ff := x.ff
  fw := x.fw
  ncf := x.ncf
theorem Srch.free {H0 H : Hp} {ca fa wa : Addr} {cm : List (Str × Str)} {fr : List (Str × Option Str)} (x : Srch H0 H ca fa wa cm fr) (o t : Str) (h : lk fr o = none) :
    Srch H0 (upd (upd H fa (.dK (enF (pt fr o (some t))))) wa (.lst (svs (found fr) ++ [.str o]))) ca fa wa cm (fr ++ [(o, some t)]) where
  same := same_upd (same_upd x.same x.ff) x.fw
  hc := by rw [upd_ne (ne_of x.hc x.hw fun z => nomatch z), upd_ne x.ncf]; exact x.hc
  hf := by rw [upd_ne (ne_of x.hf x.hw fun z => nomatch z), upd_same, pt_new _ h]
  hw := by
    rw [upd_same]
    have : found (fr ++ [(o, some t)]) = found fr ++ [o] := List.map_append ..
    rw [this, svs_snoc]
  fc := x.fc
  ff := x.ff
  fw := x.fw
  ncf := x.ncf
theorem _root_.Gift.Bfs.came_le {ps : List Str} {R C : Str → List Str} {y n : Nat} {st : Str} {cm : List (Str × Str)} {fr : List (Str × Option Str)} {pe : Option Str} (b : Bfs ps R C y st n cm fr pe) (I : Inst ps R) : cm.length ≤ ps.length := by
  have := nodup_le (A := cm.map (·.1)) (B := ps) b.cnd fun t ht => by
    obtain ⟨g, e⟩ := Option.isSome_iff_exists.mp (lk_isSome.mpr ht)
    obtain ⟨h1, _, i, _, h4⟩ := b.co t g e
    exact I.sub g (b.fsub g (List.mem_of_getElem? h4)) t h1
  rw [List.length_map] at this
  exact this
section
variable {P : Program} {w : World} {K : PySem.W.Frag} {mg : Str → Option Value} {base : Heap} {C : Addr}
def spFlow : Sp := fun vs H Q _ => ∃ (rd cd : Addr) (y : Nat) (st : Str) (ps : List Str) (ar ac : Str → Addr) (R C : Str → List Str), vs = [.ref rd, .ref cd, .int y, .str st] ∧ RowsAt H rd ps ar R ∧ H cd = some (.dK (kvA ps ac)) ∧ DL H ps ac C ∧ rd ≠ cd ∧
  Inst ps R ∧ Choice ps R y C ∧ st ∈ ps ∧ (C st).length < y ∧ ps.length ≤ 8 ∧
  (∀ H' T ca fa cm fr t, Same H H' → H ca = none → H fa = none → ca ≠ fa → H T = none → H' T = some (.tup [.str t, .ref ca, .ref fa]) → H' ca = some (.dK (enS cm)) → H' fa = some (.dK (enF fr)) → Way ps R C st cm fr t → t ∈ ps → load ps C t < y → Q (.ref T) H') ∧
  (∀ H' T ca fa cm fr n, Same H H' → H ca = none → H fa = none → ca ≠ fa → H T = none → H' T = some (.tup [.non, .ref ca, .ref fa]) → H' ca = some (.dK (enS cm)) → H' fa = some (.dK (enF fr)) → Bfs ps R C y st n cm fr none → (found fr).length ≤ n → Q (.ref T) H')
abbrev N30 : List Str := ["rows", "chosen", "years", "start", "load", "owners", "giver", "takers", "taker", "holding", "came", "freed", "waiting", "at", "owner"]
theorem sc30 : FnScope N30 ["rows", "chosen", "years", "start"] (defScope (top 30)) := ⟨rfl, rfl, rfl, by decide +kernel, rfl, by decide +kernel, by decide +kernel⟩
theorem ok_flow_way (D : Def K mg "flow_way" (top 30)) (g : Glo mg) : Cal P w K mg base "flow_way" ["rows", "chosen", "years", "start"] 1 spFlow := by
  refine D.cal sc30 (fun vs H Q E h => ?_) (fun _ _ _ _ _ _ us hl => match us, hl with | [_, _, _, _], _ => rfl) fun f cdv A outer s H vs Q E hr h => ?_
  · obtain ⟨rd, cd, y, st, ps, ar, ac, R, C, rfl, _⟩ := h
    rfl
  obtain ⟨rd, cd, y, st, ps, ar, ac, R, C, rfl, rows, hcd, dc, nrc, I, ch, hst, hlt, h8, qW, qB⟩ := h
  have hu := hu_of hr
  refine ⟨_, pss_cons (ps_set (i := 4) sc30.nd rfl (.inl rfl) pe_dnewK)
    (pss_cons (ps_set (i := 5) sc30.nd rfl (.inl rfl) pe_dnewK)
    (pss_cons (ps_lock (ps_for PassesOwn.never rfl (pi_items (pv 1)) (pg_tup rfl (pgs_cons (pg_name (i := 6) sc30.nd rfl (.inl rfl)) (pgs_cons (pg_name (i := 7) sc30.nd rfl (.inl rfl)) pgs_nil)))
      (pss_one (ps_for PassesOwn.never rfl (pi_list (pv 7)) (pg_name (i := 8) sc30.nd rfl (.inl rfl))
        (pss_cons (ps_dput hu (pv 4) (pv 8) (pe_op op_add (pe_dget2 hu (pv 4) (pv 8) pe_int ⟨rfl, rfl, rfl, rfl⟩) pe_int) rfl)
        (pss_cons (ps_set (i := 9) sc30.nd rfl (.inl rfl) (pe_dsetd (pv 5) (pv 8) (pe_lst pa_nil) ⟨rfl, rfl, rfl, rfl⟩))
        (pss_one (ps_expr (pe_bm PySem.F.plainAttrs_list PySem.F.slot_list_append PySem.F.type_list_append mt_append (pv 9) (pa_cons (pv 6) pa_nil))))))))))
    (pss_cons (ps_set (i := 10) sc30.nd rfl (.inl rfl) pe_dnewK)
    (pss_cons (ps_set (i := 11) sc30.nd rfl (.inl rfl) (pe_disp (pps_cons (pv 3) pe_non pps_nil) (by rfl) (by rfl) (fun z => by cases z) (by decide)))
    (pss_cons (ps_set (i := 12) sc30.nd rfl (.inl rfl) (pe_lst (pa_cons (pv 3) pa_nil)))
    (pss_cons (ps_set (i := 13) sc30.nd rfl (.inl rfl) pe_int)
    (pss_cons (ps_while PassesOwn.never (pt_cmpR op_lt (pv 13) (pe_callB call_len_seq (by rfl) g.len PySem.boot_len (pa_cons (pv 12) pa_nil)) (nomark _))
      (pss_cons (ps_set (i := 6) sc30.nd rfl (.inl rfl) (pe_ix ix_list (pv 12) (pv 13) (fun _ _ => rfl)))
      (pss_cons (ps_aug (i := 13) sc30.nd rfl (.inl rfl) pe_int ip_add)
      (pss_one (ps_for PassesOwn.never rfl (pi_list (pe_dget hu (pv 0) (pv 6) (fun _ _ => rfl))) (pg_name (i := 8) sc30.nd rfl (.inl rfl))
        (pss_cons (ps_if (PW.pt (pw_or (pt_cmp (pc_din hu (pv 8) (pv 10))) (pw_or1 (pt_cmpR op_in_seq (pv 8) (pe_dget hu (pv 1) (pv 6) (fun _ _ => rfl)) (by rfl))))) (pss_one ps_continue) pss_nil)
        (pss_cons (ps_dput hu (pv 10) (pv 8) (pv 6) rfl)
        (pss_cons (ps_if (pt_cmpR op_lt (pe_dget2 hu (pv 4) (pv 8) pe_int ⟨rfl, rfl, rfl, rfl⟩) (pv 2) (nomark _)) (pss_one (ps_ret (pe_tup (pa_cons (pv 8) (pa_cons (pv 10) (pa_cons (pv 11) pa_nil)))))) pss_nil)
        (pss_one (ps_for PassesOwn.never rfl (pi_list (pe_dget hu (pv 5) (pv 8) (fun _ _ => rfl))) (pg_name (i := 14) sc30.nd rfl (.inl rfl))
          (pss_one (ps_if (pt_cmp (pc_dnotin hu (pv 14) (pv 11)))
            (pss_cons (ps_dput hu (pv 11) (pv 14) (pv 8) rfl)
            (pss_one (ps_expr (pe_bm PySem.F.plainAttrs_list PySem.F.slot_list_append PySem.F.type_list_append mt_append (pv 12) (pa_cons (pv 14) pa_nil))))) pss_nil))))))))))))
    (pss_one (ps_ret (pe_tup (pa_cons pe_non (pa_cons (pv 10) (pa_cons (pv 11) pa_nil))))))))))))), ?_⟩
  -- load = {}; owners = {}
  intro l nl o no
  have nlo : l ≠ o := fun z => by rw [← z, upd_same] at no; cases no
  have no' : H o = none := by rw [upd_ne nlo.symm] at no; exact no
  have ncl : cd ≠ l := ne_of_none hcd nl
  have nco : cd ≠ o := ne_of_none hcd no'
  have hcd2 : (upd (upd H l (.dK [])) o (.dK [])) cd = some (.dK (kvA ps ac)) := by rw [upd_ne nco, upd_ne ncl]; exact hcd
  -- for giver, takers in chosen.items()
  refine ⟨cd, _, hcd2, trivial, fun oc => ?_⟩
  generalize hH0 : upd H cd (.frz oc (.dK (kvA ps ac))) = H0
  have h0cd : H0 cd = some (.frz oc (.dK (kvA ps ac))) := by rw [← hH0]; exact upd_same
  have h0ne : ∀ b, b ≠ cd → H0 b = H b := fun b hb => by rw [← hH0]; exact upd_ne hb
  have nac : ∀ z ∈ ps, ac z ≠ cd := fun z hz => ne_of (dc.ls z hz) hcd fun q => nomatch q
  have hac : ∀ z ∈ ps, H0 (ac z) = some (.lst (svs (C z))) := fun z hz => by rw [h0ne _ (nac z hz)]; exact dc.ls z hz
  have y0 : 0 < y := by omega
  have tin : ∀ z ∈ ps, ∀ t ∈ C z, t ∈ ps := fun z hz t ht => I.sub z hz t (ch.sub z hz t ht)
  have few : ∀ i z, ps[i]? = some z → ∀ j t, (own (pairsOfC C (ps.take i) ++ ((C z).take j).map fun u => (z, u)) t).length ≤ ps.length + 1 := fun i z hz j t => by
    rw [own_app, List.length_append, own_all C t (ps.take i) fun g hg => ch.nd g (List.mem_of_mem_take hg), own_row z t _ ((ch.nd z (List.mem_of_getElem? hz)).sublist (List.take_sublist _ _))]
    have a1 := List.length_filter_le (fun g => decide (t ∈ C g)) (ps.take i)
    rw [List.length_take] at a1
    split
    · show _ + 1 ≤ _
      omega
    · show _ + 0 ≤ _
      omega
  refine ⟨_, rfl, cd, oc, _, rfl, upd_same, for_it walk_kvI (fun i σ H' => ∃ y6 y7 y8 y9 ld ow, σ = [some (.ref rd), some (.ref cd), some (.int y), some (.str st), some (.ref l), some (.ref o), y6, y7, y8, y9, none, none, none, none, none] ∧ Tally H0 H' ps l o (pairsOfC C (ps.take i)) ld ow)
    ⟨none, none, none, none, [], [], rfl, ⟨fun b u e => ?_, ?_, ?_, ?_, ?_, nlo, by simp, by simp, fun t _ => ⟨rfl, rfl⟩, fun t h => absurd rfl h, fun t a h => (nomatch h), fun t u a h => nomatch h⟩⟩ (fun i σ H' _ h => ?_) ?_ ?_⟩
  · by_cases hb : b = cd
    · subst hb
      rw [upd_same, ← h0cd, e]
    · rw [h0ne b hb] at e
      rw [upd_ne hb, upd_ne (ne_of_none e no'), upd_ne (ne_of_none e nl)]
      exact e
  · rw [upd_ne ncl.symm, upd_ne nlo, upd_same]
    rfl
  · rw [upd_ne nco.symm, upd_same]
    rfl
  · rw [h0ne _ ncl.symm]
    exact nl
  · rw [h0ne _ nco.symm]
    exact no'
  · obtain ⟨_, _, _, _, _, _, _, tl⟩ := h
    exact tl.same _ _ h0cd
  · rintro i x σ Ha Hb hi ⟨y6, y7, y8, y9, ld, ow, rfl, tl⟩ ⟨T, z, rfl, nT, rfl, hz⟩
    have hzp : z ∈ ps := List.mem_of_getElem? hz
    refine ⟨T, _, rfl, tupT upd_same, rfl, _, _, rfl, _, _, rfl, rfl, ?_⟩
    have tl2 := tl.ext (same_new (o := .tup [.str z, .ref (ac z)]) nT)
    refine ⟨_, rfl, ac z, rfl, ⟨_, lstL (tl2.same _ _ (hac z hzp))⟩, for_it (walk_listS (xs := C z)) (fun j σ H' => ∃ y8 y9 ld ow, σ = [some (.ref rd), some (.ref cd), some (.int y), some (.str st), some (.ref l), some (.ref o), some (.str z), some (.ref (ac z)), y8, y9, none, none, none, none, none] ∧ Tally H0 H' ps l o (pairsOfC C (ps.take i) ++ ((C z).take j).map fun u => (z, u)) ld ow)
      ⟨y8, y9, ld, ow, rfl, ?_⟩ (fun j σ H' _ h => ?_) ?_ ?_⟩
    · rw [List.take_zero, List.map_nil, List.append_nil]
      exact tl2
    · obtain ⟨_, _, _, _, _, tl⟩ := h
      exact lstL (tl.same _ _ (hac z hzp))
    · rintro j x σ Hc Hd hj ⟨y8, y9, ld, ow, rfl, tl⟩ ⟨rfl, hx⟩
      obtain ⟨t, ht, rfl⟩ := svs_get hx
      have htp : t ∈ ps := tin z hzp t (List.mem_of_getElem? ht)
      have eE : (pairsOfC C (ps.take i) ++ ((C z).take (j + 1)).map fun u => (z, u)) = (pairsOfC C (ps.take i) ++ ((C z).take j).map fun u => (z, u)) ++ [(z, t)] := by
        rw [List.take_add_one, ht, List.map_append, List.append_assoc]
        rfl
      have fw := few i z hz j t
      generalize hE : (pairsOfC C (ps.take i) ++ ((C z).take j).map fun u => (z, u)) = E at tl eE fw
      -- load[taker] = load.get(taker, 0) + 1
      refine ⟨_, rfl, l, rfl, .inl ⟨_, .inl tl.hl⟩, _, rfl, _, dget_e (.inl tl.hl), ?_⟩
      refine ⟨((own E t).length : Nat), 1, tl.get t, rfl, ?_⟩
      refine ⟨_, rfl, _, rfl, l, _, rfl, dput_e (f := fun n : Nat => V.int (n : Int)) (v := (own E t).length + 1) tl.hl (tl.lenl (by omega)), ?_⟩
      -- holding = owners.setdefault(taker, [])
      have ho1 : (upd Hd l (.dK (enI (pt ld t ((own E t).length + 1))))) o = some (.dK (enR ow)) := by rw [upd_ne tl.nlo.symm]; exact tl.ho
      refine ⟨_, rfl, o, rfl, .inl ⟨_, .inl ho1⟩, _, rfl, Nat.zero_le _, fun q nq => ?_⟩
      have noq : o ≠ q := ne_of_none ho1 nq
      refine ⟨enR ow, Sum.inr t, by rw [upd_ne noq]; exact ho1, rfl, ?_, fun v hv => ?_, fun hv => ?_⟩
      · rw [enc_len]
        exact small1000 (tl.leno (by omega))
      · rw [valV_enc] at hv
        cases ha : lk ow t with
        | none => rw [ha] at hv; cases hv
        | some a =>
          rw [ha] at hv
          cases hv
          obtain ⟨ea, fa⟩ := tl.at_ t a ha
          have ea2 : (upd (upd Hd l (.dK (enI (pt ld t ((own E t).length + 1))))) q (.lst [])) a = some (.lst (svs (own E t))) := by
            rw [upd_ne fun z => ?_, upd_ne (ne_of ea tl.hl fun z => nomatch z)]
            · exact ea
            · rw [← z, upd_ne (ne_of ea tl.hl fun z => nomatch z), ea] at nq
              cases nq
          refine ⟨_, rfl, .inl ⟨rfl, _, lstL ea2⟩, _, rfl, a, _, _, rfl, rfl, ea2, ?_, _, some (.ref a), pt ld t ((own E t).length + 1), ow, rfl, ?_⟩
          · rw [List.length_map]
            exact small1000 (by omega)
          · rw [eE]
            exact tl.more htp ha nq
      · rw [valV_enc] at hv
        have ha : lk ow t = none := by
          cases e : lk ow t with
          | none => rfl
          | some a => rw [e] at hv; cases hv
        have hn : own E t = [] := Classical.byContradiction fun h => by
          obtain ⟨_, a, h2⟩ := tl.som t h
          rw [ha] at h2
          cases h2
        have ep : (upd (upd (upd Hd l (.dK (enI (pt ld t ((own E t).length + 1))))) q (.lst [])) o (.dK (putK (enR ow) (Sum.inr t) (.ref q)))) q = some (.lst []) := by rw [upd_ne noq.symm, upd_same]
        refine ⟨_, rfl, .inl ⟨rfl, _, lstL ep⟩, _, rfl, q, _, _, rfl, rfl, ep, Nat.lt_of_le_of_lt (Nat.zero_le _) (small1000 (Nat.le_refl 1000)), _, some (.ref q), pt ld t ((own E t).length + 1), pt ow t q, rfl, ?_⟩
        have := tl.first (g := z) htp hn nq
        rw [eE]
        have ek : putK (enR ow) (Sum.inr t) (.ref q) = enR (pt ow t q) := putK_enc ow t q
        rw [ek]
        rw [hn] at this ⊢
        exact this
    · rintro σ Hc ⟨y8, y9, ld, ow, rfl, tl⟩
      rw [List.take_length, ← pairsOfC_snoc] at tl
      refine ⟨_, _, _, _, ld, ow, rfl, ?_⟩
      rw [List.take_add_one, hz]
      exact tl
  · rintro σ Ha ⟨y6, y7, y8, y9, ld, ow, rfl, tl⟩
    rw [List.take_length] at tl
    refine ⟨tl.same _ _ h0cd, ?_⟩
    have ncd : ∀ {b : Addr} {u : HO}, Ha b = some u → u ≠ .frz oc (.dK (kvA ps ac)) → b ≠ cd := fun {b u} h hne => ne_of h (tl.same _ _ h0cd) hne
    have sm1 : Same H (upd Ha cd (.dK (kvA ps ac))) := same_unlock (od := oc) hcd fun b u hb e => tl.same b u (by rw [h0ne b hb]; exact e)
    have hl1 : (upd Ha cd (.dK (kvA ps ac))) l = some (.dK (enI ld)) := by rw [upd_ne (ncd tl.hl fun z => nomatch z)]; exact tl.hl
    have ho1 : (upd Ha cd (.dK (kvA ps ac))) o = some (.dK (enR ow)) := by rw [upd_ne (ncd tl.ho fun z => nomatch z)]; exact tl.ho
    have hat1 : ∀ t a, lk ow t = some a → (upd Ha cd (.dK (kvA ps ac))) a = some (.lst (svs (own (pairsOfC C ps) t))) := fun t a h => by
      obtain ⟨ea, _⟩ := tl.at_ t a h
      rw [upd_ne (ncd ea fun z => nomatch z)]
      exact ea
    have hgl : ∀ t, (((lk ld t).map fun n : Nat => V.int (n : Int)).getD (.int 0)) = .int ((load ps C t : Nat) : Int) := fun t => by
      rw [tl.get t, own_load C t ps ch.nd]
    have hsome : ∀ t, 0 < load ps C t → ∃ a, lk ow t = some a := fun t h => (tl.som t fun e => by
      rw [← own_load C t ps ch.nd, e] at h
      cases h).2
    have eown : ∀ t, own (pairsOfC C ps) t = ps.filter fun g => decide (t ∈ C g) := fun t => own_all C t ps ch.nd
    generalize hH1 : upd Ha cd (.dK (kvA ps ac)) = H1 at sm1 hl1 ho1 hat1
    clear hH1 ncd tl
    have dc1 := dc.same sm1
    have rows1 := rows.same sm1
    have hcd1 := sm1 _ _ hcd
    -- came = {}; freed = {start: None}; waiting = [start]; at = 0
    intro ca nca fa nfa
    have ncf : ca ≠ fa := fun z => by rw [← z, upd_same] at nfa; cases nfa
    have nfa' : H1 fa = none := by rw [upd_ne ncf.symm] at nfa; exact nfa
    refine ⟨_, rfl, upd_same, [(Sum.inr st, .non)], rfl, by show 1 ≤ 15; decide, ?_⟩
    refine ⟨_, rfl, Nat.succ_le_of_lt (small1000 (Nat.zero_le _)), fun wa nwa => ?_⟩
    have nwf : wa ≠ fa := fun z => by rw [z, upd_same] at nwa; cases nwa
    rw [upd_ne nwf, upd_ne nwf] at nwa
    have nwc : wa ≠ ca := fun z => by rw [z, upd_same] at nwa; cases nwa
    have nwa' : H1 wa = none := by rw [upd_ne nwc] at nwa; exact nwa
    have sr0 : Srch H1 (upd (upd (upd (upd H1 ca (.dK [])) fa (.dK [])) fa (.dK (mergeK [] [(Sum.inr st, .non)]))) wa (.lst [.str st])) ca fa wa [] [(st, none)] := by
      refine ⟨fun b u e => ?_, ?_, ?_, ?_, nca, nfa', nwa', ncf⟩
      · rw [upd_ne (ne_of_none e nwa'), upd_ne (ne_of_none e nfa'), upd_ne (ne_of_none e nfa'), upd_ne (ne_of_none e nca)]
        exact e
      · rw [upd_ne nwc.symm, upd_ne ncf, upd_ne ncf, upd_same]
        rfl
      · rw [upd_ne nwf.symm, upd_same]
        rfl
      · rw [upd_same]
        rfl
    refine ⟨fun m σ H' => ∃ y6 y7 y8 y9 y14 cm fr, ∃ n : Nat, σ = [some (.ref rd), some (.ref cd), some (.int y), some (.str st), some (.ref l), some (.ref o), y6, y7, y8, y9, some (.ref ca), some (.ref fa), some (.ref wa), some (.int (n : Int)), y14] ∧ Srch H1 H' ca fa wa cm fr ∧ Bfs ps R C y st n cm fr none ∧ m = ps.length - n,
      ⟨_, _, _, _, _, _, [], [(st, none)], 0, rfl, sr0, Bfs.begin hst, rfl⟩, ?_⟩
    rintro m σ Hw ⟨y6, y7, y8, y9, y14, cm, fr, n, rfl, sr, b, rfl⟩
    refine ⟨_, rfl, _, rfl, wa, _, rfl, .inl (lstL sr.hw), (n : Int), _, rfl, rfl, ?_⟩
    by_cases hn : n < (found fr).length
    · refine ⟨true, congrArg V.bl (decide_eq_true (by rw [List.length_map]; omega)), iteT ?_⟩
      have hnp : n < ps.length := Nat.lt_of_lt_of_le hn b.found_le
      obtain ⟨g, hg⟩ : ∃ g, (found fr)[n]? = some g := ⟨_, List.getElem?_eq_getElem hn⟩
      have hgp : g ∈ ps := b.fsub g (List.mem_of_getElem? hg)
      refine ⟨fun σ H' => ∃ y6 y7 y8 y9 y14 cm fr, σ = [some (.ref rd), some (.ref cd), some (.int y), some (.str st), some (.ref l), some (.ref o), y6, y7, y8, y9, some (.ref ca), some (.ref fa), some (.ref wa), some (.int ((n + 1 : Nat) : Int)), y14] ∧ Srch H1 H' ca fa wa cm fr ∧ Bfs ps R C y st (n + 1) cm fr none, fun σ' H' h => ?_, ?_⟩
      · obtain ⟨y6, y7, y8, y9, y14, cm, fr, rfl, sr, b⟩ := h
        exact ⟨_, by omega, _, _, _, _, _, cm, fr, n + 1, rfl, sr, b, rfl⟩
      -- giver = waiting[at]; at += 1
      refine ⟨_, rfl, _, rfl, wa, _, _, _, rfl, rfl, lstL sr.hw, atI_nat (v := .str g) (by rw [List.getElem?_map, hg]; rfl), ?_⟩
      refine ⟨_, rfl, _, _, rfl, rfl, ?_⟩
      have rows2 := rows1.same sr.same
      refine ⟨_, rfl, _, rfl, rd, _, rfl, rows2.get hgp, ar g, rfl, ⟨_, lstL (rows2.ls g hgp)⟩, for_it (walk_listS (xs := R g)) (fun j σ H' => ∃ y7 y8 y9 y14 cm fr, σ = [some (.ref rd), some (.ref cd), some (.int y), some (.str st), some (.ref l), some (.ref o), some (.str g), y7, y8, y9, some (.ref ca), some (.ref fa), some (.ref wa), some (.int ((n + 1 : Nat) : Int)), y14] ∧ Srch H1 H' ca fa wa cm fr ∧ Bfs ps R C y st n cm fr none ∧ (found fr)[n]? = some g ∧ ∀ t ∈ (R g).take j, t ∉ C g → t ∈ cm.map (·.1))
        ⟨_, _, _, _, cm, fr, rfl, sr, b, hg, fun t ht => by simp at ht⟩ (fun j σ H' _ h => ?_) ?_ ?_⟩
      · obtain ⟨_, _, _, _, _, _, _, sr, _⟩ := h
        exact lstL (sr.same _ _ (rows1.ls g hgp))
      · clear sr b rows2 hg
        rintro j x σ Hc Hd hj ⟨y7, y8, y9, y14, cm, fr, rfl, sr, b, hg, tk⟩ ⟨rfl, hx⟩
        obtain ⟨t, ht, rfl⟩ := svs_get hx
        have htR : t ∈ R g := List.mem_of_getElem? ht
        have htp : t ∈ ps := I.sub g hgp t htR
        have tkn : ∀ {S : List Str}, (∀ u ∈ cm.map (·.1), u ∈ S) → (t ∉ C g → t ∈ S) → ∀ u ∈ (R g).take (j + 1), u ∉ C g → u ∈ S := fun {S} h1 h2 u hu hc => by
          rw [List.take_add_one, ht] at hu
          rcases List.mem_append.mp hu with h | h
          · exact h1 u (tk u h hc)
          · have : u = t := by simpa using h
            subst this
            exact h2 hc
        -- if taker in came or taker in chosen[giver]
        refine ⟨_, rfl, _, rfl, ca, _, rfl, dget_e (.inl sr.hc), _, rfl, ?_⟩
        cases ec : lk cm t with
        | some g' =>
          refine iteT (iteT ?_)
          exact ⟨_, _, _, _, cm, fr, rfl, sr, b, hg, tkn (fun _ h => h) fun _ => lk_isSome.mp (by rw [ec]; rfl)⟩
        | none =>
        refine iteF ?_
        have hcg := (dc1.same sr.same).ls g hgp
        refine ⟨_, rfl, _, rfl, _, rfl, cd, _, rfl, dget_p (.inl (sr.same _ _ hcd1)) hgp, ac g, svs (C g), rfl, .inl (lstL hcg), rfl, flat_svs _, _, rfl, ?_⟩
        show if inV (.str t) (svs (C g)) = true then _ else _
        rw [inV_str]
        refine ite2 (fun hin => ?_) (fun hni => ?_)
        · exact ⟨_, _, _, _, cm, fr, rfl, sr, b, hg, tkn (fun _ h => h) fun q => absurd (of_decide_eq_true hin) q⟩
        have htC : t ∉ C g := fun m => hni (decide_eq_true m)
        -- came[taker] = giver
        refine ⟨_, rfl, _, rfl, _, rfl, ca, _, rfl, dput_e (f := V.str) (v := g) sr.hc (by have := b.came_le I; omega), ?_⟩
        have sr1 := sr.came t g
        have b1 := b.see hg htR htC ec
        have el : lk (pt cm t g) t = some g := by rw [lk_pt, if_pos rfl]
        -- if load.get(taker, 0) < years
        refine ⟨_, rfl, l, rfl, .inl ⟨_, .inl (sr1.same _ _ hl1)⟩, _, rfl, _, dget_e (.inl (sr1.same _ _ hl1)), ?_⟩
        refine ⟨_, rfl, (load ps C t : Nat), (y : Nat), hgl t, rfl, ?_⟩
        by_cases hly : load ps C t < y
        · refine ⟨true, congrArg V.bl (decide_eq_true (by omega)), iteT ?_⟩
          refine ⟨_, rfl, _, rfl, _, rfl, small64 (by show 3 ≤ 1000; decide), fun T nT => ?_⟩
          have s2 : Same H _ := sm1.trans sr1.same
          refine qW _ T ca fa _ fr t (s2.trans (same_new nT)) (sm1.free nca) (sm1.free nfa') ncf (s2.free nT) upd_same ?_ ?_ (b1.way (by rw [el]; rfl)) htp hly
          · rw [upd_ne (ne_of_none sr1.hc nT)]
            exact sr1.hc
          · rw [upd_ne (ne_of_none sr1.hf nT)]
            exact sr1.hf
        · refine ⟨false, congrArg V.bl (decide_eq_false (by omega)), iteF ?_⟩
          obtain ⟨a, ha⟩ := hsome t (by omega)
          have hda := sr1.same _ _ (hat1 t a ha)
          have hgo : DGet (upd Hd ca (.dK (enS (pt cm t g)))) o (.str t) (some (.ref a)) := by
            have := dget_e (f := V.ref) (z := t) (.inl (sr1.same _ _ ho1))
            rw [ha] at this
            exact this
          refine ⟨_, rfl, _, rfl, o, _, rfl, hgo, a, rfl, ⟨_, lstL hda⟩, for_it (walk_listS (xs := own (pairsOfC C ps) t)) (fun k σ H' => ∃ y7 y9 y14 fr, σ = [some (.ref rd), some (.ref cd), some (.int y), some (.str st), some (.ref l), some (.ref o), some (.str g), y7, some (.str t), y9, some (.ref ca), some (.ref fa), some (.ref wa), some (.int ((n + 1 : Nat) : Int)), y14] ∧ Srch H1 H' ca fa wa (pt cm t g) fr ∧ Bfs ps R C y st n (pt cm t g) fr (some t) ∧ (found fr)[n]? = some g ∧ ∀ u ∈ (own (pairsOfC C ps) t).take k, u ∈ found fr)
            ⟨_, _, _, fr, rfl, sr1, b1, hg, fun u hu => by simp at hu⟩ (fun k σ H' _ h => ?_) ?_ ?_⟩
          · obtain ⟨_, _, _, _, _, sr, _⟩ := h
            exact lstL (sr.same _ _ (hat1 t a ha))
          · clear sr b hg sr1 b1 tk tkn hda hgo hcg
            rintro k x σ He Hf hk ⟨y7, y9, y14, fr, rfl, sr, b, hg, tk⟩ ⟨rfl, hx⟩
            obtain ⟨u, hu, rfl⟩ := svs_get hx
            have hum : u ∈ ps ∧ t ∈ C u := by
              have := List.mem_of_getElem? hu
              rw [eown t] at this
              have := List.mem_filter.mp this
              exact ⟨this.1, of_decide_eq_true this.2⟩
            have tkn : ∀ {S : List Str}, (∀ v ∈ found fr, v ∈ S) → u ∈ S → ∀ v ∈ (own (pairsOfC C ps) t).take (k + 1), v ∈ S := fun {S} h1 h2 v hv => by
              rw [List.take_add_one, hu] at hv
              rcases List.mem_append.mp hv with h | h
              · exact h1 v (tk v h)
              · have : v = u := by simpa using h
                rw [this]
                exact h2
            -- if owner not in freed
            refine ⟨_, rfl, _, rfl, fa, _, rfl, dget_e (.inl sr.hf), _, rfl, ?_⟩
            have fl := b.found_le
            cases ef : lk fr u with
            | some z =>
              refine iteF ?_
              exact ⟨_, _, _, fr, rfl, sr, b, hg, tkn (fun _ h => h) (lk_isSome.mp (by rw [ef]; rfl))⟩
            | none =>
              refine iteT ?_
              refine ⟨_, rfl, _, rfl, _, rfl, fa, _, rfl, dput_e (f := optV) (v := some t) sr.hf (by rw [List.length_map] at fl; omega), ?_⟩
              have hw2 : (upd Hf fa (.dK (enF (pt fr u (some t))))) wa = some (.lst (svs (found fr))) := by rw [upd_ne (ne_of sr.hw sr.hf fun z => nomatch z)]; exact sr.hw
              refine ⟨_, rfl, .inl ⟨rfl, _, lstL hw2⟩, _, rfl, wa, _, _, rfl, rfl, hw2, small1000 (by rw [List.length_map]; omega), ?_⟩
              have hnf : u ∉ found fr := lk_none.mp ef
              refine ⟨_, _, _, fr ++ [(u, some t)], rfl, sr.free u t ef, b.find el hg hum.1 hum.2 hnf, ?_, tkn (fun v hv => ?_) ?_⟩
              · have : found (fr ++ [(u, some t)]) = found fr ++ [u] := List.map_append ..
                rw [this, List.getElem?_append_left (List.getElem?_eq_some_iff.mp hg).1]
                exact hg
              · have : found (fr ++ [(u, some t)]) = found fr ++ [u] := List.map_append ..
                rw [this]
                exact List.mem_append_left _ hv
              · have : found (fr ++ [(u, some t)]) = found fr ++ [u] := List.map_append ..
                rw [this]
                simp
          · clear sr b hg sr1 b1 hda hgo hcg
            rintro σ He ⟨y7, y9, y14, fr, rfl, sr, b, hg, tk2⟩
            rw [List.take_length, eown t] at tk2
            refine ⟨_, _, _, _, pt cm t g, fr, rfl, sr, b.shut (by omega) (fun u hu hc => tk2 u (List.mem_filter.mpr ⟨hu, decide_eq_true hc⟩)), hg, tkn (fun u hu => ?_) fun _ => ?_⟩
            · rw [← lk_isSome, lk_pt]
              split
              · rfl
              · exact lk_isSome.mpr hu
            · exact lk_isSome.mp (by rw [el]; rfl)
      · clear sr b rows2 hg
        rintro σ Hc ⟨y7, y8, y9, y14, cm, fr, rfl, sr, b, hg, tk⟩
        rw [List.take_length] at tk
        exact ⟨_, _, _, _, _, cm, fr, rfl, sr, b.turn hg tk⟩
    · refine ⟨false, congrArg V.bl (decide_eq_false (by rw [List.length_map]; omega)), iteF ?_⟩
      refine ⟨_, rfl, _, rfl, small64 (by show 3 ≤ 1000; decide), fun T nT => ?_⟩
      have s2 : Same H Hw := sm1.trans sr.same
      refine qB _ T ca fa cm fr n (s2.trans (same_new nT)) (sm1.free nca) (sm1.free nfa') ncf (s2.free nT) upd_same ?_ ?_ b (by omega)
      · rw [upd_ne (ne_of_none sr.hc nT)]
        exact sr.hc
      · rw [upd_ne (ne_of_none sr.hf nT)]
        exact sr.hf
end
end K56
set_option Elab.async false
set_option linter.all false
set_option maxRecDepth 100000
/-! push, spread. -/
namespace K56
open PySem PySem.Spec PyProof.Rows L2 Gift
section
variable {P : Program} {w : World} {K : PySem.W.Frag} {mg : Str → Option Value} {base : Heap} {C : Addr}
def spPush : Sp := fun vs H Q _ => ∃ (cd ca fa : Addr) (st t0 : Str) (ps : List Str) (ac : Str → Addr) (R C0 : Str → List Str) (y : Nat) (cm : List (Str × Str)) (fr : List (Str × Option Str)), vs = [.ref cd, .str t0, .ref ca, .ref fa] ∧
  H cd = some (.dK (kvA ps ac)) ∧ DL H ps ac C0 ∧ H ca = some (.dK (enS cm)) ∧ H fa = some (.dK (enF fr)) ∧ Inst ps R ∧ Choice ps R y C0 ∧ (C0 st).length < y ∧ load ps C0 t0 < y ∧ Way ps R C0 st cm fr t0 ∧ ps.length ≤ 8 ∧
  ∀ H' C', SameBut ps ac H H' → DL H' ps ac C' → Choice ps R y C' → (C' st).length = (C0 st).length + 1 → (∀ g, g ≠ st → (C' g).length = (C0 g).length) → Q .non H'
theorem sc31 : FnScope ["chosen", "taker", "came", "freed", "here", "giver"] ["chosen", "taker", "came", "freed"] (defScope (top 31)) := ⟨rfl, rfl, rfl, by decide +kernel, rfl, by decide +kernel, by decide +kernel⟩
def togo (rk : Str → Nat) (cm : List (Str × Str)) (here : Option Str) : Nat := ((here.bind (lk cm)).map fun g => rk g + 1).getD 0
theorem togo_at {rk : Str → Nat} {cm : List (Str × Str)} {t g : Str} (h : lk cm t = some g) : togo rk cm (some t) = rk g + 1 := by
  unfold togo
  rw [Option.bind_some, h]
  rfl
theorem ok_push (D : Def K mg "push" (top 31)) : Cal P w K mg base "push" ["chosen", "taker", "came", "freed"] 1 spPush := by
  refine D.cal sc31 (fun vs H Q E h => ?_) (fun _ _ _ _ _ _ us hl => match us, hl with | [_, _, _, _], _ => rfl) fun f cdv A outer s H vs Q E hr h => ?_
  · obtain ⟨cd, ca, fa, st, t0, ps, ac, R, C0, y, cm, fr, rfl, _⟩ := h
    rfl
  obtain ⟨cd, ca, fa, st, t0, ps, ac, R, C0, y, cm, fr, rfl, hcd, dl0, hca, hfa, I, ch, hst, hld, wy, h8, q⟩ := h
  have hu := hu_of hr
  refine ⟨_, pss_cons (ps_set (i := 4) sc31.nd rfl (.inl rfl) (pv 1))
    (pss_one (ps_while PassesOwn.never (pt_cmp (pc_notN (pv 4)))
      (pss_cons (ps_set (i := 5) sc31.nd rfl (.inl rfl) (pe_dget hu (pv 2) (pv 4) (fun _ _ => rfl)))
      (pss_cons (ps_expr (pe_bm PySem.F.plainAttrs_list PySem.F.slot_list_append PySem.F.type_list_append mt_append (pe_dget hu (pv 0) (pv 5) (fun _ _ => rfl)) (pa_cons (pv 4) pa_nil)))
      (pss_cons (ps_set (i := 4) sc31.nd rfl (.inl rfl) (pe_dget hu (pv 3) (pv 5) (fun _ _ => rfl)))
      (pss_one (ps_if (pt_cmp (pc_notN (pv 4)))
        (pss_one (ps_expr (pe_bm PySem.F.plainAttrs_list PySem.F.slot_list_remove PySem.F.type_list_remove mt_removeS (pe_dget hu (pv 0) (pv 5) (fun _ _ => rfl)) (pa_cons (pv 4) pa_nil)))) pss_nil))))))), ?_⟩
  obtain ⟨rk, hrk⟩ := wy.rk
  have ncd : ∀ z ∈ ps, cd ≠ ac z := fun z hz => ne_of hcd (dl0.ls z hz) fun q => nomatch q
  have nca : ∀ z ∈ ps, ca ≠ ac z := fun z hz => ne_of hca (dl0.ls z hz) fun q => nomatch q
  have nfa : ∀ z ∈ ps, fa ≠ ac z := fun z hz => ne_of hfa (dl0.ls z hz) fun q => nomatch q
  refine ⟨_, rfl, fun m σ H' => ∃ y5 C here, σ = [some (.ref cd), some (.str t0), some (.ref ca), some (.ref fa), some (optV here), y5] ∧ SameBut ps ac H H' ∧ DL H' ps ac C ∧ Push ps R C0 st t0 cm rk C here ∧ m = togo rk cm here,
    ⟨_, none, C0, some t0, rfl, (fun b o e _ => e), dl0, Push.start ch wy, rfl⟩, ?_⟩
  rintro m σ H1 ⟨y5, C, here, rfl, sm, dl, p, rfl⟩
  have hcd1 := sm _ _ hcd ncd
  have hca1 := sm _ _ hca nca
  have hfa1 := sm _ _ hfa nfa
  cases here with
  | none =>
    refine ⟨_, rfl, false, rfl, iteF ?_⟩
    exact q H1 C sm dl (p.choice ch hst hld) (p.fin rfl).1 (p.fin rfl).2
  | some t =>
    refine ⟨_, rfl, true, rfl, iteT ?_⟩
    obtain ⟨g, hg, _⟩ := p.go t rfl
    obtain ⟨h1, h2, hgp, hfs⟩   := wy.co t g hg
    refine ⟨fun σ H' => ∃ y5 C here, σ = [some (.ref cd), some (.str t0), some (.ref ca), some (.ref fa), some (optV here), y5] ∧ SameBut ps ac H H' ∧ DL H' ps ac C ∧ Push ps R C0 st t0 cm rk C here ∧ togo rk cm here < togo rk cm (some t), fun σ' H' h => ?_, ?_⟩
    · obtain ⟨y5, C, here, e, sm, dl, p, lt⟩ := h
      exact ⟨_, lt, y5, C, here, e, sm, dl, p, rfl⟩
    have hge : DGet H1 ca (.str t) (some (.str g)) := by
      have := dget_e (f := V.str) (z := t) (.inl hca1)
      rw [hg] at this
      exact this
    refine ⟨_, rfl, _, rfl, ca, _, rfl, hge, ?_⟩
    have lC : (C g).length ≤ ps.length := nodup_le (p.nd g hgp) fun u hu => I.sub g hgp u (p.sub g hgp u hu)
    have hl := dl.ls g hgp
    refine ⟨_, rfl, _, rfl, cd, _, rfl, dget_p (.inl hcd1) hgp, .inl ⟨rfl, _, lstL hl⟩, _, rfl, ac g, _, _, rfl, rfl, hl, small1000 (by rw [List.length_map]; omega), ?_⟩
    have e1 : svs (C g) ++ [optV (some t)] = svs (C g ++ [t]) := (svs_snoc _ _).symm
    obtain ⟨dl2, s2⟩ := dl.set hgp (C g ++ [t])
    rw [e1]
    have hfe : ∀ z, lk fr g = some z → DGet (upd H1 (ac g) (.lst (svs (C g ++ [t])))) fa (.str g) (some (optV z)) := fun z hz => by
      have := dget_e (f := optV) (z := g) (.inl (s2 _ _ hfa1 nfa))
      rw [hz] at this
      exact this
    have htg : togo rk cm (some t) = rk g + 1 := togo_at hg
    obtain ⟨z, hz⟩ := Option.isSome_iff_exists.mp hfs
    refine ⟨_, rfl, _, rfl, fa, _, rfl, hfe z hz, ?_⟩
    cases z with
    | none =>
      refine ⟨_, rfl, false, rfl, iteF ?_⟩
      refine ⟨_, _, none, rfl, sm.trans s2, dl2, p.last I.nd wy hg hz, ?_⟩
      rw [htg]
      exact Nat.succ_pos _
    | some t' =>
      refine ⟨_, rfl, true, rfl, iteT ?_⟩
      obtain ⟨hm, p2⟩ := p.next I.nd wy hrk hg hz
      refine ⟨_, rfl, _, rfl, cd, _, rfl, dget_p (.inl (s2 _ _ hcd1 ncd)) hgp, .inl ⟨rfl, _, lstL upd_same⟩, _, rfl, ac g, C g ++ [t], t', rfl, rfl, upd_same, hm, ?_⟩
      rw [upd_upd]
      obtain ⟨dl3, s3⟩ := dl.set hgp ((C g ++ [t]).erase t')
      refine ⟨_, _, some t', rfl, sm.trans s3, dl3, p2, ?_⟩
      rw [htg]
      obtain ⟨_, g', hg', lt⟩ := hrk g t' hz
      rw [togo_at hg']
      exact Nat.succ_lt_succ lt
end
end K56
set_option Elab.async false
set_option linter.all false
set_option maxRecDepth 100000
/-! spread. -/
namespace K56
open PySem PySem.Spec PyProof.Rows L2 Gift
theorem Gift_step {ps : List Str} {R C : Str → List Str} {y : Nat} (f : Full ps R y C) : Choice ps R (y + 1) C := ⟨f.nd, f.sub, fun g hg => Nat.le_succ_of_le (f.len g hg), fun t ht => Nat.le_succ_of_le (f.ld t ht)⟩
theorem but_unlock {ps : List Str} {ac : Str → Addr} {H H' : Hp} {d : Addr} {u : HO} (hd : H d = some u) (s : ∀ b o, b ≠ d → H b = some o → (∀ z ∈ ps, b ≠ ac z) → H' b = some o) : SameBut ps ac H (upd H' d u) := fun b o e hz => by
  by_cases hb : b = d
  · subst hb
    rw [hd] at e
    rw [upd_same, e]
  · rw [upd_ne hb]
    exact s b o hb e hz
section
variable {P : Program} {w : World} {K : PySem.W.Frag} {mg : Str → Option Value} {base : Heap} {C : Addr}
/-- rows and a choice, apart from each other -/
structure Two2 (H : Hp) (rd cd : Addr) (ps : List Str) (ar ac : Str → Addr) (R C : Str → List Str) : Prop where
  hr : H rd = some (.dK (kvA ps ar))
  rl : DL H ps ar R
  hc : H cd = some (.dK (kvA ps ac))
  cl : DL H ps ac C
  ne : rd ≠ cd
  ap : ∀ y ∈ ps, ∀ z ∈ ps, ar y ≠ ac z
  I : Inst ps R
  h8 : ps.length ≤ 8
theorem Two2.next {H H' : Hp} {rd cd : Addr} {ps : List Str} {ar ac : Str → Addr} {R C C' : Str → List Str} (x : Two2 H rd cd ps ar ac R C) (s : SameBut ps ac H H') (d : DL H' ps ac C') : Two2 H' rd cd ps ar ac R C' where
  hr := s _ _ x.hr fun z hz => ne_of x.hr (x.cl.ls z hz) fun q => nomatch q
  rl := ⟨fun z hz => s _ _ (x.rl.ls z hz) fun y hy => x.ap z hz y hy, x.rl.inj⟩
  hc := s _ _ x.hc fun z hz => ne_of x.hc (x.cl.ls z hz) fun q => nomatch q
  cl := d
  ne := x.ne
  ap := x.ap
  I := x.I
  h8 := x.h8
def spSpread : Sp := fun vs H Q _ => ∃ (rd cd : Addr) (y : Nat) (ps : List Str) (ar ac : Str → Addr) (R C : Str → List Str), vs = [.ref rd, .ref cd, .int y] ∧ Two2 H rd cd ps ar ac R C ∧ Choice ps R y C ∧
  (∀ H' C', SameBut ps ac H H' → DL H' ps ac C' → Full ps R y C' → Q .non H') ∧
  (∀ H' T a b S Tt, SameBut ps ac H H' → H T = none → H a = none → H b = none → H' T = some (.tup [.ref a, .ref b]) → H' a = some (.tup (svs S)) → H' b = some (.tup (svs Tt)) → sortedS S = true → sortedS Tt = true → Bar ps R y S Tt → Q (.ref T) H')
abbrev N32 : List Str := ["rows", "chosen", "years", "start", "taker", "came", "freed", "barred", "other"]
theorem sc32 : FnScope N32 ["rows", "chosen", "years"] (defScope (top 32)) := ⟨rfl, rfl, rfl, by decide +kernel, rfl, by decide +kernel, by decide +kernel⟩
theorem ok_spread (D : Def K mg "spread" (top 32)) (g : Glo mg) (cF : Cal P w K mg base "flow_way" ["rows", "chosen", "years", "start"] 1 spFlow) (cU : Cal P w K mg base "push" ["chosen", "taker", "came", "freed"] 1 spPush) : Cal P w K mg base "spread" ["rows", "chosen", "years"] 2 spSpread := by
  refine D.cal sc32 (fun vs H Q E h => ?_) (fun _ _ _ _ _ _ us hl => match us, hl with | [_, _, _], _ => rfl) fun f cdv A outer s H vs Q E hr h => ?_
  · obtain ⟨rd, cd, y, ps, ar, ac, R, C, rfl, _⟩ := h
    rfl
  obtain ⟨rd, cd, y, ps, ar, ac, R, C, rfl, tw, ch, qF, qB⟩ := h
  have hu := hu_of hr
  refine ⟨_, pss_cons (ps_lock (ps_for PassesOwn.never rfl (pi_keys (pv 0)) (pg_name (i := 3) sc32.nd rfl (.inl rfl))
      (pss_one (ps_while PassesOwn.never (pt_cmpR op_lt (pe_callB call_len_seq (by rfl) g.len PySem.boot_len (pa_cons (pe_dget hu (pv 1) (pv 3) (fun _ _ => rfl)) pa_nil)) (pv 2) (nomark _))
        (pss_cons (ps_asg (pe_cal cF hr (by rfl) (pa_cons (pv 0) (pa_cons (pv 1) (pa_cons (pv 2) (pa_cons (pv 3) pa_nil))))) (pg_tup rfl (pgs_cons (pg_name (i := 4) sc32.nd rfl (.inl rfl)) (pgs_cons (pg_name (i := 5) sc32.nd rfl (.inr rfl)) (pgs_cons (pg_name (i := 6) sc32.nd rfl (.inl rfl)) pgs_nil)))))
        (pss_cons (ps_if (pt_cmp (pc_isN (pv 4)))
          (pss_cons (ps_setLc (i := 7) (own := [("other", 8)]) (g := gName 8) rfl sc32.nd rfl rfl rfl (pi_keys (pv 0)) (blkOk_by (own := [("other", 8)]) (N := N32) (sc := defScope (top 32)) (by decide +kernel)) (fun _ _ _ _ _ => pg_name (i := 8) sc32.nd rfl (.inl rfl))
            (fun _ _ _ _ _ => pts_one (pt_cmp (pc_dnotin (X := Cx.blk _ _ _ _ _ _) hu (pv 8) (pv 5)))) (fun _ _ _ _ _ => pv 8))
          (pss_one (ps_ret (pe_tup (pa_cons (pe_tupleOf (by rfl) g.tup (pe_callB cr_sortedS (by rfl) g.srt boot_sorted (pa_cons (pe_listKeys rfl g.lst (pv 6)) pa_nil))) (pa_cons (pe_tupleOf (by rfl) g.tup (pe_callB cr_sortedS (by rfl) g.srt boot_sorted (pa_cons (pv 7) pa_nil))) pa_nil)))))) pss_nil)
        (pss_one (ps_expr (pe_cal cU hr (by rfl) (pa_cons (pv 1) (pa_cons (pv 4) (pa_cons (pv 5) (pa_cons (pv 6) pa_nil)))))))))))))
    (pss_one (ps_ret pe_non)), ?_⟩
  have acn : ∀ {b : Addr} {u : HO}, H b = some u → (∀ v, u ≠ .lst v) → ∀ z ∈ ps, b ≠ ac z := fun {b u} e hu z hz => ne_of e (tw.cl.ls z hz) (hu _)
  have rdn := acn tw.hr fun v q => nomatch q
  -- for start in rows
  refine ⟨rd, _, tw.hr, trivial, fun od => ?_⟩
  refine ⟨_, rfl, rd, od, rfl, .inl ⟨_, upd_same, for_it walk_kvD (fun i σ H' => ∃ y3 y4 y5 y6 C, σ = [some (.ref rd), some (.ref cd), some (.int y), y3, y4, y5, y6, none, none] ∧ (∀ b o, b ≠ rd → H b = some o → (∀ z ∈ ps, b ≠ ac z) → H' b = some o) ∧ H' rd = some (.frz od (.dK (kvA ps ar))) ∧ DL H' ps ac C ∧ Choice ps R y C ∧ ∀ g ∈ ps.take i, (C g).length = y)
    ⟨none, none, none, none, C, rfl, fun b o hb e _ => by rw [upd_ne hb]; exact e, upd_same, ⟨fun z hz => by rw [upd_ne (rdn z hz).symm]; exact tw.cl.ls z hz, tw.cl.inj⟩, ch, fun g hg => by simp at hg⟩ (fun i σ H' _ h => ?_) ?_ ?_⟩⟩
  · obtain ⟨_, _, _, _, _, _, _, e, _⟩ := h
    exact e
  · rintro i x σ Ha Hb hi ⟨y3, y4, y5, y6, C1, rfl, sm, erd, dl, ch1, tk⟩ ⟨rfl, z, hz, rfl⟩
    have hzp : z ∈ ps := List.mem_of_getElem? hz
    refine ⟨fun m σ H' => ∃ y4 y5 y6 C, σ = [some (.ref rd), some (.ref cd), some (.int y), some (.str z), y4, y5, y6, none, none] ∧ (∀ b o, b ≠ rd → H b = some o → (∀ z ∈ ps, b ≠ ac z) → H' b = some o) ∧ H' rd = some (.frz od (.dK (kvA ps ar))) ∧ DL H' ps ac C ∧ Choice ps R y C ∧ (∀ g ∈ ps.take i, (C g).length = y) ∧ m = y - (C z).length,
      ⟨_, y4, y5, y6, C1, rfl, sm, erd, dl, ch1, tk, rfl⟩, ?_⟩
    clear sm erd dl ch1 tk C1
    rintro m σ H1 ⟨y4, y5, y6, C1, rfl, sm, erd, dl, ch1, tk, rfl⟩
    have hcd1 := sm _ _ tw.ne.symm tw.hc (acn tw.hc fun v q => nomatch q)
    refine ⟨_, rfl, _, rfl, cd, _, rfl, dget_p (.inl hcd1) hzp, ac z, _, rfl, .inl (lstL (dl.ls z hzp)), _, rfl, _, _, rfl, rfl, ?_⟩
    by_cases hlt : (C1 z).length < y
    · refine ⟨true, congrArg V.bl (decide_eq_true (by rw [List.length_map]; omega)), iteT ?_⟩
      refine ⟨fun σ H' => ∃ y4 y5 y6 C, σ = [some (.ref rd), some (.ref cd), some (.int y), some (.str z), y4, y5, y6, none, none] ∧ (∀ b o, b ≠ rd → H b = some o → (∀ z ∈ ps, b ≠ ac z) → H' b = some o) ∧ H' rd = some (.frz od (.dK (kvA ps ar))) ∧ DL H' ps ac C ∧ Choice ps R y C ∧ (∀ g ∈ ps.take i, (C g).length = y) ∧ y - (C z).length < y - (C1 z).length, fun σ' H' h => ?_, ?_⟩
      · obtain ⟨y4, y5, y6, C2, e, sm, erd, dl, ch2, tk, lt⟩ := h
        exact ⟨_, lt, y4, y5, y6, C2, e, sm, erd, dl, ch2, tk, rfl⟩
      have rat : RowsAt H1 rd ps ar R := ⟨⟨fun u hu => sm _ _ (ne_of (tw.rl.ls u hu) tw.hr fun q => nomatch q) (tw.rl.ls u hu) fun v hv => tw.ap u hu v hv, tw.rl.inj⟩, .inr ⟨od, erd⟩⟩
      refine ⟨_, rfl, _, rfl, _, rfl, _, rfl, rd, cd, y, z, ps, ar, ac, R, C1, rfl, rat, hcd1, dl, tw.ne, tw.I, ch1, hzp, hlt, tw.h8, fun H2 T ca fa cm fr t s2 nca nfa ncf nT eT eca efa wy htp hl => ?_, fun H2 T ca fa cm fr n s2 nca nfa ncf nT eT eca efa b hn => ?_⟩
      · refine ⟨T, _, rfl, tupT eT, rfl, _, _, rfl, _, _, rfl, _, _, rfl, rfl, ?_⟩
        refine ⟨_, rfl, false, rfl, iteF ?_⟩
        refine ⟨_, rfl, _, rfl, _, rfl, _, rfl, cd, ca, fa, z, t, ps, ac, R, C1, y, cm, fr, rfl, s2 _ _ hcd1, dl.same s2, eca, efa, tw.I, ch1, hlt, hl, wy, tw.h8, fun H3 C2 s3 dl2 ch2 l1 l2 => ?_⟩
        refine ⟨_, _, _, C2, rfl, fun b o hb e hz => s3 _ _ (s2 _ _ (sm b o hb e hz)) hz, s3 _ _ (s2 _ _ erd) rdn, dl2, ch2, fun g hg => ?_, by omega⟩
        rw [l2 g fun e => not_nd hz (e ▸ hg) tw.I.nd]
        exact tk g hg
      · refine ⟨T, _, rfl, tupT eT, rfl, _, _, rfl, _, _, rfl, _, _, rfl, rfl, ?_⟩
        refine ⟨_, rfl, true, rfl, iteT ?_⟩
        have erd2 := s2 _ _ erd
        refine ⟨_, rfl, rd, od, rfl, .inl ⟨_, erd2, fun D nD => ?_⟩⟩
        refine lc_filter walk_kvD (fun u => (lk cm u).isNone) nD (by show 8 < 9; decide) (by have := tw.h8; omega) (fun i H x H' _ y => y) (fun H' s => s _ _ erd2) (fun u hu H' s R hR => ?_) (fun H3 s3 eD => ?_)
        · refine ⟨_, rfl, _, rfl, ca, _, rfl, dget_e (.inl (s _ _ eca)), _, rfl, ?_⟩
          have := hR H' (Same.refl _)
          cases e : lk cm u <;> (rw [e] at this; exact this)
        · have fl := b.found_le
          have h8 := tw.h8
          refine ⟨_, rfl, fa, _, rfl, s3 _ _ efa, fun p1 np1 => ?_⟩
          refine ⟨p1, found fr, rfl, lstL ?_, by omega, fun ys p2 pe1 so1 np2 => .inl ⟨p2, svs ys, rfl, lstL upd_same, fun q1 nq1 => ?_⟩⟩
          · rw [upd_same]
            congr 2
            show (enc optV fr).map (fun kv => kV kv.1) = (fr.map (·.1)).map V.str
            unfold enc
            rw [List.map_map, List.map_map]
            rfl
          have s4 : Same H3 (upd (upd (upd H3 p1 (.lst ((enF fr).map fun kv => kV kv.1))) p2 (.lst (svs ys))) q1 (.tup (svs ys))) := ((same_new np1).trans (same_new np2)).trans (same_new nq1)
          refine ⟨_, rfl, D, _, rfl, lstL (s4 _ _ eD), ?_, fun zs p3 pe2 so2 np3 => .inl ⟨p3, svs zs, rfl, lstL upd_same, fun q2 nq2 => ⟨small64 (by show 2 ≤ 1000; decide), fun T2 nT2 => ?_⟩⟩⟩
          · have := List.length_filter_le (fun u => (lk cm u).isNone) ps
            omega
          have s5 := ((same_new (o := .lst (svs zs)) np3).trans (same_new (o := .tup (svs zs)) nq2)).trans (same_new (o := .tup [.ref q1, .ref q2]) nT2)
          have s6 := (s2.trans s3).trans (s4.trans s5)
          refine ⟨s6 _ _ erd, ?_⟩
          have free : ∀ b, H1 b = none → H b = none := fun b nb => by
            cases e : H b with
            | none => rfl
            | some o =>
              exfalso
              by_cases h1 : b = rd
              · rw [h1, erd] at nb
                cases nb
              · by_cases h2 : ∃ z ∈ ps, b = ac z
                · obtain ⟨z, hz, rfl⟩ := h2
                  rw [dl.ls z hz] at nb
                  cases nb
                · rw [sm b o h1 e fun z hz q => h2 ⟨z, hz, q⟩] at nb
                  cases nb
          have f2 := free _ (s2.free (s3.free (((same_new np1).trans (same_new np2)).free nq1)))
          have f3 := free _ (s2.free (s3.free (s4.free ((same_new np3).free nq2))))
          have f4 := free _ (s2.free (s3.free (s4.free (((same_new np3).trans (same_new nq2)).free nT2))))
          have s7 := (same_new (o := .tup (svs zs)) nq2).trans (same_new (o := .tup [.ref q1, .ref q2]) nT2)
          have e1 := s5 _ _ (upd_same (H := upd (upd H3 p1 (.lst ((enF fr).map fun kv => kV kv.1))) p2 (.lst (svs ys))) (a := q1) (o := .tup (svs ys)))
          have e2 := same_new (o := .tup [.ref q1, .ref q2]) nT2 _ _ upd_same
          have nrd : ∀ {b : Addr} {xs : List V}, (upd (upd (upd (upd (upd (upd H3 p1 (.lst ((enF fr).map fun kv => kV kv.1))) p2 (.lst (svs ys))) q1 (.tup (svs ys))) p3 (.lst (svs zs))) q2 (.tup (svs zs))) T2 (.tup [.ref q1, .ref q2])) b = some (.tup xs) → b ≠ rd := fun {b xs} e => ne_of e (s6 _ _ erd) fun q => nomatch q
          refine qB _ T2 q1 q2 ys zs (but_unlock tw.hr fun b o hb e hz => s6 _ _ (sm b o hb e hz)) f4 f2 f3 ?_ ?_ ?_ so1 so2 (b.bar tw.I ch1 hlt hn (pe1.nodup_iff.mpr b.fnd) (fun g => pe1.mem_iff) (pe2.nodup_iff.mpr (tw.I.nd.sublist List.filter_sublist)) fun t => ?_)
          · rw [upd_ne (nrd upd_same), upd_same]
          · rw [upd_ne (nrd e1)]
            exact e1
          · rw [upd_ne (nrd e2)]
            exact e2
          · rw [pe2.mem_iff, List.mem_filter]
            simp
    · refine ⟨false, congrArg V.bl (decide_eq_false (by rw [List.length_map]; omega)), iteF ?_⟩
      refine ⟨_, _, _, _, C1, rfl, sm, erd, dl, ch1, fun g hg => ?_⟩
      rw [List.take_add_one, hz] at hg
      rcases List.mem_append.mp hg with h | h
      · exact tk g h
      · have : g = z := by simpa using h
        rw [this]
        have := ch1.len z hzp
        omega
  · rintro σ H1 ⟨y3, y4, y5, y6, C1, rfl, sm, erd, dl, ch1, tk⟩
    rw [List.take_length] at tk
    refine ⟨erd, ?_⟩
    exact qF _ C1 (but_unlock tw.hr sm) ⟨fun z hz => by rw [upd_ne (rdn z hz).symm]; exact dl.ls z hz, dl.inj⟩ ⟨ch1, tk⟩
end
end K56
set_option Elab.async false
set_option linter.all false
set_option maxRecDepth 100000
/-! most_of, taken_apart, plan_of. -/
namespace K56
open PySem PySem.Spec PyProof.Rows L2 Gift
theorem SameBut.fresh {ps : List Str} {ac : Str → Addr} {H0 H H' : Hp} (s0 : Same H0 H) (s : SameBut ps ac H H') (fr : ∀ z ∈ ps, H0 (ac z) = none) : Same H0 H' := fun b o e => s b o (s0 b o e) fun z hz => ne_of_none e (fr z hz)
section
variable {P : Program} {w : World} {K : PySem.W.Frag} {mg : Str → Option Value} {base : Heap} {C : Addr}
/-! ### most_of -/
def spMost : Sp := fun vs H Q _ => ∃ (rd : Addr) (ps : List Str) (ar : Str → Addr) (R : Str → List Str), vs = [.ref rd] ∧ H rd = some (.dK (kvA ps ar)) ∧ DL H ps ar R ∧ Inst ps R ∧ ps.length ≤ 8 ∧ ps ≠ [] ∧
  ∀ H' (y : Nat) C S T, Same H H' → Full ps R y C → Bar ps R (y + 1) S T → Q (.int y) H'
theorem sc34 : FnScope ["rows", "chosen", "years"] ["rows"] (defScope (top 34)) := ⟨rfl, rfl, rfl, by decide +kernel, rfl, by decide +kernel, by decide +kernel⟩
theorem full_le {ps : List Str} {R C : Str → List Str} {y : Nat} (I : Inst ps R) (hne : ps ≠ []) (f : Full ps R y C) : y ≤ ps.length := by
  cases ps with
  | nil => exact absurd rfl hne
  | cons g r =>
    have hg : g ∈ g :: r := List.mem_cons_self
    rw [← f.full g hg]
    exact nodup_le (f.nd g hg) fun t ht => I.sub g hg t (f.sub g hg t ht)
theorem full_zero {ps : List Str} {R : Str → List Str} : Full ps R 0 (fun _ => []) where
  nd := fun _ _ => List.nodup_nil
  sub := fun _ _ t ht => by cases ht
  len := fun _ _ => Nat.le_refl _
  ld := fun t ht => by
    unfold Gift.load
    rw [List.countP_eq_zero.mpr]
    · exact Nat.zero_le _
    · intro g _
      simp
  full := fun _ _ => rfl
theorem ok_most_of (D : Def K mg "most_of" (top 34)) (cN : Cal P w K mg base "no_choice" ["rows"] 1 spNoChoice) (cS : Cal P w K mg base "spread" ["rows", "chosen", "years"] 2 spSpread) : Cal P w K mg base "most_of" ["rows"] 3 spMost := by
  refine D.cal sc34 (fun vs H Q E h => ?_) (fun _ _ _ _ _ _ us hl => match us, hl with | [_], _ => rfl) fun f cdv A outer s H vs Q E hr h => ?_
  · obtain ⟨rd, ps, ar, R, rfl, _⟩ := h
    rfl
  obtain ⟨rd, ps, ar, R, rfl, hrd, rl, I, h8, hne, q⟩ := h
  refine ⟨_, pss_cons (ps_set (i := 1) sc34.nd rfl (.inl rfl) (pe_cal cN (hr.mono (by decide)) (by rfl) (pa_cons (pv 0) pa_nil)))
    (pss_cons (ps_set (i := 2) sc34.nd rfl (.inl rfl) pe_int)
    (pss_cons (ps_while PassesOwn.never (pt_cmp (pc_isN (pe_cal cS hr (by rfl) (pa_cons (pv 0) (pa_cons (pv 1) (pa_cons (pe_op op_add (pv 2) pe_int) pa_nil))))))
      (pss_one (ps_aug (i := 2) sc34.nd rfl (.inl rfl) pe_int ip_add)))
    (pss_one (ps_ret (pv 2))))), ?_⟩
  refine ⟨_, rfl, rd, ps, _, rfl, hrd, by omega, I.nd, fun H1 cd ac s1 ncd hcd dl fr => ?_⟩
  have fr0 : ∀ z ∈ ps, H (ac z) = none := fun z hz => (fr z hz).1
  have tw : Two2 H1 rd cd ps ar ac R (fun _ => []) := ⟨s1 _ _ hrd, rl.same s1, hcd, dl, ne_of_none hrd ncd, fun y hy z hz => ne_of_none (rl.ls y hy) (fr0 z hz), I, h8⟩
  refine ⟨fun m σ H' => ∃ (y : Nat) (C : Str → List Str), σ = [some (.ref rd), some (.ref cd), some (.int y)] ∧ Same H H' ∧ Two2 H' rd cd ps ar ac R C ∧ Full ps R y C ∧ m = ps.length + 1 - y, ⟨_, 0, _, rfl, s1, tw, full_zero, rfl⟩, ?_⟩
  clear tw dl hcd s1 H1
  rintro m σ H1 ⟨y, C, rfl, s1, tw, fu, rfl⟩
  refine ⟨_, rfl, _, rfl, _, rfl, _, _, rfl, rfl, rd, cd, y + 1, ps, ar, ac, R, C, rfl, tw, Gift_step fu, fun H2 C2 s2 dl2 f2 => ?_, fun H2 T a b S Tt s2 nT na nb eT ea eb so1 so2 br => ?_⟩
  · refine ⟨true, rfl, iteT ?_⟩
    refine ⟨fun σ H' => ∃ (y' : Nat) (C : Str → List Str), σ = [some (.ref rd), some (.ref cd), some (.int y')] ∧ Same H H' ∧ Two2 H' rd cd ps ar ac R C ∧ Full ps R y' C ∧ y' = y + 1, fun σ' H' h => ?_, ?_⟩
    · obtain ⟨y', C, e, s1, tw, fu2, rfl⟩ := h
      have := full_le I hne fu
      exact ⟨_, by omega, _, C, e, s1, tw, fu2, rfl⟩
    · refine ⟨_, rfl, _, _, rfl, rfl, y + 1, C2, rfl, s2.fresh s1 fr0, tw.next s2 dl2, f2, rfl⟩
  · refine ⟨false, rfl, iteF ?_⟩
    exact ⟨_, rfl, q _ y C S Tt (s2.fresh s1 fr0) fu br⟩
/-! ### taken_apart -/
/-- drawings in dicts -/
structure PlanAt (H : Hp) (l : Addr) (ps : List Str) (qs : List (Addr × (Str → Str))) : Prop where
  at_ : H l = some (.lst (qs.map fun q => .ref q.1))
  ds : ∀ q ∈ qs, H q.1 = some (.dK (kvD ps fun z => .str (q.2 z)))
theorem PlanAt.same {H H' : Hp} {l : Addr} {ps : List Str} {qs : List (Addr × (Str → Str))} (x : PlanAt H l ps qs) (s : Same H H') : PlanAt H' l ps qs := ⟨s _ _ x.at_, fun q hq => s _ _ (x.ds q hq)⟩
def spApart : Sp := fun vs H Q _ => ∃ (cd : Addr) (y : Nat) (ps : List Str) (ac : Str → Addr) (R C : Str → List Str), vs = [.ref cd, .int y] ∧ H cd = some (.dK (kvA ps ac)) ∧ DL H ps ac C ∧ Inst ps R ∧ Full ps R y C ∧ ps.length ≤ 8 ∧ y ≤ 8 ∧
  ∀ H' l qs, Same H H' → H l = none → PlanAt H' l ps qs → Plan ps R (qs.map (·.2)) → qs.length = y → Q (.ref l) H'
abbrev N35 : List Str := ["chosen", "years", "rest", "drawings", "_", "drawing", "giver", "takers", "taker"]
theorem sc35 : FnScope N35 ["chosen", "years"] (defScope (top 35)) := ⟨rfl, rfl, rfl, by decide +kernel, rfl, by decide +kernel, by decide +kernel⟩
def scDC : Scope := { kind := .function, names := [(".0", .local), ("giver", .cell), ("drawing", .cell), ("rest", .cell)], isGenerator := false, isCoroutine := false }
theorem ok_taken_apart (D : Def K mg "taken_apart" (top 35)) (g : Glo mg) (cP : Cal P w K mg base "paired" ["rows"] 11 spPaired) : Cal P w K mg base "taken_apart" ["chosen", "years"] 12 spApart := by
  refine D.cal sc35 (fun vs H Q E h => ?_) (fun _ _ _ _ _ _ us hl => match us, hl with | [_, _], _ => rfl) fun f cdv A outer s H vs Q E hr h => ?_
  · obtain ⟨cd, y, ps, ac, R, C, rfl, _⟩ := h
    rfl
  obtain ⟨cd, y, ps, ac, R, C, rfl, hcd, dl, I, fu, h8, hy, q⟩ := h
  have hu := hu_of hr
  refine ⟨_, pss_cons (ps_set (i := 2) sc35.nd rfl (.inr rfl) (pe_lock (pe_dc (own := [("giver", 6), ("takers", 7)]) (g := gTup K 2 (gCons (gName 6) (gCons (gName 7) gNil))) rfl sc35.nd (pi_items (pv 0)) (blkOk_by (own := [("giver", 6), ("takers", 7)]) (N := N35) (sc := defScope (top 35)) (by decide +kernel))
      (fun _ _ _ _ _ => pg_tup rfl (pgs_cons (pg_name (i := 6) sc35.nd rfl (.inl rfl)) (pgs_cons (pg_name (i := 7) sc35.nd rfl (.inl rfl)) pgs_nil))) (fun _ _ _ _ _ => pts_nil) (fun _ _ _ _ _ => pv 6) (fun _ _ _ _ _ => pe_callB (X := Cx.blk _ _ _ _ _ _) (r := rSortedS K) cr_sortedS (by rfl) g.srt boot_sorted (pa_cons (pv 7) pa_nil)))))
    (pss_cons (ps_set (i := 3) sc35.nd rfl (.inl rfl) (pe_lst pa_nil))
    (pss_cons (ps_for PassesOwn.never rfl (pi_range1 (by rfl) g.rng (pa_cons (pv 1) pa_nil)) (pg_name (i := 4) sc35.nd rfl (.inl rfl))
      (pss_cons (ps_set (i := 5) sc35.nd rfl (.inr rfl) (pe_cal cP hr (by rfl) (pa_cons (pv 2) pa_nil)))
      (pss_cons (ps_expr (pe_bm PySem.F.plainAttrs_list PySem.F.slot_list_append PySem.F.type_list_append mt_append (pv 3) (pa_cons (pv 5) pa_nil)))
      (pss_one (ps_set (i := 2) sc35.nd rfl (.inr rfl) (pe_lock (pe_dc (own := [("giver", 6)]) (g := gName 6) rfl sc35.nd (pi_keys (pv 2)) (blkOk_by (own := [("giver", 6)]) (N := N35) (sc := defScope (top 35)) (by decide +kernel))
        (fun _ _ _ _ _ => pg_name (i := 6) sc35.nd rfl (.inr rfl)) (fun _ _ _ _ _ => pts_nil) (fun _ _ _ _ _ => pv 6)
        (fun _ _ _ _ _ => pe_lc (X := Cx.blk _ _ _ _ _ _) (own := [("taker", 8)]) (g := gName 8) (wi := iList K (tDGet (tVar 2) (tVar 6))) rfl sc35.nd (pi_list (pe_dget (X := Cx.blk _ _ _ _ _ _) hu (pv 2) (pv 6) (fun _ _ => rfl))) (blkOk_by (own := [("taker", 8)]) (N := N35) (sc := scDC) (by decide +kernel))
          (fun _ _ _ _ _ => pg_name (i := 8) sc35.nd rfl (.inl rfl)) (fun _ _ _ _ _ => pts_one (pt_cmpR op_ne (pv 8) (pe_dget (X := Cx.blk (Cx.blk _ _ _ _ _ _) _ _ _ _ _) hu (pv 5) (pv 6) (fun _ _ => rfl)) (nomark _))) (fun _ _ _ _ _ => pv 8)))))))))
    (pss_one (ps_ret (pv 3))))), ?_⟩
  -- rest = {giver: sorted(takers) for giver, takers in chosen.items()}
  refine ⟨cd, _, hcd, trivial, fun oc => ?_⟩
  refine ⟨_, rfl, cd, oc, _, rfl, upd_same, fun D0 nD0 => ?_⟩
  have nac : ∀ z ∈ ps, ac z ≠ cd := fun z hz => ne_of (dl.ls z hz) hcd fun q => nomatch q
  have nDc : D0 ≠ cd := fun z => by rw [z, upd_same] at nD0; cases nD0
  refine dc_lists walk_kvI I.nd (by omega) nD0 (fun z ys => ys.Perm (C z)) (fun H' sm => sm _ _ upd_same) (fun i z x H1 H2 Kc hz sm hy hk => ?_) fun H' ad R1 sm eD dl1 fr pr => ?_
  · obtain ⟨T, z', rfl, nT, rfl, hz'⟩ := hy
    rw [hz] at hz'
    cases hz'
    have hzp : z ∈ ps := List.mem_of_getElem? hz
    have e1 : (upd H1 T (.tup [.str z, .ref (ac z)])) (ac z) = some (.lst (svs (C z))) := same_new nT _ _ (sm _ _ (by rw [upd_ne (nac z hzp)]; exact dl.ls z hzp))
    have l1 : (C z).length ≤ ps.length := nodup_le (fu.nd z hzp) fun t ht => I.sub z hzp t (fu.sub z hzp t ht)
    refine ⟨T, _, rfl, tupT upd_same, rfl, _, _, rfl, _, _, rfl, rfl, rfl, _, rfl, _, rfl, ac z, C z, rfl, lstL e1, by omega, fun ys p pe _ np => ?_⟩
    exact hk _ p ys ((same_new nT).trans (same_new np)) ((same_new nT).free np) upd_same pe
  refine ⟨sm _ _ upd_same, ?_⟩
  have s1 : Same H (upd H' cd (.dK (kvA ps ac))) := same_unlock (od := oc) hcd fun b o hb e => sm b o (by rw [upd_ne hb]; exact e)
  have eD1 : (upd H' cd (.dK (kvA ps ac))) D0 = some (.dK (kvA ps ad)) := by rw [upd_ne nDc]; exact eD
  have dl2 : DL (upd H' cd (.dK (kvA ps ac))) ps ad R1 := by
    refine ⟨fun z hz => ?_, dl1.inj⟩
    rw [upd_ne fun e => ?_]
    · exact dl1.ls z hz
    · have := (fr z hz).1
      rw [e, upd_same] at this
      cases this
  have rg : Reg ps y R1 := fu.reg I pr
  generalize upd H' cd (.dK (kvA ps ac)) = H1 at s1 eD1 dl2
  have sub1 : ∀ z ∈ ps, ∀ t ∈ R1 z, t ∈ R z := fun z hz t ht => fu.sub z hz t ((pr z hz).mem_iff.mp ht)
  clear eD dl1 fr pr sm nD0 nDc H'
  -- drawings = []
  refine ⟨Nat.zero_le _, fun l nl => ?_⟩
  have nlH : H l = none := s1.free nl
  refine ⟨_, rfl, (y : Int), rfl, by omega, by omega, for_range (lo := 0) (fun i σ H' => ∃ y4 y5 rc ad R' qs, σ = [some (.ref cd), some (.int y), some (.ref rc), some (.ref l), y4, y5, none, none, none] ∧ Same H H' ∧ H' rc = some (.dK (kvA ps ad)) ∧ DL H' ps ad R' ∧ Reg ps (y - i) R' ∧ (∀ z ∈ ps, ∀ t ∈ R' z, t ∈ R z) ∧ PlanAt H' l ps qs ∧ qs.length = i ∧ Plan ps R (qs.map (·.2)) ∧ (∀ q ∈ qs, ∀ z ∈ ps, q.2 z ∉ R' z) ∧ ∀ z ∈ ps, ad z ≠ l)
    ⟨none, none, D0, ad, R1, [], rfl, s1.trans (same_new nl), same_new nl _ _ eD1, dl2.same (same_new nl), rg, sub1, ⟨upd_same, fun q hq => absurd hq List.not_mem_nil⟩, rfl, ⟨fun d hd => absurd hd List.not_mem_nil, List.Pairwise.nil⟩, fun q hq => absurd hq List.not_mem_nil, fun z hz => ne_of_none (dl2.ls z hz) nl⟩ ?_ ?_⟩
  · clear rg sub1 dl2 eD1 s1
    rintro i σ Ha hi ⟨y4, y5, rc, ad, R', qs, rfl, s1, erc, dl, rg, sub, pa, ql, pl, ap, al⟩
    have hi : i < y := hi
    obtain ⟨k, hk⟩ : ∃ k, y - i = k + 1 := ⟨y - i - 1, by omega⟩
    rw [hk] at rg
    refine ⟨_, rfl, rc, ps, ad, R', k, rfl, erc, dl, rg, h8, fun Hb D dr s2 nD eD dw => ?_⟩
    have el := s2 _ _ pa.at_
    refine ⟨_, rfl, .inl ⟨rfl, _, lstL el⟩, _, rfl, l, _, _, rfl, rfl, el, small1000 (by rw [List.length_map]; omega), ?_⟩
    have s3 : Same H (upd Hb l (.lst ((qs.map fun q => .ref q.1) ++ [.ref D]))) := same_upd (s1.trans s2) nlH
    have nlD : D ≠ l := (ne_of_none pa.at_ nD).symm
    have erc3 : (upd Hb l (.lst ((qs.map fun q => .ref q.1) ++ [.ref D]))) rc = some (.dK (kvA ps ad)) := by
      rw [upd_ne (ne_of (s2 _ _ erc) el fun z => nomatch z)]
      exact s2 _ _ erc
    have eD3 : (upd Hb l (.lst ((qs.map fun q => .ref q.1) ++ [.ref D]))) D = some (.dK (kvD ps fun z => .str (dr z))) := by
      rw [upd_ne nlD]
      exact eD
    have dl3 : DL (upd Hb l (.lst ((qs.map fun q => .ref q.1) ++ [.ref D]))) ps ad R' := ⟨fun z hz => by rw [upd_ne (al z hz)]; exact s2 _ _ (dl.ls z hz), dl.inj⟩
    have pa3 : PlanAt (upd Hb l (.lst ((qs.map fun q => .ref q.1) ++ [.ref D]))) l ps (qs ++ [(D, dr)]) := by
      refine ⟨?_, fun q hq => ?_⟩
      · rw [upd_same, List.map_append]
        rfl
      · rcases List.mem_append.mp hq with h | h
        · have := s2 _ _ (pa.ds q h)
          rw [upd_ne (ne_of this el fun z => nomatch z)]
          exact this
        · have : q = (D, dr) := by simpa using h
          rw [this]
          exact eD3
    generalize upd Hb l (.lst ((qs.map fun q => .ref q.1) ++ [.ref D])) = H3 at s3 erc3 eD3 dl3 pa3
    have nDr : D ≠ rc := (ne_of_none erc nD).symm
    clear eD nD el s2 Hb pa dl erc s1
    -- rest = {giver: [..] for giver in rest}
    refine ⟨rc, _, erc3, trivial, fun oR => ?_⟩
    refine ⟨_, rfl, rc, oR, rfl, .inl ⟨_, upd_same, fun D2 nD2 => ?_⟩⟩
    have adr : ∀ z ∈ ps, ad z ≠ rc := fun z hz => ne_of (dl3.ls z hz) erc3 fun q => nomatch q
    have nD2r : D2 ≠ rc := fun z => by rw [z, upd_same] at nD2; cases nD2
    refine dc_lists walk_kvD I.nd (by omega) nD2 (fun z ys => ys = without R' dr z) (fun H' sm => sm _ _ upd_same) (fun j z x H1 H2 Kc hz sm hy hk => ?_) fun H' ad2 R2 sm eD2 dl4 fr pr => ?_
    · obtain ⟨rfl, z', hz', rfl⟩ := hy
      rw [hz] at hz'
      cases hz'
      have hzp : z ∈ ps := List.mem_of_getElem? hz
      have e1 : H2 (ad z) = some (.lst (svs (R' z))) := sm _ _ (by rw [upd_ne (adr z hzp)]; exact dl3.ls z hzp)
      have e2 : H2 D = some (.dK (kvD ps fun z => .str (dr z))) := sm _ _ (by rw [upd_ne nDr]; exact eD3)
      have l1 : (R' z).length ≤ ps.length := nodup_le (rg.rnd z hzp) (rg.sub z hzp)
      refine ⟨wipe_set1, _, rfl, _, rfl, _, rfl, rc, _, rfl, dget_p (.inr ⟨oR, sm _ _ upd_same⟩) hzp, ad z, rfl, ⟨_, lstL e1⟩, fun L nL => ?_⟩
      refine lc_filter walk_listS (fun t => !decide (t = dr z)) nL (by show 8 < 9; decide) (by omega) yat_svs (fun H' s => lstL (s _ _ e1)) (fun t ht H' s R hR => ?_) (fun H' s eL => ?_)
      · refine ⟨_, rfl, _, rfl, _, rfl, D, _, rfl, dget_p (.inl (s _ _ e2)) hzp, rfl, _, rfl, ?_⟩
        have := hR H' (Same.refl _)
        have e3 : decide (V.str t = V.str (dr z)) = decide (t = dr z) := by simp
        rw [e3]
        exact this
      · exact hk H' L _ s nL eL rfl
    · refine ⟨sm _ _ upd_same, ?_⟩
      have s4 : Same H3 (upd H' rc (.dK (kvA ps ad))) := same_unlock (od := oR) erc3 fun b o hb e => sm b o (by rw [upd_ne hb]; exact e)
      refine ⟨_, _, D2, ad2, without R' dr, qs ++ [(D, dr)], rfl, s3.trans s4, by rw [upd_ne nD2r]; exact eD2, ⟨fun z hz => ?_, dl4.inj⟩, ?_, fun z hz t ht => sub z hz t (List.mem_filter.mp ht).1, pa3.same s4, by rw [List.length_append, ql]; rfl, ⟨fun d hd => ?_, ?_⟩, fun q hq z hz => ?_, fun z hz => ?_⟩
      · have n1 : ad2 z ≠ rc := fun e => by
          have := (fr z hz).1
          rw [e, upd_same] at this
          cases this
        rw [upd_ne n1, dl4.ls z hz, pr z hz]
      · have e1 : y - (i + 1) = k := by omega
        rw [e1]
        exact rg.without dw
      · rw [List.map_append] at hd
        rcases List.mem_append.mp hd with h | h
        · exact pl.all d h
        · have : d = dr := by simpa using h
          rw [this]
          exact ⟨fun g hg => sub g hg _ (dw.may g hg), dw.inj⟩
      · rw [List.map_append]
        refine List.pairwise_append.mpr ⟨pl.apart, List.pairwise_singleton _ _, fun a ha b hb g hg e => ?_⟩
        obtain ⟨q, hq, rfl⟩ := List.mem_map.mp ha
        have eb : b = dr := by simpa using hb
        rw [eb] at e
        exact ap q hq g hg (by rw [e]; exact dw.may g hg)
      · rcases List.mem_append.mp hq with h | h
        · exact fun m => ap q h z hz (List.mem_filter.mp m).1
        · have : q = (D, dr) := by simpa using h
          subst this
          intro m
          have := (List.mem_filter.mp m).2
          simp at this
      · intro e
        have h1 := (fr z hz).1
        have n2 : l ≠ rc := ne_of pa3.at_ erc3 fun z => nomatch z
        rw [e, upd_ne n2, pa3.at_] at h1
        cases h1
  · rintro σ Ha ⟨y4, y5, rc, ad, R', qs, rfl, s1, erc, dl, rg, sub, pa, ql, pl, ap, al⟩
    exact ⟨_, rfl, q Ha l qs s1 nlH pa pl ql⟩
/-! ### plan_of -/
def spPlanOf : Sp := fun vs H Q _ => ∃ (rd : Addr) (y : Nat) (ps : List Str) (ar : Str → Addr) (R : Str → List Str), vs = [.ref rd, .int y] ∧ H rd = some (.dK (kvA ps ar)) ∧ DL H ps ar R ∧ Inst ps R ∧ ps.length ≤ 8 ∧ ps ≠ [] ∧
  (∀ S T, ¬ Bar ps R y S T) ∧ ∀ H' l qs, Same H H' → H l = none → PlanAt H' l ps qs → Plan ps R (qs.map (·.2)) → qs.length = y → Q (.ref l) H'
theorem sc36 : FnScope ["rows", "years", "chosen"] ["rows", "years"] (defScope (top 36)) := ⟨rfl, rfl, rfl, by decide +kernel, rfl, by decide +kernel, by decide +kernel⟩
theorem no_choice_choice {ps : List Str} {R : Str → List Str} {y : Nat} : Choice ps R y (fun _ => []) where
  nd := fun _ _ => List.nodup_nil
  sub := fun _ _ t ht => by cases ht
  len := fun _ _ => Nat.zero_le _
  ld := fun t ht => Nat.le_trans ((full_zero (ps := ps) (R := R)).ld t ht) (Nat.zero_le _)
theorem ok_plan_of (D : Def K mg "plan_of" (top 36)) (cN : Cal P w K mg base "no_choice" ["rows"] 1 spNoChoice) (cS : Cal P w K mg base "spread" ["rows", "chosen", "years"] 2 spSpread) (cT : Cal P w K mg base "taken_apart" ["chosen", "years"] 12 spApart) : Cal P w K mg base "plan_of" ["rows", "years"] 13 spPlanOf := by
  refine D.cal sc36 (fun vs H Q E h => ?_) (fun _ _ _ _ _ _ us hl => match us, hl with | [_, _], _ => rfl) fun f cdv A outer s H vs Q E hr h => ?_
  · obtain ⟨rd, y, ps, ar, R, rfl, _⟩ := h
    rfl
  obtain ⟨rd, y, ps, ar, R, rfl, hrd, rl, I, h8, hne, nb, q⟩ := h
  refine ⟨_, pss_cons (ps_set (i := 2) sc36.nd rfl (.inl rfl) (pe_cal cN (hr.mono (by decide)) (by rfl) (pa_cons (pv 0) pa_nil)))
    (pss_cons (ps_expr (pe_cal cS (hr.mono (by decide)) (by rfl) (pa_cons (pv 0) (pa_cons (pv 2) (pa_cons (pv 1) pa_nil)))))
    (pss_one (ps_ret (pe_cal cT hr (by rfl) (pa_cons (pv 2) (pa_cons (pv 1) pa_nil)))))), ?_⟩
  refine ⟨_, rfl, rd, ps, _, rfl, hrd, by omega, I.nd, fun H1 cd ac s1 ncd hcd dl fr => ?_⟩
  have fr0 : ∀ z ∈ ps, H (ac z) = none := fun z hz => (fr z hz).1
  have tw : Two2 H1 rd cd ps ar ac R (fun _ => []) := ⟨s1 _ _ hrd, rl.same s1, hcd, dl, ne_of_none hrd ncd, fun y hy z hz => ne_of_none (rl.ls y hy) (fr0 z hz), I, h8⟩
  refine ⟨_, rfl, _, rfl, _, rfl, rd, cd, y, ps, ar, ac, R, _, rfl, tw, no_choice_choice, fun H2 C2 s2 dl2 f2 => ?_, fun H2 T a b S Tt s2 nT na nb' eT ea eb so1 so2 br => absurd br (nb S Tt)⟩
  have s3 := s2.fresh s1 fr0
  refine ⟨_, rfl, _, rfl, cd, y, ps, ac, R, C2, rfl, (tw.next s2 dl2).hc, dl2, I, f2, h8, by have := full_le I hne f2; omega, fun H3 l qs s4 nl pa pl ql => ?_⟩
  exact q H3 l qs (s3.trans s4) (s3.free nl) pa pl ql
end
end K56
set_option Elab.async false
set_option linter.all false
set_option maxRecDepth 100000
/-! Sorted lists of texts: two of the same people are the same list. -/
namespace K56
open PySem PySem.Spec PyProof.Rows L2
def LeS (a b : Str) : Prop := ¬ b.cps.toList < a.cps.toList
abbrev Srt (xs : List Str) : Prop := xs.Pairwise LeS
theorem LeS.anti {a b : Str} (h : LeS a b) (h' : LeS b a) : a = b := by
  have e : a.cps.toList = b.cps.toList := List.le_antisymm (as := a.cps.toList) (bs := b.cps.toList) h h'
  cases a
  cases b
  congr 1
  exact Array.toList_inj.mp e
theorem LeS.trans {a b c : Str} (h : LeS a b) (h' : LeS b c) : LeS a c := List.le_trans (l₁ := a.cps.toList) (l₂ := b.cps.toList) (l₃ := c.cps.toList) h h'
theorem rising_pw : ∀ (l : List Str) (p : Str), risingS p l = true → (p :: l).Pairwise LeS
  | [], p, _ => List.pairwise_singleton _ _
  | x :: r, p, h => by
    have h : (!ltCps x.cps.toList p.cps.toList && risingS x r) = true := h
    obtain ⟨h1, h2⟩ := Bool.and_eq_true_iff.mp h
    have ih := rising_pw r x h2
    have hx : LeS p x := by
      rw [PyProof.Rows.ltCps_eq] at h1
      simpa [LeS] using h1
    refine List.pairwise_cons.mpr ⟨fun y hy => ?_, ih⟩
    rcases List.mem_cons.mp hy with e | hy
    · exact e ▸ hx
    · exact hx.trans (List.rel_of_pairwise_cons ih hy)
theorem sorted_pw {l : List Str} (h : sortedS l = true) : Srt l := by
  cases l with
  | nil => exact List.Pairwise.nil
  | cons x r => exact rising_pw r x h
theorem srt_uniq : ∀ {xs ys : List Str}, Srt xs → Srt ys → xs.Perm ys → xs = ys
  | [], ys, _, _, p => (List.nil_perm.mp p).symm
  | x :: r, [], _, _, p => by
    have := p.length_eq
    cases this
  | x :: r, y :: t, h1, h2, p => by
    have e : x = y := by
      have m1 : x ∈ y :: t := p.mem_iff.mp List.mem_cons_self
      have m2 : y ∈ x :: r := p.mem_iff.mpr List.mem_cons_self
      rcases List.mem_cons.mp m1 with e | m1
      · exact e
      · rcases List.mem_cons.mp m2 with e | m2
        · exact e.symm
        · exact (List.rel_of_pairwise_cons h1 m2).anti (List.rel_of_pairwise_cons h2 m1)
    subst e
    rw [srt_uniq (List.pairwise_cons.mp h1).2 (List.pairwise_cons.mp h2).2 (List.perm_cons x |>.mp p)]
end K56
set_option Elab.async false
set_option linter.all false
set_option maxRecDepth 100000
/-! Texts, pairs, lists of them as data. -/
namespace K56
open PySem PySem.Spec PyProof.Rows L2
theorem hu64 {A : Around} {k : Nat} (hr : Room k A) : A.units + 64 < cLine := by have := hr.un; omega
theorem hu65 {A : Around} {k : Nat} (hr : Room k A) : A.units + 65 < cLine := by have := hr.un; omega
theorem letters_ok : letters.cps.all (· < 0x110000) = true := by decide +kernel
theorem NameOk.str {z : Str} (h : NameOk z) : PyData.strOk z = true := by
  unfold PyData.strOk
  rw [← Array.all_toList, List.all_eq_true]
  intro c hc
  have := letters_ok
  rw [← Array.all_toList, List.all_eq_true] at this
  exact this c (h.low c hc)
abbrev dS (z : Str) : PyData := .str z
abbrev dSs (xs : List Str) : List PyData := xs.map dS
abbrev dP (p : Str × Str) : PyData := .tuple [.str p.1, .str p.2]
abbrev dPs (xs : List (Str × Str)) : List PyData := xs.map dP
theorem dp_all {K : PySem.W.Frag} {H : Hp} : ∀ xs : List Str, DpAll K H (svs xs) (dSs xs)
  | [] => .nil
  | x :: r => .cons (.str x) (dp_all r)
theorem dp_svs {K : PySem.W.Frag} {H : Hp} {a : Addr} {xs : List Str} (h : SqL K H a (svs xs)) : Dp K H (.ref a) (.list (dSs xs)) := .lst h (dp_all xs)
theorem dp_pair {K : PySem.W.Frag} {H : Hp} {a : Addr} {x y : Str} (h : SqT K H a [.str x, .str y]) : Dp K H (.ref a) (dP (x, y)) := .tup h (.cons (.str x) (.cons (.str y) .nil))
theorem dp_pairs {K : PySem.W.Frag} {H : Hp} : ∀ rs : List (Addr × Str × Str), (∀ r ∈ rs, SqT K H r.1 [.str r.2.1, .str r.2.2]) → DpAll K H (rs.map fun r => V.ref r.1) (dPs (rs.map (·.2)))
  | [], _ => .nil
  | r :: rs, h => .cons (dp_pair (h r List.mem_cons_self)) (dp_pairs rs fun x hx => h x (List.mem_cons_of_mem _ hx))
theorem eqv_str (x y : Str) : PyData.eqv (.str x) (.str y) = decide (x = y) := by
  simp only [PyData.eqv]
  rfl
theorem eqvAll_svs : ∀ xs ys : List Str, PyData.eqvAll (dSs xs) (dSs ys) = decide (xs = ys)
  | [], [] => by simp [PyData.eqvAll]
  | [], _ :: _ => by simp [PyData.eqvAll]
  | _ :: _, [] => by simp [PyData.eqvAll]
  | x :: xs, y :: ys => by
    show PyData.eqvAll (dS x :: dSs xs) (dS y :: dSs ys) = _
    simp only [PyData.eqvAll]
    rw [eqvAll_svs xs ys, eqv_str]
    by_cases h : x = y
    · by_cases h2 : xs = ys
      · simp [h, h2]
      · simp [h, h2]
    · simp [h]
theorem eqv_svs (xs ys : List Str) : PyData.eqv (.list (dSs xs)) (.list (dSs ys)) = decide (xs = ys) := by
  simp only [PyData.eqv]
  exact eqvAll_svs xs ys
theorem eqv_pair (p q : Str × Str) : PyData.eqv (dP p) (dP q) = decide (p = q) := by
  simp only [PyData.eqv, PyData.eqvAll]
  have e : ∀ x y : Str, (x == y) = decide (x = y) := fun x y => rfl
  rw [e, e]
  by_cases h : p.1 = q.1
  · by_cases h2 : p.2 = q.2
    · simp [h, h2, Prod.ext_iff]
    · simp [h, h2, Prod.ext_iff]
  · simp [h, Prod.ext_iff]
theorem any_pairs (xs : List (Str × Str)) (p : Str × Str) : ((dPs xs).any fun z => PyData.eqv z (dP p)) = decide (p ∈ xs) := by
  induction xs with
  | nil => rfl
  | cons x r ih =>
    show ((dP x :: dPs r).any fun z => PyData.eqv z (dP p)) = _
    rw [List.any_cons, ih, eqv_pair]
    by_cases h : x = p
    · simp [h]
    · have h' : ¬ p = x := fun e => h e.symm
      simp [h, h']
theorem lay_svs : ∀ xs : List Str, (∀ x ∈ xs, PyData.strOk x = true) → PyData.canLayAll0 (dSs xs) = true ∧ PyData.depthAll (dSs xs) = 0
  | [], _ => ⟨rfl, rfl⟩
  | x :: xs, h => by
    obtain ⟨h1, h2⟩ := lay_svs xs fun y hy => h y (List.mem_cons_of_mem _ hy)
    constructor
    · show PyData.canLayAll0 (dS x :: dSs xs) = true
      simp only [PyData.canLayAll0, PyData.canLay0]
      rw [h x List.mem_cons_self, h1]
      rfl
    · show PyData.depthAll (dS x :: dSs xs) = 0
      simp only [PyData.depthAll, PyData.depth]
      rw [h2]
      rfl
theorem shaped_svs {xs : List Str} (h : ∀ x ∈ xs, PyData.strOk x = true) : SeqAt.shaped (.list (dSs xs)) = true := by
  obtain ⟨h1, h2⟩ := lay_svs xs h
  refine Bool.and_eq_true_iff.mpr ⟨?_, decide_eq_true ?_⟩
  · simp only [PyData.canLay0]
    exact h1
  · simp only [PyData.depth]
    omega
theorem shaped_pair {p : Str × Str} (h1 : PyData.strOk p.1 = true) (h2 : PyData.strOk p.2 = true) : SeqAt.shaped (dP p) = true := by
  refine Bool.and_eq_true_iff.mpr ⟨?_, decide_eq_true ?_⟩
  · simp only [PyData.canLay0, PyData.canLayAll0]
    rw [h1, h2]
    rfl
  · simp only [PyData.depth, PyData.depthAll]
    omega
theorem lay_pairs : ∀ xs : List (Str × Str), (∀ p ∈ xs, PyData.strOk p.1 = true ∧ PyData.strOk p.2 = true) → PyData.canLayAll0 (dPs xs) = true ∧ PyData.depthAll (dPs xs) ≤ 1
  | [], _ => ⟨rfl, Nat.zero_le _⟩
  | x :: xs, h => by
    obtain ⟨h1, h2⟩ := lay_pairs xs fun y hy => h y (List.mem_cons_of_mem _ hy)
    obtain ⟨h3, h4⟩ := h x List.mem_cons_self
    constructor
    · show PyData.canLayAll0 (dP x :: dPs xs) = true
      simp only [PyData.canLayAll0, PyData.canLay0]
      rw [h3, h4, h1]
      rfl
    · show PyData.depthAll (dP x :: dPs xs) ≤ 1
      simp only [PyData.depthAll, PyData.depth]
      have : ∀ n : Nat, max 0 n = n := fun n => Nat.zero_max n
      omega
theorem shaped_pairs {xs : List (Str × Str)} (h : ∀ p ∈ xs, PyData.strOk p.1 = true ∧ PyData.strOk p.2 = true) : SeqAt.shaped (.list (dPs xs)) = true := by
  obtain ⟨h1, h2⟩ := lay_pairs xs h
  refine Bool.and_eq_true_iff.mpr ⟨?_, decide_eq_true ?_⟩
  · simp only [PyData.canLay0]
    exact h1
  · simp only [PyData.depth]
    omega
end K56
set_option Elab.async false
set_option linter.all false
set_option maxRecDepth 100000
/-! is_integer, check_years, most_years, bar, is_sorted_lot, bar_fault. -/
namespace K56
open PySem PySem.Spec PyProof.Rows L2 Gift
/-! ### rows in another order -/
abbrev rowsOf (ps : List Str) (bs : List (Str × Str)) : Str → List Str := fun z => ps.filter (okp bs z)
theorem okp_ne {bs : List (Str × Str)} {a b : Str} (h : okp bs a b = true) : a ≠ b := by
  unfold okp at h
  exact of_decide_eq_true (Bool.and_eq_true_iff.mp h).1
theorem rows_inst {ps : List Str} {bs : List (Str × Str)} {R : Str → List Str} (hn : ps.Nodup) (h : Rows ps bs R) : Inst ps R where
  nd := hn
  rnd := fun g hg => (h g hg).nodup_iff.mpr (hn.sublist List.filter_sublist)
  sub := fun g hg t ht => (List.mem_filter.mp ((h g hg).mem_iff.mp ht)).1
theorem rowsOf_rows {ps : List Str} {bs : List (Str × Str)} : Rows ps bs (rowsOf ps bs) := fun _ _ => List.Perm.refl _
theorem full_perm {ps : List Str} {R R' C : Str → List Str} {y : Nat} (h : ∀ z ∈ ps, (R z).Perm (R' z)) (f : Full ps R y C) : Full ps R' y C where
  nd := f.nd
  sub := fun g hg t ht => (h g hg).mem_iff.mp (f.sub g hg t ht)
  len := f.len
  ld := f.ld
  full := f.full
theorem bar_perm {ps S T : List Str} {R R' : Str → List Str} {y : Nat} (h : ∀ z ∈ ps, (R z).Perm (R' z)) (b : Bar ps R y S T) : Bar ps R' y S T where
  snd := b.snd
  tnd := b.tnd
  ssub := b.ssub
  tsub := b.tsub
  ineq := by
    have e : pairsIn R' S T = pairsIn R S T := sum_congr fun g hg => ((h g (b.ssub g hg)).countP_eq _).symm
    rw [e]
    exact b.ineq
theorem plan_perm {ps : List Str} {R R' : Str → List Str} {ds : List (Str → Str)} (h : ∀ z ∈ ps, (R z).Perm (R' z)) (p : Plan ps R ds) : Plan ps R' ds where
  all := fun d hd => ⟨fun g hg => (h g hg).mem_iff.mp ((p.all d hd).may g hg), (p.all d hd).inj⟩
  apart := p.apart
theorem rows_sym {ps : List Str} {bs : List (Str × Str)} {R : Str → List Str} (h : Rows ps bs R) : ∀ z ∈ ps, (rowsOf ps bs z).Perm (R z) := fun z hz => (h z hz).symm
section
variable {P : Program} {w : World} {K : PySem.W.Frag} {mg : Str → Option Value} {base : Heap} {C : Addr}
/-! ### is_integer, check_years -/
def spIsInt : Sp := fun vs H Q _ => ∃ i : Int, vs = [.int i] ∧ Q (.bl true) H
theorem sc25 : FnScope ["number"] ["number"] (defScope (top 25)) := ⟨rfl, rfl, rfl, by decide +kernel, rfl, by decide +kernel, by decide +kernel⟩
theorem ok_is_integer (D : Def K mg "is_integer" (top 25)) (g : Glo mg) : Cal P w K mg base "is_integer" ["number"] 1 spIsInt := by
  refine D.cal sc25 (fun vs H Q E h => ?_) (fun _ _ _ _ _ _ us hl => match us, hl with | [_], _ => rfl) fun f cdv A outer s H vs Q E hr h => ?_
  · obtain ⟨i, rfl, _⟩ := h
    rfl
  obtain ⟨i, rfl, q⟩ := h
  refine ⟨_, pss_one (ps_ret (pe_and (pe_isi g.isi g.int boot_int (pv 0)) (pe_one (pe_not (pe_isi g.isi g.bool boot_bool (pv 0)))))), ?_⟩
  refine ⟨_, rfl, _, _, _, rfl, .base (.int i), by decide +kernel, true, rfl, iteT ?_⟩
  exact ⟨_, rfl, _, _, _, rfl, .base (.int i), by decide +kernel, false, rfl, q⟩
def spCheckYears : Sp := fun vs H Q _ => ∃ y : Nat, vs = [.int y] ∧ y ≤ 24 ∧ Q .non H
theorem sc37 : FnScope ["years"] ["years"] (defScope (top 37)) := ⟨rfl, rfl, rfl, by decide +kernel, rfl, by decide +kernel, by decide +kernel⟩
theorem ok_check_years (D : Def K mg "check_years" (top 37)) (gM : ∃ t, mg "MOST_YEARS" = some (.int 24 t)) (cI : Cal P w K mg base "is_integer" ["number"] 1 spIsInt) : Cal P w K mg base "check_years" ["years"] 2 spCheckYears := by
  obtain ⟨tM, gM⟩ := gM
  refine D.cal sc37 (fun vs H Q E h => ?_) (fun _ _ _ _ _ _ us hl => match us, hl with | [_], _ => rfl) fun f cdv A outer s H vs Q E hr h => ?_
  · obtain ⟨y, rfl, _⟩ := h
    rfl
  obtain ⟨y, rfl, hy, q⟩ := h
  refine ⟨_, pss_one (ps_if (PW.pt (pw_or (pt_not (pt_val (pe_cal cI hr (by rfl) (pa_cons (pv 0) pa_nil)))) (pw_or1 (pt_not (pt_chain op_le op_le pe_int (pv 0) (pe_glob (v := .int 24) rfl gM ⟨_, rfl⟩)))))) pss_never pss_nil), ?_⟩
  refine ⟨_, rfl, (y : Int), rfl, true, rfl, iteF ?_⟩
  exact ⟨_, rfl, 0, (y : Int), rfl, rfl, true, congrArg V.bl (decide_eq_true (by omega)), iteT ⟨(y : Int), 24, rfl, rfl, true, congrArg V.bl (decide_eq_true (by omega)), iteF q⟩⟩
/-! ### most_years -/
def spMostYears (C : Addr) : Sp := fun vs H Q _ => ∃ (p : Addr) (ps : List Str) (bs : List (Str × Str)), vs = [.ref p] ∧ PartyAt C H p ps bs ∧ ps.length ≤ 8 ∧ ps.Nodup ∧ ps ≠ [] ∧
  ∀ H' (y : Nat) Cm S T, Same H H' → Full ps (rowsOf ps bs) y Cm → Bar ps (rowsOf ps bs) (y + 1) S T → Q (.int y) H'
theorem sc38 : FnScope ["party"] ["party"] (defScope (top 38)) := ⟨rfl, rfl, rfl, by decide +kernel, rfl, by decide +kernel, by decide +kernel⟩
theorem ok_most_years (D : Def K mg "most_years" (top 38)) (cR : Cal P w K mg base "party_rows" ["party"] 7 (spRows C)) (cM : Cal P w K mg base "most_of" ["rows"] 3 spMost) : Cal P w K mg base "most_years" ["party"] 8 (spMostYears C) := by
  refine D.cal sc38 (fun vs H Q E h => ?_) (fun _ _ _ _ _ _ us hl => match us, hl with | [_], _ => rfl) fun f cdv A outer s H vs Q E hr h => ?_
  · obtain ⟨p, ps, bs, rfl, _⟩ := h
    rfl
  obtain ⟨p, ps, bs, rfl, pt, h8, hn, hne, q⟩ := h
  refine ⟨_, pss_one (ps_ret (pe_cal cM (hr.mono (by decide)) (by rfl) (pa_cons (pe_cal cR hr (by rfl) (pa_cons (pv 0) pa_nil)) pa_nil))), ?_⟩
  refine ⟨_, rfl, p, ps, bs, rfl, pt, h8, hn, fun H1 d ad R s1 nd ed dl fr rr => ?_⟩
  refine ⟨d, ps, ad, R, rfl, ed, dl, rows_inst hn rr, h8, hne, fun H2 y Cm S T s2 fu br => ?_⟩
  exact q H2 y Cm S T (s1.trans s2) (full_perm rr fu) (bar_perm rr br)
/-! ### bar -/
def spBar (C : Addr) : Sp := fun vs H Q _ => ∃ (p : Addr) (y : Nat) (ps : List Str) (bs : List (Str × Str)), vs = [.ref p, .int y] ∧ y ≤ 24 ∧ PartyAt C H p ps bs ∧ ps.length ≤ 8 ∧ ps.Nodup ∧
  (∀ H' Cm, Same H H' → Full ps (rowsOf ps bs) y Cm → Q .non H') ∧
  (∀ H' T a b S Tt, Same H H' → H' T = some (.tup [.ref a, .ref b]) → H' a = some (.tup (svs S)) → H' b = some (.tup (svs Tt)) → sortedS S = true → sortedS Tt = true → Bar ps (rowsOf ps bs) y S Tt → Q (.ref T) H')
theorem sc40 : FnScope ["party", "years", "rows"] ["party", "years"] (defScope (top 40)) := ⟨rfl, rfl, rfl, by decide +kernel, rfl, by decide +kernel, by decide +kernel⟩
theorem ok_bar (D : Def K mg "bar" (top 40)) (cY : Cal P w K mg base "check_years" ["years"] 2 spCheckYears) (cR : Cal P w K mg base "party_rows" ["party"] 7 (spRows C)) (cN : Cal P w K mg base "no_choice" ["rows"] 1 spNoChoice) (cS : Cal P w K mg base "spread" ["rows", "chosen", "years"] 2 spSpread) : Cal P w K mg base "bar" ["party", "years"] 8 (spBar C) := by
  refine D.cal sc40 (fun vs H Q E h => ?_) (fun _ _ _ _ _ _ us hl => match us, hl with | [_, _], _ => rfl) fun f cdv A outer s H vs Q E hr h => ?_
  · obtain ⟨p, y, ps, bs, rfl, _⟩ := h
    rfl
  obtain ⟨p, y, ps, bs, rfl, hy, pt, h8, hn, qF, qB⟩ := h
  refine ⟨_, pss_cons (ps_expr (pe_cal cY (hr.mono (by decide)) (by rfl) (pa_cons (pv 1) pa_nil)))
    (pss_cons (ps_set (i := 2) sc40.nd rfl (.inl rfl) (pe_cal cR hr (by rfl) (pa_cons (pv 0) pa_nil)))
    (pss_one (ps_ret (pe_cal cS (hr.mono (by decide)) (by rfl) (pa_cons (pv 2) (pa_cons (pe_cal cN (hr.mono (by decide)) (by rfl) (pa_cons (pv 2) pa_nil)) (pa_cons (pv 1) pa_nil))))))), ?_⟩
  refine ⟨_, rfl, y, rfl, hy, ?_⟩
  refine ⟨_, rfl, p, ps, bs, rfl, pt, h8, hn, fun H1 rd ar R s1 nrd hrd rl fr rr => ?_⟩
  have I := rows_inst hn rr
  refine ⟨_, rfl, _, rfl, rd, ps, _, rfl, hrd, by omega, hn, fun H2 cd ac s2 ncd hcd dl fr2 => ?_⟩
  have fr0 : ∀ z ∈ ps, H1 (ac z) = none := fun z hz => (fr2 z hz).1
  have tw : Two2 H2 rd cd ps ar ac R (fun _ => []) := ⟨s2 _ _ hrd, rl.same s2, hcd, dl, ne_of_none hrd ncd, fun y hy z hz => ne_of_none (rl.ls y hy) (fr0 z hz), I, h8⟩
  refine ⟨_, rfl, rd, cd, y, ps, ar, ac, R, _, rfl, tw, no_choice_choice, fun H3 C2 s3 dl2 f2 => ?_, fun H3 T a b S Tt s3 nT na nb eT ea eb so1 so2 br => ?_⟩
  · exact qF H3 C2 (s1.trans (s3.fresh s2 fr0)) (full_perm rr f2)
  · exact qB H3 T a b S Tt (s1.trans (s3.fresh s2 fr0)) eT ea eb so1 so2 (bar_perm rr br)
/-! ### is_sorted_lot -/
def spLot (C : Addr) : Sp := fun vs H Q _ => ∃ (p t : Addr) (ps S : List Str) (bs : List (Str × Str)), vs = [.ref p, .ref t] ∧ PartyAt C H p ps bs ∧ H t = some (.tup (svs S)) ∧ (∀ x ∈ S, x ∈ ps) ∧ S.Nodup ∧ S.length ≤ 8 ∧ sortedS S = true ∧ (∀ x ∈ S, PyData.strOk x = true) ∧ ∀ H', Same H H' → Q (.bl true) H'
theorem sc41 : FnScope ["party", "lot"] ["party", "lot"] (defScope (top 41)) := ⟨rfl, rfl, rfl, by decide +kernel, rfl, by decide +kernel, by decide +kernel⟩
theorem ok_is_sorted_lot (D : Def K mg "is_sorted_lot" (top 41)) (g : Glo mg) (T : PTxt K mg C) (cP : MCal P w K mg base C "people" ["self"] 1 (spPeople C)) (cD : Cal P w K mg base "are_different" ["people", "values"] 2 (spDiff K)) : Cal P w K mg base "is_sorted_lot" ["party", "lot"] 3 (spLot C) := by
  refine D.cal sc41 (fun vs H Q E h => ?_) (fun _ _ _ _ _ _ us hl => match us, hl with | [_, _], _ => rfl) fun f cdv A outer s H vs Q E hr h => ?_
  · obtain ⟨p, t, ps, S, bs, rfl, _⟩ := h
    rfl
  obtain ⟨p, t, ps, S, bs, rfl, pt, ht, hs, hn, h8, so, st, q⟩ := h
  obtain ⟨fP, fdP, mP, bP, GP⟩ := cP.ex
  obtain ⟨dx, pa, d, kvs, h1, h2, h3, h4⟩ := pt.ob
  refine ⟨_, pss_cons (ps_if (PW.pt (pw_or (pt_not (pt_val (pe_isi g.isi g.tup boot_tuple (pv 1)))) (pw_or1 (pt_not (pt_val (pe_cal cD hr (by rfl) (pa_cons (pe_meth0 (pv 0) T.cl mP GP (hr.mono (by decide)) bP .nil pass0) (pa_cons (pv 1) pa_nil))))))))
      (pss_one (ps_ret pe_bl)) pss_nil)
    (pss_one (ps_ret (pe_cmpR (op_eqD (hu64 hr)) (pe_callTy call_list_of (by rfl) g.lst boot_list (pa_cons (pv 1) pa_nil)) (pe_callB cr_sortedTS (by rfl) g.srt boot_sorted (pa_cons (pv 1) pa_nil)) (nomark _)))), ?_⟩
  refine ⟨_, rfl, _, _, _, rfl, .base (.tup ht), by decide +kernel, true, rfl, iteF ?_⟩
  refine ⟨_, rfl, p, dx, _, rfl, h1, by first | (unfold pflds; rw [lookup_putF, if_neg (by decide +kernel), lookup_putF, if_neg (by decide +kernel)]; rfl), p, ps, bs, rfl, pt, fun pa' hpa' => ⟨_, rfl, pa', t, ps, S, rfl, tupT hpa', tupT ht, hs, by omega, fun H1 s1 => ⟨true, congrArg V.bl (decide_eq_true hn), iteF ?_⟩⟩⟩
  have ht1 := s1 _ _ ht
  refine ⟨_, rfl, t, _, rfl, .inr (tupT ht1), fun l nl => ?_⟩
  refine ⟨_, rfl, t, S, rfl, tupT (same_new nl _ _ ht1), by omega, fun ys m pe so2 nm => ?_⟩
  have e : S = ys := srt_uniq (sorted_pw so) (sorted_pw so2) pe.symm
  subst e
  have s2 := (same_new (o := .lst (svs S)) nl).trans (same_new (o := .lst (svs S)) nm)
  refine ⟨_, _, dp_svs (lstL (same_new nm _ _ upd_same)), dp_svs (lstL upd_same), shaped_svs st, shaped_svs st, ?_⟩
  rw [eqv_svs, decide_eq_true rfl]
  exact q _ (s1.trans s2)
end
end K56
set_option Elab.async false
set_option linter.all false
set_option maxRecDepth 100000
/-! is_drawing, plan_fault, bar_fault. -/
namespace K56
open PySem PySem.Spec PyProof.Rows L2 Gift
/-- a walk in a block, whatever its turn does -/
theorem walk_in {J : It} {n : Nat} {G : Hp → Prop} {Y : Nat → Hp → V → Hp → Prop} (w : Walk J n G Y) {H0 : Hp} {B : (Hp → Prop) → V → Hp → Prop} {Nx : Hp → Prop} (Pv : Nat → Hp → Prop) (h0 : Pv 0 H0) (hG : ∀ i H, i ≤ n → Pv i H → G H)
    (hs : ∀ i x H H', i < n → Pv i H → Y i H x H' → B (Pv (i + 1)) x H') (hd : ∀ H, Pv n H → Nx H) :
    ∃ W : Nat → Nat → Hp → Prop, (∃ fuel, W 0 fuel H0) ∧ ∀ i fuel H, W i fuel H → (J.stop i H ∧ Nx H) ∨ (J.go i H ∧ ∃ Nx1 : Hp → Prop, (∀ H', Nx1 H' → ∃ m', m' < fuel ∧ W (i + 1) m' H') ∧ ∀ x H', J.yld i H x H' → B Nx1 x H') := by
  refine ⟨fun i fuel H => fuel = n - i ∧ i ≤ n ∧ Pv i H, ⟨n, by simp, Nat.zero_le _, h0⟩, ?_⟩
  rintro i fuel H ⟨rfl, hi, p⟩
  have q := hG i H hi p
  by_cases hlt : i < n
  · exact .inr ⟨w.goes i H hlt q, Pv (i + 1), fun H' p' => ⟨n - (i + 1), by omega, rfl, hlt, p'⟩, fun x H' y => hs i x H H' hlt p (w.yields i H x H' hlt q y)⟩
  · have e : i = n := by omega
    subst e
    exact .inl ⟨w.stops H q, hd H p⟩
theorem pw_take {α : Type} {r : α → α → Prop} {l : List α} {i : Nat} {x : α} (h : l.Pairwise r) (hx : l[i]? = some x) : ∀ y ∈ l.take i, r y x := by
  intro y hy
  obtain ⟨hl, rfl⟩ := List.getElem?_eq_some_iff.mp hx
  have e : l.take i ++ l.drop i = l := List.take_append_drop i l
  rw [← e, List.pairwise_append] at h
  refine h.2.2 y hy _ ?_
  rw [List.drop_eq_getElem_cons hl]
  exact List.mem_cons_self
section
variable {P : Program} {w : World} {K : PySem.W.Frag} {mg : Str → Option Value} {base : Heap} {C : Addr}
/-! ### is_drawing -/
def spDrawing (C : Addr) : Sp := fun vs H Q _ => ∃ (p D : Addr) (ps : List Str) (bs : List (Str × Str)) (d : Str → Str), vs = [.ref p, .ref D] ∧ PartyAt C H p ps bs ∧ ps.length ≤ 8 ∧ ps.Nodup ∧ H D = some (.dK (kvD ps fun z => .str (d z))) ∧ Draw ps (rowsOf ps bs) d ∧ ∀ H', Same H H' → Q (.bl true) H'
theorem sc23 : FnScope ["party", "thing", "used", "giver"] ["party", "thing"] (defScope (top 23)) := ⟨rfl, rfl, rfl, by decide +kernel, rfl, by decide +kernel, by decide +kernel⟩
theorem ok_is_drawing (D : Def K mg "is_drawing" (top 23)) (g : Glo mg) (T : PTxt K mg C) (cP : MCal P w K mg base C "people" ["self"] 1 (spPeople C)) (cL : MCal P w K mg base C "__len__" ["self"] 1 (spLen C)) (cC : MCal P w K mg base C "__contains__" ["self", "pair"] 4 (spHas C)) : Cal P w K mg base "is_drawing" ["party", "thing"] 6 (spDrawing C) := by
  refine D.cal sc23 (fun vs H Q E h => ?_) (fun _ _ _ _ _ _ us hl => match us, hl with | [_, _], _ => rfl) fun f cdv A outer s H vs Q E hr h => ?_
  · obtain ⟨p, D, ps, bs, d, rfl, _⟩ := h
    rfl
  obtain ⟨p, Da, ps, bs, d, rfl, pt, h8, hn, hD, dw, q⟩ := h
  have hu := hu_of hr
  obtain ⟨fP, fdP, mP, bP, GP⟩ := cP.ex
  obtain ⟨dx, pa, dc, kvs, h1, h2, h3, h4⟩ := pt.ob
  refine ⟨_, pss_cons (ps_if (PW.pt (pw_or (pt_not (pt_val (pe_isi g.isi g.dct boot_dict (pv 1)))) (pw_or1 (pt_cmpR op_ne (pe_callB call_lenD (by rfl) g.len PySem.boot_len (pa_cons (pv 1) pa_nil)) (pe_callB (call_len_own cL (hr.mono (by decide))) (by rfl) g.len PySem.boot_len (pa_cons (pv 0) pa_nil)) (nomark _))))) pss_never pss_nil)
    (pss_cons (ps_set (i := 2) sc23.nd rfl (.inl rfl) pe_dnewK)
    (pss_cons (ps_for PassesOwn.never rfl (pi_tup (pe_meth0 (pv 0) T.cl mP GP (hr.mono (by decide)) bP .nil pass0)) (pg_name (i := 3) sc23.nd rfl (.inl rfl))
      (pss_cons (ps_if (pt_cmp (pc_dnotin hu (pv 3) (pv 1))) pss_never pss_nil)
      (pss_cons (ps_if (PW.pt (pw_or (pt_cmpR (op_notIn_own cC hr) (pe_tup (pa_cons (pv 3) (pa_cons (pe_dget hu (pv 1) (pv 3) (fun _ _ => rfl)) pa_nil))) (pv 0) (by rfl)) (pw_or1 (pt_cmp (pc_din hu (pe_dget hu (pv 1) (pv 3) (fun _ _ => rfl)) (pv 2)))))) pss_never pss_nil)
      (pss_one (ps_dput hu (pv 2) (pe_dget hu (pv 1) (pv 3) (fun _ _ => rfl)) pe_bl rfl)))))
    (pss_one (ps_ret pe_bl)))), ?_⟩
  refine ⟨_, rfl, _, _, _, rfl, .base (.dK hD), by decide +kernel, true, rfl, iteF ?_⟩
  refine ⟨_, rfl, Da, _, rfl, hD, _, rfl, p, dx, _, rfl, h1, p, ps, bs, rfl, pt, ps.length, rfl, by omega, rfl, false, ?_, iteF ?_⟩
  · rw [kvD_len]
    simp
  intro u nu
  refine ⟨_, rfl, p, dx, _, rfl, same_new nu _ _ h1, by first | (unfold pflds; rw [lookup_putF, if_neg (by decide +kernel), lookup_putF, if_neg (by decide +kernel)]; rfl), p, ps, bs, rfl, pt.same (same_new nu), fun pa' hpa' => ⟨pa', rfl, ⟨_, tupT hpa'⟩, ?_⟩⟩
  have npu : pa' ≠ u := ne_of hpa' upd_same fun z => nomatch z
  rw [upd_ne npu] at hpa'
  refine for_it (walk_tupS (xs := ps)) (fun i σ H' => ∃ y3, σ = [some (.ref p), some (.ref Da), some (.ref u), y3] ∧ Same H H' ∧ H' u = some (.dK (encT ((ps.take i).map d)))) ⟨none, rfl, same_new nu, upd_same⟩ (fun i σ H' _ h => ?_) ?_ ?_
  · obtain ⟨_, _, s1, _⟩ := h
    exact tupT (s1 _ _ hpa')
  · rintro i x σ Ha Hb hi ⟨y3, rfl, s1, eu⟩ ⟨rfl, hx⟩
    obtain ⟨z, hz, rfl⟩ := svs_get hx
    have hzp : z ∈ ps := List.mem_of_getElem? hz
    obtain ⟨hdp, hok⟩ := List.mem_filter.mp (dw.may z hzp)
    have hD1 := s1 _ _ hD
    refine ⟨_, rfl, _, rfl, Da, _, rfl, dget_p (.inl hD1) hzp, false, rfl, iteF ?_⟩
    refine ⟨_, rfl, _, rfl, _, rfl, Da, _, rfl, dget_p (.inl hD1) hzp, small64 (by show 2 ≤ 1000; decide), fun t nt => ?_⟩
    have s2 : Same H (upd Hb t (.tup [.str z, .str (d z)])) := s1.trans (same_new nt)
    refine ⟨_, rfl, p, dx, _, rfl, s2 _ _ h1, p, t, ps, bs, z, d z, rfl, pt.same s2, upd_same, hzp, hdp, fun H2 s3 => ⟨_, rfl, false, by rw [hok]; rfl, iteF ?_⟩⟩
    have s4 := s2.trans s3
    have hD2 := s4 _ _ hD
    have eu2 := s3 _ _ (same_new (o := .tup [.str z, .str (d z)]) nt _ _ eu)
    obtain ⟨o, go, eo⟩ := dget_T (z := d z) (.inl eu2)
    have hni : d z ∉ (ps.take i).map d := fun fuel => by
      obtain ⟨y, hy, e⟩ := List.mem_map.mp fuel
      have := dw.inj y (List.mem_of_mem_take hy) z hzp e
      subst this
      exact not_nd hz hy hn
    refine ⟨_, rfl, _, rfl, Da, _, rfl, dget_p (.inl hD2) hzp, _, rfl, u, o, rfl, go, false, by rw [eo, decide_eq_false hni], iteF ?_⟩
    refine ⟨_, rfl, _, rfl, _, rfl, Da, _, rfl, dget_p (.inl hD2) hzp, u, _, rfl, dput_T eu2 hni (by rw [List.length_map, List.length_take]; omega), ?_⟩
    refine ⟨_, rfl, same_upd s4 nu, ?_⟩
    rw [upd_same, List.take_add_one, hz, List.map_append]
    rfl
  · rintro σ Ha ⟨y3, rfl, s1, eu⟩
    exact q Ha s1
/-! ### plan_fault -/
def spPlanFault (C : Addr) : Sp := fun vs H Q _ => ∃ (p l : Addr) (ps : List Str) (bs : List (Str × Str)) (qs : List (Addr × (Str → Str))), vs = [.ref p, .ref l] ∧ PartyAt C H p ps bs ∧ ps.length ≤ 8 ∧ ps.Nodup ∧ PlanAt H l ps qs ∧ qs.length ≤ 8 ∧ Plan ps (rowsOf ps bs) (qs.map (·.2)) ∧ ∀ H', Same H H' → Q .non H'
abbrev N29 : List Str := ["party", "thing", "used", "index", "drawing", "giver", "taker"]
theorem sc29 : FnScope N29 ["party", "thing"] (defScope (top 29)) := ⟨rfl, rfl, rfl, by decide +kernel, rfl, by decide +kernel, by decide +kernel⟩
abbrev kP (a b : Str) : List Key := [Sum.inr a, Sum.inr b]
theorem ok_plan_fault (D : Def K mg "plan_fault" (top 29)) (g : Glo mg) (cD : Cal P w K mg base "is_drawing" ["party", "thing"] 6 (spDrawing C)) : Cal P w K mg base "plan_fault" ["party", "thing"] 7 (spPlanFault C) := by
  refine D.cal sc29 (fun vs H Q E h => ?_) (fun _ _ _ _ _ _ us hl => match us, hl with | [_, _], _ => rfl) fun f cdv A outer s H vs Q E hr h => ?_
  · obtain ⟨p, l, ps, bs, qs, rfl, _⟩ := h
    rfl
  obtain ⟨p, l, ps, bs, qs, rfl, pt, h8, hn, pa, q8, pl, q⟩ := h
  have hu := hu_of hr
  refine ⟨_, pss_cons (ps_if (pt_not (pt_val (pe_isi g.isi g.lst boot_list (pv 1)))) pss_never pss_nil)
    (pss_cons (ps_set (i := 2) sc29.nd rfl (.inl rfl) pe_dnewT)
    (pss_cons (ps_for PassesOwn.never rfl (pi_enum (by rfl) g.enu (pa_cons (pv 1) pa_nil)) (pg_tup rfl (pgs_cons (pg_name (i := 3) sc29.nd rfl (.inl rfl)) (pgs_cons (pg_name (i := 4) sc29.nd rfl (.inl rfl)) pgs_nil)))
      (pss_cons (ps_if (pt_not (pt_val (pe_cal cD hr (by rfl) (pa_cons (pv 0) (pa_cons (pv 4) pa_nil))))) pss_never pss_nil)
      (pss_one (ps_lock (ps_for PassesOwn.never rfl (pi_items (pv 4)) (pg_tup rfl (pgs_cons (pg_name (i := 5) sc29.nd rfl (.inl rfl)) (pgs_cons (pg_name (i := 6) sc29.nd rfl (.inl rfl)) pgs_nil)))
        (pss_cons (ps_if (pt_cmp (pc_din hu (pe_tup (pa_cons (pv 5) (pa_cons (pv 6) pa_nil))) (pv 2))) pss_never pss_nil)
        (pss_one (ps_dput hu (pv 2) (pe_tup (pa_cons (pv 5) (pa_cons (pv 6) pa_nil))) pe_bl rfl))))))))
    (pss_one (ps_ret pe_non)))), ?_⟩
  refine ⟨_, rfl, _, _, _, rfl, .base (.lst pa.at_), by decide +kernel, true, rfl, iteF ?_⟩
  intro u nu
  have s0 : Same H (upd H u (.dT [])) := same_new nu
  refine ⟨_, rfl, l, _, rfl, lstL (s0 _ _ pa.at_), for_it (walk_enum (xs := qs.map fun q => V.ref q.1)) (fun i σ H' => ∃ y3 y4 y5 y6 ks, σ = [some (.ref p), some (.ref l), some (.ref u), y3, y4, y5, y6] ∧ Same H H' ∧ H' u = some (.dT (trues ks)) ∧ ks.length ≤ 8 * i ∧ ∀ k ∈ ks, ∃ g ∈ ps, ∃ q ∈ qs.take i, k = kP g (q.2 g))
    ⟨none, none, none, none, [], rfl, s0, upd_same, Nat.zero_le _, fun k hk => absurd hk List.not_mem_nil⟩ (fun i σ H' _ h => ?_) ?_ ?_⟩
  · obtain ⟨_, _, _, _, _, _, s1, _⟩ := h
    exact lstL (s1 _ _ pa.at_)
  · rintro i x σ Ha Hb hi ⟨y3, y4, y5, y6, ks, rfl, s1, eu, kl, kk⟩ ⟨T, a, b, rfl, nT, rfl, ea, eb⟩
    rw [List.length_map] at hi
    cases ea
    have eb : (qs.map fun q => V.ref q.1)[i]? = some b := eb
    obtain ⟨qd, hq⟩ : ∃ q, qs[i]? = some q := ⟨_, List.getElem?_eq_getElem hi⟩
    rw [List.getElem?_map, hq] at eb
    cases eb
    have hqm : qd ∈ qs := List.mem_of_getElem? hq
    have s2 : Same H (upd Ha T (.tup [.int (i : Nat), .ref qd.1])) := s1.trans (same_new nT)
    refine ⟨T, _, rfl, tupT upd_same, rfl, _, _, rfl, _, _, rfl, rfl, ?_⟩
    refine ⟨_, rfl, _, rfl, p, qd.1, ps, bs, qd.2, rfl, pt.same s2, h8, hn, s2 _ _ (pa.ds _ hqm), pl.all _ (List.mem_map.mpr ⟨qd, hqm, rfl⟩), fun H2 s3 => ⟨true, rfl, iteF ?_⟩⟩
    have s4 := s2.trans s3
    have eu2 := s3 _ _ (same_new (o := .tup [.int (i : Nat), .ref qd.1]) nT _ _ eu)
    have hd2 := s4 _ _ (pa.ds _ hqm)
    clear eu s3 s2 s1 nT
    refine ⟨qd.1, _, hd2, trivial, fun od => ?_⟩
    have nqu : qd.1 ≠ u := ne_of_none (pa.ds _ hqm) nu
    refine ⟨_, rfl, qd.1, od, _, rfl, upd_same, for_it walk_kvI (fun j σ H' => ∃ y5 y6 ks, σ = [some (.ref p), some (.ref l), some (.ref u), some (.int (i : Nat)), some (.ref qd.1), y5, y6] ∧ (∀ b o, b ≠ qd.1 → H b = some o → H' b = some o) ∧ H' qd.1 = some (.frz od (.dK (kvD ps fun z => .str (qd.2 z)))) ∧ H' u = some (.dT (trues ks)) ∧ ks.length ≤ 8 * i + j ∧ ∀ k ∈ ks, (∃ g ∈ ps, ∃ q ∈ qs.take i, k = kP g (q.2 g)) ∨ ∃ g ∈ ps.take j, k = kP g (qd.2 g))
      ⟨y5, y6, ks, rfl, fun b o hb e => by rw [upd_ne hb]; exact s4 _ _ e, upd_same, by rw [upd_ne nqu.symm]; exact eu2, kl, fun k hk => .inl (kk k hk)⟩ (fun j σ H' _ h => ?_) ?_ ?_⟩
    · obtain ⟨_, _, _, _, _, e, _⟩ := h
      exact e
    · rintro j x σ Hc Hd hj ⟨y5, y6, ks, rfl, sm, ed, eu, kl, kk⟩ ⟨T, z, rfl, nT, rfl, hz⟩
      have hzp : z ∈ ps := List.mem_of_getElem? hz
      refine ⟨T, _, rfl, tupT upd_same, rfl, _, _, rfl, _, _, rfl, rfl, ?_⟩
      have e1 := same_new (o := .tup [.str z, .str (qd.2 z)]) nT
      refine ⟨_, rfl, _, rfl, small64 (by show 2 ≤ 1000; decide), fun T2 n2 => ?_⟩
      have e2 := e1.trans (same_new (o := .tup [.str z, .str (qd.2 z)]) n2)
      have hni : kP z (qd.2 z) ∉ ks := fun fuel => by
        rcases kk _ fuel with ⟨g, hg, q, hq', e⟩ | ⟨g, hg, e⟩
        · obtain ⟨e3, e4⟩ := inr2.mp e
          subst e3
          have := pw_take pl.apart (x := qd.2) (i := i) (by rw [List.getElem?_map, hq]; rfl) q.2 (by rw [← List.map_take]; exact List.mem_map.mpr ⟨q, hq', rfl⟩)
          exact this z hzp e4.symm
        · obtain ⟨e3, _⟩ := inr2.mp e
          subst e3
          exact not_nd hz hg hn
      have hv : valV (trues ks) (kP z (qd.2 z)) = none := by
        cases e : valV (trues ks) (kP z (qd.2 z)) with
        | none => rfl
        | some v => exact absurd ((trues_val ks _).mp (by rw [e]; rfl)) hni
      refine ⟨_, rfl, u, _, rfl, DGet.t (k := kP z (qd.2 z)) (e2 _ _ eu) upd_same, false, by rw [hv]; rfl, iteF ?_⟩
      refine ⟨_, rfl, _, rfl, _, rfl, small64 (by show 2 ≤ 1000; decide), fun T3 n3 => ?_⟩
      have e3 := e2.trans (same_new (o := .tup [.str z, .str (qd.2 z)]) n3)
      have tl := trues_len ks
      have j8 : j < ps.length := hj
      refine ⟨u, _, rfl, .inr ⟨_, kP z (qd.2 z), T3, e3 _ _ eu, rfl, upd_same, small1000 (by omega), rfl⟩, ?_⟩
      refine ⟨_, _, ks ++ [kP z (qd.2 z)], rfl, fun b o hb e => ?_, ?_, ?_, ?_, fun k hk => ?_⟩
      · rw [upd_ne (ne_of_none e nu)]
        exact e3 _ _ (sm b o hb e)
      · rw [upd_ne nqu]
        exact e3 _ _ ed
      · rw [upd_same, trues_snoc]
      · rw [List.length_append]
        show ks.length + 1 ≤ _
        omega
      · rcases List.mem_append.mp hk with h | h
        · rcases kk k h with h | ⟨g, hg, e⟩
          · exact .inl h
          · refine .inr ⟨g, ?_, e⟩
            rw [List.take_add_one]
            exact List.mem_append_left _ hg
        · have : k = kP z (qd.2 z) := by simpa using h
          refine .inr ⟨z, ?_, this⟩
          rw [List.take_add_one, hz]
          simp
    · rintro σ Hc ⟨y5, y6, ks, rfl, sm, ed, eu, kl, kk⟩
      rw [List.take_length] at kk
      refine ⟨ed, _, _, _, _, ks, rfl, same_unlock (od := od) (pa.ds _ hqm) sm, ?_, by omega, fun k hk => ?_⟩
      · rw [upd_ne nqu.symm]
        exact eu
      · rw [List.take_add_one, hq]
        rcases kk k hk with ⟨g, hg, q, hq', e⟩ | ⟨g, hg, e⟩
        · exact ⟨g, hg, q, List.mem_append_left _ hq', e⟩
        · exact ⟨g, hg, qd, by simp, e⟩
  · rintro σ Ha ⟨y3, y4, y5, y6, ks, rfl, s1, _⟩
    exact q Ha s1
end
end K56
set_option Elab.async false
set_option linter.all false
set_option maxRecDepth 100000
/-! bar_fault. -/
namespace K56
open PySem PySem.Spec PyProof.Rows L2 Gift
theorem pairsIn_okp {ps S T : List Str} {bs : List (Str × Str)} (hn : ps.Nodup) (hT : T.Nodup) (hs : ∀ g ∈ S, g ∈ ps) (ht : ∀ t ∈ T, t ∈ ps) : pairsIn (rowsOf ps bs) S T = (S.map fun g => T.countP (okp bs g)).sum := by
  rw [pairsIn_flip hT fun g _ => hn.sublist List.filter_sublist]
  refine sum_congr fun g hg => List.countP_congr fun t htT => ?_
  simp [rowsOf, ht t htT]
theorem sum_le_mul {α : Type} {f : α → Nat} {n : Nat} : ∀ {l : List α}, (∀ x ∈ l, f x ≤ n) → (l.map f).sum ≤ n * l.length
  | [], _ => Nat.zero_le _
  | x :: r, h => by
    have ih := sum_le_mul (l := r) fun y hy => h y (List.mem_cons_of_mem _ hy)
    have h1 := h x List.mem_cons_self
    rw [List.map_cons, List.sum_cons, List.length_cons, Nat.mul_succ]
    omega
section
variable {P : Program} {w : World} {K : PySem.W.Frag} {mg : Str → Option Value} {base : Heap} {C : Addr}
def spBarFault (C : Addr) : Sp := fun vs H Q _ => ∃ (p T a b : Addr) (y : Nat) (ps S Tt : List Str) (bs : List (Str × Str)), vs = [.ref p, .int y, .ref T] ∧ y ≤ 24 ∧ PartyAt C H p ps bs ∧ ps.length ≤ 8 ∧ ps.Nodup ∧ (∀ z ∈ ps, PyData.strOk z = true) ∧
  H T = some (.tup [.ref a, .ref b]) ∧ H a = some (.tup (svs S)) ∧ H b = some (.tup (svs Tt)) ∧ sortedS S = true ∧ sortedS Tt = true ∧ Bar ps (rowsOf ps bs) y S Tt ∧ ∀ H', Same H H' → Q .non H'
abbrev N42 : List Str := ["party", "years", "thing", "givers", "takers", "pairs", "giver", "taker"]
theorem sc42 : FnScope N42 ["party", "years", "thing"] (defScope (top 42)) := ⟨rfl, rfl, rfl, by decide +kernel, rfl, by decide +kernel, by decide +kernel⟩
theorem ok_bar_fault (D : Def K mg "bar_fault" (top 42)) (g : Glo mg) (cY : Cal P w K mg base "check_years" ["years"] 2 spCheckYears) (cS : Cal P w K mg base "is_sorted_lot" ["party", "lot"] 3 (spLot C)) (cL : MCal P w K mg base C "__len__" ["self"] 1 (spLen C)) (cC : MCal P w K mg base C "__contains__" ["self", "pair"] 4 (spHas C)) : Cal P w K mg base "bar_fault" ["party", "years", "thing"] 6 (spBarFault C) := by
  refine D.cal sc42 (fun vs H Q E h => ?_) (fun _ _ _ _ _ _ us hl => match us, hl with | [_, _, _], _ => rfl) fun f cdv A outer s H vs Q E hr h => ?_
  · obtain ⟨p, T, a, b, y, ps, S, Tt, bs, rfl, _⟩ := h
    rfl
  obtain ⟨p, T, a, b, y, ps, S, Tt, bs, rfl, hy, pt, h8, hn, hst, eT, ea, eb, so1, so2, br, q⟩ := h
  refine ⟨_, pss_cons (ps_expr (pe_cal cY (hr.mono (by decide)) (by rfl) (pa_cons (pv 1) pa_nil)))
    (pss_cons (ps_if (PW.pt (pw_or (pt_not (pt_val (pe_isi g.isi g.tup boot_tuple (pv 2)))) (pw_or1 (pt_cmpR op_ne (pe_callB call_len_seq (by rfl) g.len PySem.boot_len (pa_cons (pv 2) pa_nil)) pe_int (nomark _))))) pss_never pss_nil)
    (pss_cons (ps_asg (pv 2) (pg_tup rfl (pgs_cons (pg_name (i := 3) sc42.nd rfl (.inl rfl)) (pgs_cons (pg_name (i := 4) sc42.nd rfl (.inr rfl)) pgs_nil))))
    (pss_cons (ps_if (PW.pt (pw_or (pt_not (pt_val (pe_cal cS (hr.mono (by decide)) (by rfl) (pa_cons (pv 0) (pa_cons (pv 3) pa_nil))))) (pw_or1 (pt_not (pt_val (pe_cal cS (hr.mono (by decide)) (by rfl) (pa_cons (pv 0) (pa_cons (pv 4) pa_nil)))))))) pss_never pss_nil)
    (pss_cons (ps_setLc2 (i := 5) (own := [("giver", 6), ("taker", 7)]) (vs1 := [7]) (g := gName 6) (g1 := gName 7) (wi1 := iTup K (tVar 4)) rfl sc42.nd rfl rfl rfl (pi_tup (pv 3)) (blkOk_by (own := [("giver", 6), ("taker", 7)]) (N := N42) (sc := defScope (top 42)) (by decide +kernel)) (by decide)
      (fun _ _ _ _ _ => pg_name (i := 6) sc42.nd rfl (.inl rfl)) (fun _ _ _ _ _ => pts_nil) (fun _ _ _ _ _ => pi_tup (pv 4)) (fun _ _ _ _ _ => pg_name (i := 7) sc42.nd rfl (.inl rfl))
      (fun _ _ _ _ _ => pts_one (pt_cmpR (op_in_own (X := Cx.blk _ _ _ _ _ _) cC hr) (pe_tup (pa_cons (pv 6) (pa_cons (pv 7) pa_nil))) (pv 0) (by rfl))) (fun _ _ _ _ _ => pe_tup (pa_cons (pv 6) (pa_cons (pv 7) pa_nil))))
    (pss_cons (ps_if (pt_cmpR op_gt (pe_op op_mul (pv 1) (pe_op op_sub (pe_op op_add (pe_callB call_len_seq (by rfl) g.len PySem.boot_len (pa_cons (pv 3) pa_nil)) (pe_callB call_len_seq (by rfl) g.len PySem.boot_len (pa_cons (pv 4) pa_nil))) (pe_callB (call_len_own cL (hr.mono (by decide))) (by rfl) g.len PySem.boot_len (pa_cons (pv 0) pa_nil))))
        (pe_callB call_len_seq (by rfl) g.len PySem.boot_len (pa_cons (pv 5) pa_nil)) (nomark _)) (pss_one (ps_ret pe_non)) pss_nil)
    pss_never))))), ?_⟩
  have lS : S.length ≤ ps.length := nodup_le br.snd br.ssub
  have lT : Tt.length ≤ ps.length := nodup_le br.tnd br.tsub
  refine ⟨_, rfl, y, rfl, hy, ?_⟩
  refine ⟨_, rfl, _, _, _, rfl, .base (.tup eT), by decide +kernel, true, rfl, iteF ?_⟩
  refine ⟨_, rfl, T, _, rfl, .inr (tupT eT), rfl, false, rfl, iteF ?_⟩
  refine ⟨_, rfl, T, _, rfl, tupT eT, rfl, _, _, rfl, _, _, rfl, rfl, ?_⟩
  refine ⟨_, rfl, _, rfl, p, a, ps, S, bs, rfl, pt, ea, br.ssub, br.snd, by omega, so1, fun x hx => hst x (br.ssub x hx), fun H1 s1 => ⟨true, rfl, iteF ?_⟩⟩
  refine ⟨_, rfl, _, rfl, p, b, ps, Tt, bs, rfl, pt.same s1, s1 _ _ eb, br.tsub, br.tnd, by omega, so2, fun x hx => hst x (br.tsub x hx), fun H2 s2 => ⟨true, rfl, iteF ?_⟩⟩
  have s12 := s1.trans s2
  have pt2 := pt.same s12
  have ea2 := s12 _ _ ea
  have eb2 := s12 _ _ eb
  refine ⟨_, rfl, a, rfl, ⟨_, tupT ea2⟩, fun D nD => ?_⟩
  obtain ⟨dx, pa, d, kvs, h1, h2, h3, h4⟩ := pt2.ob
  refine walk_in (walk_tupS (xs := S)) (fun i H' => Same H2 H' ∧ ∃ xs : List V, H' D = some (.lst xs) ∧ xs.length = ((S.take i).map fun g => Tt.countP (okp bs g)).sum) ⟨same_new nD, [], upd_same, rfl⟩ (fun i H' _ h => tupT (h.1 _ _ ea2)) (fun i x Ha Hb hi h hy => ?_) (fun H3 h => ?_)
  · obtain ⟨s3, xs, eD, xl⟩ := h
    obtain ⟨rfl, hx⟩ := hy
    obtain ⟨z, hz, rfl⟩ := svs_get hx
    have hzS : z ∈ S := List.mem_of_getElem? hz
    refine ⟨rfl, ?_⟩
    unfold tYes
    dsimp only
    rw [if_pos rfl]
    refine ⟨_, rfl, b, rfl, ⟨_, tupT (s3 _ _ eb2)⟩, ?_⟩
    have bound : ((S.take i).map fun g => Tt.countP (okp bs g)).sum ≤ 64 := by
      refine Nat.le_trans (sum_le_mul (n := 8) fun g _ => Nat.le_trans List.countP_le_length (by omega)) ?_
      rw [List.length_take]
      omega
    refine walk_in (walk_tupS (xs := Tt)) (fun j H' => Same H2 H' ∧ ∃ xs : List V, H' D = some (.lst xs) ∧ xs.length = ((S.take i).map fun g => Tt.countP (okp bs g)).sum + (Tt.take j).countP (okp bs z)) ⟨s3, xs, eD, by rw [xl]; rfl⟩ (fun j H' _ h => tupT (h.1 _ _ eb2)) (fun j x Hc Hd hj h hy => ?_) (fun H3 h => ?_)
    · clear s3 eD xl xs
      obtain ⟨s3, xs, eD, xl⟩ := h
      obtain ⟨rfl, hx⟩ := hy
      obtain ⟨t, ht, rfl⟩ := svs_get hx
      have htT : t ∈ Tt := List.mem_of_getElem? ht
      have bound2 : (Tt.take j).countP (okp bs z) ≤ 8 := Nat.le_trans List.countP_le_length (by rw [List.length_take]; omega)
      have cn : (Tt.take (j + 1)).countP (okp bs z) = (Tt.take j).countP (okp bs z) + if okp bs z t = true then 1 else 0 := by
        rw [List.take_add_one, ht, List.countP_append]
        show _ + [t].countP (okp bs z) = _
        rw [List.countP_cons, List.countP_nil, Nat.zero_add]
      refine ⟨wipe_set1, _, rfl, _, rfl, small64 (by show 2 ≤ 1000; decide), fun t0 nt => ?_⟩
      have s4 := s3.trans (same_new (o := .tup [.str z, .str t]) nt)
      refine ⟨_, rfl, p, dx, _, rfl, s4 _ _ h1, p, t0, ps, bs, z, t, rfl, pt2.same s4, upd_same, br.ssub z hzS, br.tsub t htT, fun H3 s5 => ⟨_, rfl, _, rfl, ?_⟩⟩
      have s6 := s4.trans s5
      have eD6 := s5 _ _ (same_new (o := .tup [.str z, .str t]) nt _ _ eD)
      cases e : okp bs z t with
      | false =>
        refine iteF ⟨s6, xs, eD6, ?_⟩
        rw [cn, e, xl]
        rfl
      | true =>
        refine iteT ⟨_, rfl, _, rfl, small64 (by show 2 ≤ 1000; decide), fun t2 n2 => ?_⟩
        have s7 := s6.trans (same_new (o := .tup [.str z, .str t]) n2)
        refine ⟨xs, same_new n2 _ _ eD6, small1000 (by omega), same_upd s7 nD, _, upd_same, ?_⟩
        rw [List.length_append, cn, e, xl]
        rfl
    · obtain ⟨s4, xs, eD, xl⟩ := h
      rw [List.take_length] at xl
      refine ⟨s4, xs, eD, ?_⟩
      rw [xl, List.take_add_one, hz, List.map_append, List.sum_append]
      show _ = _ + [Tt.countP (okp bs z)].sum
      simp
  · obtain ⟨s3, xs, eD, xl⟩ := h
    rw [List.take_length, ← pairsIn_okp hn br.tnd br.ssub br.tsub] at xl
    have s13 := s12.trans s3
    obtain ⟨dx, pa, d, kvs, h1, h2, h3, h4⟩ := (pt2.same s3).ob
    refine ⟨_, rfl, _, rfl, a, _, rfl, .inr (tupT (s3 _ _ ea2)), _, rfl, b, _, rfl, .inr (tupT (s3 _ _ eb2)), _, _, rfl, rfl, _, rfl, p, dx, _, rfl, h1, p, ps, bs, rfl, pt2.same s3, ps.length, rfl, by omega, _, _, rfl, rfl, _, _, rfl, rfl, ?_, _, rfl, D, xs, rfl, .inl (lstL eD), _, _, rfl, rfl, true, congrArg V.bl (decide_eq_true ?_), iteT (q H3 s13)⟩
    · exact .inl ⟨by omega, by omega⟩
    · have h0 := br.ineq
      rw [List.length_map, List.length_map, xl, Int.mul_sub]
      have h5 : ((pairsIn (rowsOf ps bs) S Tt + y * ps.length : Nat) : Int) < ((y * (S.length + Tt.length) : Nat) : Int) := Int.ofNat_lt.mpr h0
      rw [Int.natCast_add, Int.natCast_mul, Int.natCast_mul, Int.natCast_add] at h5
      omega
end
end K56
set_option Elab.async false
set_option linter.all false
set_option maxRecDepth 100000
set_option maxHeartbeats 2000000
/-! NoPlan.__init__: super().__init__(text); self.years = years. -/
namespace K56
open PySem PySem.Spec PyProof.Rows L2
abbrev stNP : Stmt := inClass (top 7) 0
/-- what the head tells of NoPlan, at C, and of its __init__, at f -/
structure NpTxt (P : Program) (K : PySem.W.Frag) (C f : Addr) (fd : FuncData) : Prop where
  oex : OexC K C
  xf : XfC K C
  noY : PySem.W.findIn K (.ref C) "years" = some none
  iC : PySem.W.findIn K (.ref C) "__init__" = some (some (.ref f))
  tf : PySem.W.typeIn K (.ref f) = some (.type "function")
  te : PySem.W.exmOne K (.ref C) (.ref C) = some true
  sp : PySem.W.ks_superIn K C C "__init__" = some (some (.builtin "ValueError.__init__"))
  ve : PySem.W.subIn K (.ref C) (.type "ValueError") = some true
  me : PySem.W.mroIn K C (.ref C) = some true
  op : PySem.W.nsIn K cStatics "thirdparty.any" = some none
  top : (P.main.scope.names.lookup ("super" : Str)).isSome = false
  fn : ∃ (oc : Value) (od : Option Addr) (dV kV doc pm : Value) (an : Option Addr) (cda cc : Addr) (ct : Value) (osl : Array (Option Value)),
    fd = PySem.W.ksFn "__init__" "NoPlan.__init__" (defArgs stNP) (defBody stNP) (defScope stNP) dV kV doc pm an (.ref cda) ct cc ∧ K.lookup f = some ⟨oc, od, .func fd, osl⟩ ∧ PySem.W.codeIn K (.ref cda) "NoPlan.__init__" = true ∧
    (∃ cl cld csl, K.lookup cc = some ⟨cl, cld, .cell (some (.ref C)), csl⟩) ∧ ∃ ccl cdd vs ccs file tk, K.lookup cda = some ⟨ccl, cdd, .fields vs, ccs⟩ ∧ vs[2]? = some (.str file tk) ∧ ((P.main.file : Str) == file) = true
def spNp (C : Addr) : Sp := fun vs H Q _ => ∃ (a : Addr) (y : V), vs = [.ref a, y] ∧ H a = some (exo a C none) ∧ ∀ dx, H dx = none → dx ≠ a → Q .non (upd (upd H dx (exd dx [("years", y)])) a (exo a C (some dx)))
section
variable {P : Program} {w : World} {K : PySem.W.Frag} {mg : Str → Option Value} {base : Heap}
/-- the call's frame -/
def npCx (CX : CXT) (P : Program) (w : World) (K : PySem.W.Frag) (mg : Str → Option Value) (base : Heap) (env : Env) (A : Around) (outer : List Env) (s : Shared) (H : Hp) : Cx where
  prog := P
  w := w
  K := K
  mg := mg
  base := base
  A := A.deeper env
  N := ["self", "years"]
  s_0 := s
  H_0 := H
  env := env
  outer := outer
  stack := env :: outer
  ex := []
  fn := fun _ => false
  calm := true
  pn := []
  xe := fun _ _ => False
theorem np_init {C f : Addr} {fd : FuncData} {CX : CXT} (T : NpTxt P K C f fd) (g : mg "super" = none) : FnOk P w K mg base CX 1 f fd ["self", "years"] (spNp C) := by
  obtain ⟨oc, od, dV, kV, doc, pm, an, cda, cc, ct, osl, rfl, lk, hcd, ⟨cl, cld, csl, lkc⟩, ccl, cdd, vs, ccs, file, tk, lkd, hvs, hfile⟩ := T.fn
  refine ⟨fun vs H Q E h => ?_, fun A outer s H args us vs' Q E hr e0 hb r hsp => ?_⟩
  · obtain ⟨a, y, rfl, _⟩ := h
    rfl
  obtain ⟨a, y, rfl, ha, q⟩ := hsp
  obtain ⟨u0, u, rfl, r0, ru⟩ := vals2 r
  cases r0
  have KX : K.In s.heap := e0.mod.kin.keeps fun b o e => (e0.bs b o e).1
  have lim : s.heap.NoLimit := e0.mod.nolimit.keeps fun b o e => (e0.bs b o e).1
  refine PySem.ks_codeAny_call_defAt (fd := PySem.W.ksFn "__init__" "NoPlan.__init__" (defArgs stNP) (defBody stNP) (defScope stNP) dV kV doc pm an (.ref cda) ct cc) (body := defBody stNP) (binds := [("self", .ref a), ("years", u)]) hr.depth (KX _ _ lk) rfl lim (PySem.W.codeRec_of KX hcd) rfl hb
    (show ∀ x ∈ (defScope stNP).names, x.2 ≠ .cell by decide +kernel) (fun x hx => ?_) (fun h₁ hns hk => ?_) (by rfl) (by rfl) (by rfl)
  · show (defScope stNP).names.lookup x.1 = some .local
    rcases List.mem_cons.mp hx with e | hx
    · subst e
      exact (by decide +kernel : (defScope stNP).names.lookup ("self" : Str) = some .local)
    · rcases List.mem_cons.mp hx with e | hx
      · subst e
        exact (by decide +kernel : (defScope stNP).names.lookup ("years" : Str) = some .local)
      · cases hx
  show PySem.wpAt (model P w) (A.deeper (PySem.W.ksEnv "NoPlan.__init__" (defScope stNP) s.heap.objs.size f (.ref cda) cc)) (.func (defBody stNP) (PySem.W.ksEnv "NoPlan.__init__" (defScope stNP) s.heap.objs.size f (.ref cda) cc)) (execs (defBody stNP) (PySem.W.ksEnv "NoPlan.__init__" (defScope stNP) s.heap.objs.size f (.ref cda) cc)) _ _ _
  generalize hE : PySem.W.ksEnv "NoPlan.__init__" (defScope stNP) s.heap.objs.size f (.ref cda) cc = env
  have hcc : base.get? cc = some ⟨cl, cld, .cell (some (.ref C)), csl⟩ := e0.mod.kin _ _ lkc
  have I0 : Inv (npCx CX P w K mg base env A outer s H) [] [some (.ref a), some y] H { s with heap := h₁, toks := s.toks + 2 } := by
    subst hE
    have cl1 : ∀ x c, List.lookup x [(("__class__" : Str), cc)] = some c → c = cc := fun x c e => by
      have := PySem.mem_of_lookup e
      simp at this
      exact this.2
    refine ⟨⟨e0.mod, rfl, rfl, rfl, Nat.le_refl _, fun x y c h1 h2 => ?_, fun x hx => ?_, fun x c h _ => (by cases h), fun _ => hr.hd, Around.frames_deeper e0.frames, .inr ⟨rfl, rfl⟩, fun b z => absurd z List.not_mem_nil, e0.bs, e0.bsz, fun b _ _ => List.not_mem_nil, fun b z => absurd z List.not_mem_nil, e0.funs, e0.frf⟩,
      rfl, e0.bare, Un.kept hk, ⟨_, hns, fun i x v h1 h2 h3 => ?_⟩, fun x c h => ?_, e0.hok.fresh (Nat.le_refl _), fun x c h => ?_, fun p hp => absurd hp List.not_mem_nil, e0.hok.kept hk, rfl⟩
    · have m1 := PySem.mem_of_lookup (show List.lookup x [(("__class__" : Str), cc)] = some c from h1)
      have m2 := PySem.mem_of_lookup (show List.lookup y [(("__class__" : Str), cc)] = some c from h2)
      simp at m1 m2
      rw [m1.1, m2.1]
    · have key : ∀ p ∈ (defScope stNP).names, (p.2 = .cell ∨ p.2 = .free) → p.1 = "__class__" := by decide +kernel
      have hx : (defScope stNP).names.lookup x = some .cell ∨ (defScope stNP).names.lookup x = some .free := hx
      have e : x = "__class__" := by
        rcases hx with hx | hx
        · exact key (x, .cell) (PySem.mem_of_lookup hx) (.inl rfl)
        · exact key (x, .free) (PySem.mem_of_lookup hx) (.inr rfl)
      subst e
      exact ⟨cc, by show List.lookup _ [(("__class__" : Str), cc)] = _; simp⟩
    · match i, h1, h2 with
      | 0, h1, h2 =>
        cases h1
        cases h2
        exact ⟨.ref a, rfl, .inl ⟨by show (defScope stNP).names.lookup ("self" : Str) = _; decide +kernel, by rfl⟩⟩
      | 1, h1, h2 =>
        cases h1
        cases h2
        exact ⟨u, ru, .inl ⟨by show (defScope stNP).names.lookup ("years" : Str) = _; decide +kernel, by rfl⟩⟩
      | n + 2, h1, h2 => cases h2
    · rw [cl1 x c h]
      exact ⟨_, _, hk _ _ (e0.bs _ _ hcc).1, rfl⟩
    · rw [cl1 x c h]
      exact (e0.bs _ _ hcc).2
  subst hE
  obtain ⟨nm, qn, N0, bs, bm, sn, sub, ab, col, dd, k0, k1, k2, k3, k5, hC, hbm⟩ := T.oex.cls
  have K1 : K.In h₁ := KX.keeps hk
  have hcl : PySem.W.clsIn K C = some { name := nm, bases := bs, mro := .ref C :: bm, ns := N0, qualname := qn, hasDict := true, slotNames := sn, subclasses := sub, abstract := ab, collection := col, hasDel := false } := by unfold PySem.W.clsIn; rw [hC] <;> rfl
  obtain ⟨t1, hx⟩ := exo_at I0.hok ha
  have J : PySem.W.InstAt h₁ a _ C none := ⟨hx, rfl, rfl, trivial⟩
  have ks : (defScope stNP).names.lookup ("super" : Str) = some .globalImplicit := by decide +kernel
  have kc : (defScope stNP).names.lookup ("__class__" : Str) = some .free := by decide +kernel
  have kl : (defScope stNP).names.lookup ("self" : Str) = some .local := by decide +kernel
  obtain ⟨mb, hb1, hb2⟩ := I0.mod.blt
  refine PySem.ks_wpAt_execs_cons (PySem.ks_wpAt_Expr_any (PySem.ks_wpAt_MethodCall (PySem.ks_wpAt_super_base (f := f) (cc := cda) ks kc (by decide) rfl (K1 _ _ lk) rfl rfl rfl (K1 _ _ lkd) rfl hvs hfile T.top ?_) (by rfl)) (by rfl) (by rfl))
  refine PySem.W.ks_loadName_global (by rfl) ks (PySem.Calls.loadGlobal_builtin (I0.mod.glob.keeps I0.bk) g (hb1.keeps I0.bk) ((hb2 "super" (by decide)).trans (by decide +kernel)) ⟨rfl, ?_⟩)
  refine wpAny_loadName_free (by rfl) kc (by rfl) ⟨_, hk _ _ (e0.bs _ _ hcc).1, rfl⟩ ?_
  refine wpAny_loadName_local (by rfl) kl hns (by rfl) ?_
  refine PySem.ks_wpAny_isType_cls (K1 _ _ hC) rfl ⟨rfl, ?_⟩
  refine PySem.ks_wpAny_call_super (K1 _ _ hC) rfl hx rfl (fun c e => nomatch e) (PySem.W.looks_mroIn K1 T.me) (fun h2 e2 k2 => ?_)
  have K2 : K.In h2 := K1.keeps k2
  have hx2 := k2 _ _ hx
  have J2 : PySem.W.InstAt h2 a _ C none := ⟨hx2, rfl, rfl, trivial⟩
  have hal : PySem.W.alongIn K "__init__" ((((Value.ref C) :: bm).dropWhile (· != .ref C)).drop 1) = some (some (.builtin "ValueError.__init__")) := by
    have := T.sp
    unfold PySem.W.ks_superIn at this
    rw [hcl] at this
    exact this
  have hlt : h₁.objs.size < h2.objs.size := Heap.lt_size e2
  refine PySem.W.kxs_getMethod PySem.W.kxs_ValueError (K := K) e2 (PySem.W.looks_opaque K2 T.op) (l₀ := .ref C :: bm) (fun A Q E s k q => wpAny_bind ((PySem.W.looks_clsIn K2 hcl) A _ E s k (wpAny_pure q))) rfl K2 hal (J2.type.andThen (PySem.W.looks_subIn K2 T.ve)) (PySem.W.ks_ne K2 J2 hcl) (by decide) ?_
  have hmw : (h2.push (PySem.W.kxs_mw "ValueError.__init__" a)).get? h2.objs.size = some (PySem.W.kxs_mw "ValueError.__init__" a) := Heap.get?_push_at rfl rfl
  have k3 : ∀ b o, h₁.get? b = some o → (h2.push (PySem.W.kxs_mw "ValueError.__init__" a)).get? b = some o := fun b o e => Heap.get?_push_of_some _ (k2 b o e)
  have I3 := I0.kept (t' := s.toks + 2 + 1) k3
  have hL : s.heap.objs.size < h₁.objs.size := hns.lt
  have hfr : h2.objs.size ∉ frs outer := fun hb => by
    obtain ⟨_, o, ho, _⟩ := e0.funs.mem hb
    have z : h2.objs.size < s.heap.objs.size := Heap.lt_size ho
    omega
  have I4 : Inv (npCx CX P w K mg base (PySem.W.ksEnv "NoPlan.__init__" (defScope stNP) s.heap.objs.size f (.ref cda) cc) A outer s H) [(h2.objs.size, PySem.W.kxs_mw "ValueError.__init__" a)] [some (.ref a), some y] H { heap := h2.push (PySem.W.kxs_mw "ValueError.__init__" a), gens := s.gens, drawn := s.drawn, toks := s.toks + 2 + 1, os := s.os } := by
    refine ⟨I3.ok, I3.os, I3.bare, I3.base, I3.loc, I3.cell, I3.free, I3.freeC, fun p hp => ?_, I3.hok, I3.len⟩
    have ep : p = (h2.objs.size, PySem.W.kxs_mw "ValueError.__init__" a) := by
      rcases List.mem_append.mp hp with z | z
      · exact absurd z List.not_mem_nil
      · simpa using z
    rw [ep]
    refine ⟨hmw, I0.hok.fresh (Nat.le_of_lt hlt), fun z => ?_, hfr, fun v z => nomatch z⟩
    have z : h2.objs.size = s.heap.objs.size := z
    omega
  refine PySem.W.kxs_callWith (i := "ValueError.__init__") (x := a) (by rfl) (PySem.Calls.evalArgs_plain ?_)
  have pa : PA (npCx CX P w K mg base (PySem.W.ksEnv "NoPlan.__init__" (defScope stNP) s.heap.objs.size f (.ref cda) cc) A outer s H) [.Constant (.str "there is no plan for so many years") 0 ⟨30, 25, 30, 61⟩] _ := pa_cons pe_str pa_nil
  refine wpAny_mono (pa.run ⟨30, 8, 30, 62⟩ _ _ _ H (fun vs H' => vs.length = 1 ∧ H' = H) I4 ⟨rfl, rfl⟩) (fun us s4 h4 => ?_) (fun _ _ z => z.elim)
  obtain ⟨vs4, H4, I4', r4, l4, rfl⟩ := h4
  have hmw4 := (I4'.pin _ List.mem_cons_self).1
  obtain ⟨t4, hx4⟩ := exo_at I4'.hok ha
  have hz4 : us.length ≤ sizeLine := by
    rw [← Paired.length r4, l4]
    exact small64 (by decide)
  have hC4 := I4'.kIn _ _ hC
  obtain ⟨hp4, g4, d4, tk4, os4⟩ := s4
  refine ⟨hmw4, ?_⟩
  show wpAny _ _ (call (.ref h2.objs.size) us) _ _ _
  refine wpAny_call (codeAny_of_tree ?_)
  show wpAny _ _ (callAny (.ref h2.objs.size) ⟨us, []⟩) _ _ _
  simp only [callAny]
  refine wpAny_bind (wpAny_load hmw4 ?_)
  simp only [PySem.W.kxs_mw, show (Value.type "method-wrapper" == Value.type "method" || Value.type "method-wrapper" == Value.type "builtin_function_or_method" || Value.type "method-wrapper" == Value.type "method-wrapper") = true by decide, if_true]
  refine PySem.W.KFB.if_so (by decide) ?_
  refine wpAny_bind (PySem.W.check_bound_init PySem.F.excBase_ValueError.toExcCallFacts hC4 hx4 rfl ?_)
  refine wpAny_bind (wpAny_pure (wpAny_pure ?_))
  refine ⟨PySem.plainId_quiet PySem.F.excBase_ValueError.init.plain _, codeAny_builtin PySem.F.excBase_ValueError.initEntry ?_⟩
  refine PySem.W.exc_init_tree (cls := .ref C) (t0 := t4) (dv := none) (c2 := .none) (c3 := .none) (b4 := .bool false) hx4 hz4 (fun h5 k5 e5 t5 => ?_)
  have J5 := I4'.write (t' := tk4) (x := a) (e := a) (o := exo a C none) (h' := h5) (by rw [ha]; exact True.intro) (.inl rfl) k5 ⟨_, e5⟩ (exo_ok e5)
  have eu : upd H4 a (exo a C none) = H4 := by
    funext b
    by_cases hb : b = a
    · rw [hb, upd_same, ha]
    · rw [upd_ne hb]
  rw [eu] at J5
  have fin := (pss_one (ps_ost (f := "years") (p' := ⟨31, 8, 31, 18⟩) (pos := ⟨31, 8, 31, 26⟩) (pv (X := npCx CX P w K mg base (PySem.W.ksEnv "NoPlan.__init__" (defScope stNP) s.heap.objs.size f (.ref cda) cc) A outer s H4) (pos := ⟨31, 8, 31, 12⟩) 0) (pv (pos := ⟨31, 21, 31, 26⟩) 1))).run _ _ _ H4 { nx := fun _ H' => Q .non H', rt := fun _ _ => False } J5 ⟨_, rfl, _, rfl, a, C, rfl, T.oex, T.noY, .inl ⟨ha, fun dx n ne => q dx n ne⟩⟩
  have ce : ∀ {σ' : L2.St} {H' : Hp} {v : V} {u : Value} {s' : Shared}, Inv (npCx CX P w K mg base (PySem.W.ksEnv "NoPlan.__init__" (defScope stNP) s.heap.objs.size f (.ref cda) cc) A outer s H4) [(h2.objs.size, PySem.W.kxs_mw "ValueError.__init__" a)] σ' H' s' → RelV v u → Q v H' → CE outer P w H4 s Q u s' :=
    fun {σ' H' v u s'} J rv q => ⟨v, H', J.os, J.bare, J.base, J.hok, rv, q⟩
  refine wpAt_of_wpAny (wpAny_mono fin (fun fl s' hs => ?_) fun _ _ z => z.elim)
  cases fl with
  | ret u => exact hs.elim fun _ ⟨_, _, _, _, z⟩ => z.elim
  | next =>
    obtain ⟨σ', H', J, q'⟩ := hs
    exact ce (v := V.non) J rfl q'
  | brk => exact hs.elim fun _ ⟨_, _, z⟩ => z.elim
  | cont => exact hs.elim fun _ ⟨_, _, z⟩ => z.elim
end
end K56
set_option Elab.async false
set_option linter.all false
set_option maxRecDepth 100000
/-! plan, _law_plan. -/
namespace K56
open PySem PySem.Spec PyProof.Rows L2 Gift
/-- what a caller knows of a def that may raise -/
structure CalE (P : Program) (w : World) (K : PySem.W.Frag) (mg : Str → Option Value) (base : Heap) (x : Str) (ps : List Str) (k : Nat) (sp : Sp) : Prop where
  ex : ∃ f fd, mg x = some (.ref f) ∧ PySem.W.keepIn K (.ref f) = true ∧ Binds K fd ps [] ∧ FnOk P w K mg base (L2.CX P w) k f fd ps sp
theorem same_np {H H1 : Hp} {a dx C : Addr} {fs gs : List (Str × V)} (s : Same H H1) (ha : H1 a = none) (hd : H1 dx = none) :
    Same H (upd (del (upd (upd (upd H1 a (exo a C none)) dx (exd dx fs)) a (exo a C (some dx))) a) dx (.xd gs)) := fun b o e => by
  have e1 := s b o e
  have n1 : b ≠ a := ne_of_none e1 ha
  have n2 : b ≠ dx := ne_of_none e1 hd
  rw [upd_ne n2, del_ne n1, upd_ne n1, upd_ne n2, upd_ne n1]
  exact e1
section
variable {P : Program} {w : World} {K : PySem.W.Frag} {mg : Str → Option Value} {base : Heap} {C CN fN : Addr} {fdN : FuncData}
/-! ### plan -/
def spPlan (C CN : Addr) : Sp := fun vs H Q E => ∃ (p : Addr) (y m : Nat) (ps : List Str) (bs : List (Str × Str)) (Cm : Str → List Str) (Sm Tm : List Str), vs = [.ref p, .int y] ∧ y ≤ 24 ∧ PartyAt C H p ps bs ∧ ps.length ≤ 8 ∧ ps.Nodup ∧ ps ≠ [] ∧
  Full ps (rowsOf ps bs) m Cm ∧ Bar ps (rowsOf ps bs) (m + 1) Sm Tm ∧
  (y ≤ m → ∀ H' l qs, Same H H' → H l = none → PlanAt H' l ps qs → Plan ps (rowsOf ps bs) (qs.map (·.2)) → qs.length = y → Q (.ref l) H') ∧
  (m < y → ∀ H' d, Same H H' → H' d = some (.xd [(("years" : Str), .int y)]) → E (.ref CN) (some d) H')
theorem sc39 : FnScope ["party", "years", "rows"] ["party", "years"] (defScope (top 39)) := ⟨rfl, rfl, rfl, by decide +kernel, rfl, by decide +kernel, by decide +kernel⟩
theorem most_uniq {ps Sm Tm S T : List Str} {R Cm C : Str → List Str} {m y : Nat} (I : Inst ps R) (f1 : Full ps R m Cm) (b1 : Bar ps R (m + 1) Sm Tm) (f2 : Full ps R y C) (b2 : Bar ps R (y + 1) S T) : y = m := by
  have h1 := b1.not_full I f2
  have h2 := b2.not_full I f1
  omega
theorem ok_plan (D : Def K mg "plan" (top 39)) (T : NpTxt P K CN fN fdN) (gN : mg "NoPlan" = some (.ref CN)) (gs : mg "super" = none) (cY : Cal P w K mg base "check_years" ["years"] 2 spCheckYears) (cR : Cal P w K mg base "party_rows" ["party"] 7 (spRows C)) (cM : Cal P w K mg base "most_of" ["rows"] 3 spMost)
    (cP : Cal P w K mg base "plan_of" ["rows", "years"] 13 spPlanOf) (bN : Binds K fdN ["self", "years"] []) : CalE P w K mg base "plan" ["party", "years"] 14 (spPlan C CN) := by
  obtain ⟨f, fd, F, gf⟩ := D
  refine ⟨f, fd, gf, F.kp, F.bindsN fun _ _ _ _ _ _ us hl => match us, hl with | [_, _], _ => rfl, F.ok sc39 (fun vs H Q E h => ?_) fun cdv A outer s H vs Q E hr h => ?_⟩
  · obtain ⟨p, y, m, ps, bs, Cm, Sm, Tm, rfl, _⟩ := h
    rfl
  obtain ⟨p, y, m, ps, bs, Cm, Sm, Tm, rfl, hy, pt, h8, hn, hne, fm, bm, qP, qE⟩ := h
  refine ⟨_, pss_cons (ps_expr (pe_cal cY (hr.mono (by decide)) (by rfl) (pa_cons (pv 1) pa_nil)))
    (pss_cons (ps_set (i := 2) sc39.nd rfl (.inl rfl) (pe_cal cR (hr.mono (by decide)) (by rfl) (pa_cons (pv 0) pa_nil)))
    (pss_cons (ps_if (pt_cmpR op_gt (pv 1) (pe_cal cM (hr.mono (by decide)) (by rfl) (pa_cons (pv 2) pa_nil)) (nomark _))
      (pss_one (ps_raise rfl (takes_of rfl rfl rfl rfl) (pmk_oex T.oex T.iC T.tf (np_init (CX := CX0) T gs) (hr.mono (by decide)) bN .nil pass0 (by rfl) gN (pa_cons (pv 1) pa_nil)))) pss_nil)
    (pss_one (ps_ret (pe_cal cP hr (by rfl) (pa_cons (pv 2) (pa_cons (pv 1) pa_nil))))))), ?_⟩
  refine ⟨_, rfl, y, rfl, hy, ?_⟩
  refine ⟨_, rfl, p, ps, bs, rfl, pt, h8, hn, fun H1 rd ar R s1 nrd hrd rl fr rr => ?_⟩
  have I := rows_inst hn rr
  have I0 := rows_inst hn (rowsOf_rows (ps := ps) (bs := bs))
  refine ⟨_, rfl, _, rfl, rd, ps, ar, R, rfl, hrd, rl, I, h8, hne, fun H2 y2 C2 S2 T2 s2 f2 b2 => ?_⟩
  have em := most_uniq I0 fm bm (full_perm rr f2) (bar_perm rr b2)
  subst em
  refine ⟨_, _, rfl, rfl, ?_⟩
  have s12 := s1.trans s2
  by_cases hlt : y2 < y
  · refine ⟨true, congrArg V.bl (decide_eq_true (by omega)), iteT ?_⟩
    refine ⟨_, rfl, (by show 1 ≤ 1000; decide), fun a na => ?_⟩
    refine ⟨a, .int y, rfl, upd_same, fun dx nd ne => ?_⟩
    have nd' : H2 dx = none := by rw [upd_ne ne] at nd; exact nd
    exact ⟨rfl, dx, _, upd_same, by rw [upd_ne ne, upd_same], nd', qE hlt _ dx (same_np s12 na nd') upd_same⟩
  · refine ⟨false, congrArg V.bl (decide_eq_false (by omega)), iteF ?_⟩
    refine ⟨_, rfl, _, rfl, rd, y, ps, ar, R, rfl, s2 _ _ hrd, rl.same s2, I, h8, hne, fun S T b => ?_, fun H3 l qs s3 nl pa pl ql => ?_⟩
    · have := b.not_full I f2
      omega
    · exact qP (by omega) H3 l qs (s12.trans s3) (s12.free nl) pa (plan_perm rr pl) ql
end
end K56
set_option Elab.async false
set_option linter.all false
set_option maxRecDepth 100000
/-! _law_plan. -/
namespace K56
open PySem PySem.Spec PyProof.Rows L2 Gift
section
variable {P : Program} {w : World} {K : PySem.W.Frag} {mg : Str → Option Value} {base : Heap} {C CN fN : Addr} {fdN : FuncData}
def spLawPlan (C : Addr) : Sp := fun vs H Q _ => ∃ (p : Addr) (y m : Nat) (ps : List Str) (bs : List (Str × Str)) (Cm : Str → List Str) (Sm Tm : List Str), vs = [.ref p, .int y] ∧ y ≤ 24 ∧ PartyAt C H p ps bs ∧ ps.length ≤ 8 ∧ ps.Nodup ∧ ps ≠ [] ∧
  Full ps (rowsOf ps bs) m Cm ∧ Bar ps (rowsOf ps bs) (m + 1) Sm Tm ∧
  (y ≤ m → ∀ H' T l qs, Same H H' → H l = none → H' T = some (.tup [.str "told", .ref l]) → PlanAt H' l ps qs → Plan ps (rowsOf ps bs) (qs.map (·.2)) → qs.length = y → Q (.ref T) H') ∧
  (m < y → ∀ H' T, Same H H' → H' T = some (.tup [.str "NoPlan", .int y]) → Q (.ref T) H')
theorem sc52 : FnScope ["_law_party", "_law_years", "e"] ["_law_party", "_law_years"] (defScope (top 52)) := ⟨rfl, rfl, rfl, by decide +kernel, rfl, by decide +kernel, by decide +kernel⟩
theorem ok_law_plan (D : Def K mg "_law_plan" (top 52)) (T : NpTxt P K CN fN fdN) (gN : mg "NoPlan" = some (.ref CN)) (cP : CalE P w K mg base "plan" ["party", "years"] 14 (spPlan C CN)) : Cal P w K mg base "_law_plan" ["_law_party", "_law_years"] 15 (spLawPlan C) := by
  refine D.cal sc52 (fun vs H Q E h => ?_) (fun _ _ _ _ _ _ us hl => match us, hl with | [_, _], _ => rfl) fun f cdv A outer s H vs Q E hr h => ?_
  · obtain ⟨p, y, m, ps, bs, Cm, Sm, Tm, rfl, _⟩ := h
    rfl
  obtain ⟨p, y, m, ps, bs, Cm, Sm, Tm, rfl, hy, pt, h8, hn, hne, fm, bm, qP, qE⟩ := h
  obtain ⟨fP, fdP, gP, kP, bP, GP⟩ := cP.ex
  refine ⟨_, pss_one (ps_try_as (i := 2) (tb := fun W => tRet (tTup (tCons (tC (.str "told")) (tCons (tCallS (spPlan C CN) (WE W) (tCons (tVar 0) (tCons (tVar 1) tNil))) tNil)))) (ts := fun a cls d => tRet (tTup (tCons (tC (.str "NoPlan")) (tCons (tXf a cls d CN "years" (tVar 2)) tNil)))) (Wout := fun _ _ _ _ => False) rfl rfl sc52.nd rfl rfl ⟨rfl, by decide, Or.inl gN⟩ takes0
    (fun W pn xe tk _ => pss_one (ps_ret (pe_tup (pa_cons pe_str (pa_cons (by exact (pe_callS GP hr rfl gP kP bP (fun σ => passAt tk σ) (by exact (pa_cons (pv 0) (pa_cons (pv 1) pa_nil))))) pa_nil)))))
    (fun a oe cls d pn hz hf => pss_one (ps_ret (pe_tup (pa_cons pe_str (pa_cons (by exact (pe_xf T.xf T.noY hz hf (pv 2))) pa_nil)))))), ?_⟩
  refine ⟨_, rfl, _, rfl, p, y, m, ps, bs, Cm, Sm, Tm, rfl, hy, pt, h8, hn, hne, fm, bm, fun hle H1 l qs s1 nl pa pl ql => ?_, fun hlt H1 d s1 ed => ?_⟩
  · exact ⟨small64 (by show 2 ≤ 1000; decide), fun T nT => qP hle _ T l qs (s1.trans (same_new nT)) nl upd_same (pa.same (same_new nT)) pl ql⟩
  · refine ⟨true, T.te, fun _ a na => ?_, fun z => Bool.noConfusion z⟩
    refine ⟨_, rfl, rfl, rfl, d, _, .int y, rfl, ed, by simp, small64 (by show 2 ≤ 1000; decide), fun T2 nT => ?_⟩
    exact qE hlt _ T2 (s1.trans (same_new nT)) upd_same
end
end K56
set_option Elab.async false
set_option linter.all false
set_option maxRecDepth 100000
/-! The law's rows and drawings. -/
namespace K56
open PySem PySem.Spec PyProof.Rows L2 Gift
theorem kvA_take {ps : List Str} {ad : Str → Addr} {i : Nat} {z : Str} {l : Addr} (hn : ps.Nodup) (h : ps[i]? = some z) : putK (kvA (ps.take i) ad) (Sum.inr z) (.ref l) = kvA (ps.take (i + 1)) (fup ad z l) := by
  have e1 : kvA (ps.take i) ad = kvD (ps.take i) fun z => V.ref (ad z) := rfl
  rw [e1, kvD_take hn h]
  refine kvD_congr fun y _ => ?_
  by_cases e : y = z
  · rw [e, fup_same, fup_same]
  · rw [fup_ne e, fup_ne e]
theorem DL.snoc {H H' : Hp} {ps : List Str} {ad : Str → Addr} {R : Str → List Str} {i : Nat} {z : Str} {l D : Addr} {ys : List Str} (hn : ps.Nodup) (hz : ps[i]? = some z) (x : DL H (ps.take i) ad R) (s : ∀ b o, b ≠ D → H b = some o → H' b = some o) (fr : ∀ y ∈ ps.take i, ad y ≠ D)
    (nl : H l = none) (el : H' l = some (.lst (svs ys))) : DL H' (ps.take (i + 1)) (fup ad z l) (fup R z ys) := by
  have hni : z ∉ ps.take i := fun m => not_nd hz m hn
  have cases_ : ∀ y ∈ ps.take (i + 1), y = z ∨ (y ≠ z ∧ y ∈ ps.take i) := fun y hy => by
    rw [List.take_add_one, hz] at hy
    rcases List.mem_append.mp hy with h | h
    · exact .inr ⟨fun e => hni (e ▸ h), h⟩
    · exact .inl (by simpa using h)
  refine ⟨fun y hy => ?_, fun y hy u hu e => ?_⟩
  · rcases cases_ y hy with rfl | ⟨ne, hy⟩
    · rw [fup_same, fup_same]
      exact el
    · rw [fup_ne ne, fup_ne ne]
      exact s _ _ (fr y hy) (x.ls y hy)
  · rcases cases_ y hy with rfl | ⟨ne, hy⟩
    · rcases cases_ u hu with rfl | ⟨nu, hu⟩
      · rfl
      · rw [fup_same, fup_ne nu] at e
        rw [e, x.ls u hu] at nl
        cases nl
    · rcases cases_ u hu with rfl | ⟨nu, hu⟩
      · rw [fup_same, fup_ne ne] at e
        rw [← e, x.ls y hy] at nl
        cases nl
      · rw [fup_ne ne, fup_ne nu] at e
        exact x.inj y hy u hu e
theorem dec_str (a b : Str) : decide (V.str a = V.str b) = decide (a = b) := by simp
section
variable {P : Program} {w : World} {K : PySem.W.Frag} {mg : Str → Option Value} {base : Heap} {C : Addr}
/-! ### _law_rows -/
def spLawRows : Sp := fun vs H Q _ => ∃ (pl bl lk : Addr) (ps : List Str) (rs : Prs), vs = [.ref pl, .ref bl, .ref lk] ∧ H pl = some (.lst (svs ps)) ∧ H bl = some (.lst (rs.map fun r => V.ref r.1)) ∧ H lk = some (.lst []) ∧ PrsAt H ps rs ∧ ps.Nodup ∧ ps.length ≤ 8 ∧ (∀ z ∈ ps, PyData.strOk z = true) ∧
  ∀ H' D ad R, Same H H' → H D = none → H' D = some (.dK (kvA ps ad)) → DL H' ps ad R → Rows ps (rs.map (·.2)) R → Q (.ref D) H'
abbrev N49 : List Str := ["_law_people_here", "_law_barred_here", "_law_leaks", "_law_rows_here", "_law_a", "_law_row", "_law_b", "_law_leak"]
theorem sc49 : FnScope N49 ["_law_people_here", "_law_barred_here", "_law_leaks"] (defScope (top 49)) := ⟨rfl, rfl, rfl, by decide +kernel, rfl, by decide +kernel, by decide +kernel⟩
theorem ok_law_rows (D : Def K mg "_law_rows" (top 49)) (g : Glo mg) : Cal P w K mg base "_law_rows" ["_law_people_here", "_law_barred_here", "_law_leaks"] 1 spLawRows := by
  refine D.cal sc49 (fun vs H Q E h => ?_) (fun _ _ _ _ _ _ us hl => match us, hl with | [_, _, _], _ => rfl) fun f cdv A outer s H vs Q E hr h => ?_
  · obtain ⟨pl, bl, lk, ps, rs, rfl, _⟩ := h
    rfl
  obtain ⟨pl, bl, lk, ps, rs, rfl, hpl, hbl, hlk, rsA, hn, h8, hst, q⟩ := h
  have hu := hu_of hr
  refine ⟨_, pss_cons (ps_set (i := 3) sc49.nd rfl (.inl rfl) pe_dnewK)
    (pss_cons (ps_for PassesOwn.never rfl (pi_list (pv 0)) (pg_name (i := 4) sc49.nd rfl (.inr rfl))
      (pss_cons (ps_set (i := 5) sc49.nd rfl (.inl rfl) (pe_lst pa_nil))
      (pss_cons (ps_for PassesOwn.never rfl (pi_list (pe_callB cr_sortedS (by rfl) g.srt boot_sorted (pa_cons (pv 0) pa_nil))) (pg_name (i := 6) sc49.nd rfl (.inr rfl))
        (pss_one (ps_if (PW.pt (pw_and (pt_cmpR op_ne (pv 4) (pv 6) (nomark _)) (pw_and (pt_cmpR (op_notInD (hu65 hr)) (pe_tup (pa_cons (pv 4) (pa_cons (pv 6) pa_nil))) (pv 1) (by rfl))
            (pw_and1 (pt_val (pe_callB (cr_all rfl) (by rfl) g.all boot_all (pa_cons (pe_lc (own := [("_law_leak", 7)]) (g := gName 7) (tt := tYes) rfl sc49.nd (pi_list (pv 2)) (blkOk_by (own := [("_law_leak", 7)]) (N := N49) (sc := defScope (top 49)) (by decide +kernel)) (fun _ _ _ _ _ => pg_name (i := 7) sc49.nd rfl (.inl rfl)) (fun _ _ _ _ _ => pts_nil) (fun _ _ _ _ _ => pe_never)) pa_nil)))))))
          (pss_one (ps_expr (pe_bm PySem.F.plainAttrs_list PySem.F.slot_list_append PySem.F.type_list_append mt_append (pv 5) (pa_cons (pv 6) pa_nil)))) pss_nil)))
      (pss_one (ps_dput hu (pv 3) (pv 4) (pv 5) rfl)))))
    (pss_one (ps_ret (pv 3)))), ?_⟩
  intro Da nDa
  have sD : Same H (upd H Da (.dK [])) := same_new nDa
  refine ⟨_, rfl, pl, rfl, ⟨_, lstL (sD _ _ hpl)⟩, for_it (walk_listS (xs := ps)) (fun i σ H' => ∃ y4 y5 y6 ad R, σ = [some (.ref pl), some (.ref bl), some (.ref lk), some (.ref Da), y4, y5, y6, none] ∧ Same H H' ∧ H' Da = some (.dK (kvA (ps.take i) ad)) ∧ DL H' (ps.take i) ad R ∧ (∀ z ∈ ps.take i, ad z ≠ Da) ∧ ∀ z ∈ ps.take i, (R z).Perm (rowsOf ps (rs.map (·.2)) z))
    ⟨none, none, none, fun _ => 0, fun _ => [], rfl, sD, upd_same, ⟨fun z h => by simp at h, fun z h => by simp at h⟩, fun z h => by simp at h, fun z h => by simp at h⟩ (fun i σ H' _ h => ?_) ?_ ?_⟩
  · obtain ⟨_, _, _, _, _, _, s1, _⟩ := h
    exact lstL (s1 _ _ hpl)
  · rintro i x σ Ha Hb hi ⟨y4, y5, y6, ad, R, rfl, s1, eD, dl, fr, pr⟩ ⟨rfl, hx⟩
    obtain ⟨z, hz, rfl⟩ := svs_get hx
    have hzp : z ∈ ps := List.mem_of_getElem? hz
    refine ⟨Nat.zero_le _, fun l nl => ?_⟩
    have s2 := s1.trans (same_new (o := .lst []) nl)
    refine ⟨_, rfl, pl, ps, rfl, lstL (s2 _ _ hpl), by omega, fun ys p pe _ np => ⟨p, rfl, ⟨_, lstL upd_same⟩, ?_⟩⟩
    have nlp : l ≠ p := ne_of_none upd_same np
    have hl0 : (upd (upd Hb l (.lst [])) p (.lst (svs ys))) l = some (.lst []) := by rw [upd_ne nlp, upd_same]
    have hp0 : (upd (upd Hb l (.lst [])) p (.lst (svs ys))) p = some (.lst (svs ys)) := upd_same
    have s3 : Same Hb (upd (upd Hb l (.lst [])) p (.lst (svs ys))) := (same_new nl).trans (same_new np)
    generalize upd (upd Hb l (.lst [])) p (.lst (svs ys)) = H1 at hl0 hp0 s3
    clear s2
    refine for_it (walk_listS (xs := ys)) (fun j σ H' => ∃ y6, σ = [some (.ref pl), some (.ref bl), some (.ref lk), some (.ref Da), some (.str z), some (.ref l), y6, none] ∧ (∀ b o, b ≠ l → H1 b = some o → H' b = some o) ∧ H' l = some (.lst (svs ((ys.take j).filter (okp (rs.map (·.2)) z))))) ⟨y6, rfl, fun b o _ e => e, hl0⟩ (fun j σ H' _ h => ?_) ?_ ?_
    · obtain ⟨_, _, s4, _⟩ := h
      exact lstL (s4 _ _ nlp.symm hp0)
    · rintro j x σ Hc Hd hj ⟨y6, rfl, s4, el⟩ ⟨rfl, hx⟩
      obtain ⟨u, hu', rfl⟩ := svs_get hx
      have hup : u ∈ ps := pe.mem_iff.mp (List.mem_of_getElem? hu')
      have sH : Same Hb Hd := fun b o e => s4 b o (ne_of_none e nl) (s3 b o e)
      have sHH := s1.trans sH
      have ft := filter_take (p := okp (rs.map (·.2)) z) hu'
      refine ⟨_, rfl, _, rfl, rfl, _, rfl, ?_⟩
      rw [dec_str]
      by_cases ezu : z = u
      · have ho : okp (rs.map (·.2)) z u = false := by
          unfold okp
          rw [decide_eq_false fun h => h ezu]
          rfl
        rw [decide_eq_true ezu]
        refine iteF (iteF ⟨_, rfl, s4, ?_⟩)
        rw [ft, ho, el]
        simp
      · rw [decide_eq_false ezu]
        refine iteT ?_
        refine ⟨_, rfl, _, rfl, small64 (by show 2 ≤ 1000; decide), fun T nT => ?_⟩
        have s5 := same_new (o := .tup [.str z, .str u]) nT
        have s6 := sHH.trans s5
        refine ⟨_, rfl, dP (z, u), dPs (rs.map (·.2)), dp_pair (tupT upd_same), .lst (lstL (s6 _ _ hbl)) (dp_pairs rs fun r hr => tupT (s6 _ _ (rsA.at_ r hr))), shaped_pair (hst z hzp) (hst u hup), shaped_pairs (fun p hp => ?_), _, rfl, ?_⟩
        · obtain ⟨r, hr, rfl⟩ := List.mem_map.mp hp
          have := rsA.ok r hr
          exact ⟨hst _ this.1, hst _ this.2.1⟩
        rw [any_pairs]
        by_cases em : (z, u) ∈ rs.map (·.2)
        · have ho : okp (rs.map (·.2)) z u = false := by
            unfold okp
            rw [decide_eq_true em]
            simp
          rw [decide_eq_true em]
          refine iteF (iteF ⟨_, rfl, fun b o hb e => s5 _ _ (s4 b o hb e), ?_⟩)
          rw [ft, ho, s5 _ _ el]
          simp
        · have ho : okp (rs.map (·.2)) z u = true := by
            unfold okp
            rw [decide_eq_false em, decide_eq_true ezu]
            rfl
          rw [decide_eq_false em]
          refine iteT ?_
          refine ⟨_, rfl, lk, rfl, ⟨_, lstL (s6 _ _ hlk)⟩, fun D2 nD2 => ?_⟩
          have s7 := same_new (o := .lst []) nD2
          refine walk_in (walk_listS (xs := [])) (fun i H' => H' = upd (upd Hd T (.tup [.str z, .str u])) D2 (.lst [])) rfl (fun i H' _ h => ?_) (fun i x _ _ hi => absurd hi (Nat.not_lt_zero _)) (fun H3 h => ?_)
          · rw [h]
            exact lstL (s7 _ _ (s6 _ _ hlk))
          · subst h
            have s8 := s5.trans s7
            have el8 := s8 _ _ el
            refine ⟨D2, [], rfl, lstL upd_same, true, rfl, iteT ?_⟩
            refine ⟨_, rfl, .inl ⟨rfl, _, lstL el8⟩, _, rfl, l, _, _, rfl, rfl, el8, ?_, ?_⟩
            · rw [List.length_map]
              have h1 := List.length_filter_le (okp (rs.map (·.2)) z) (ys.take j)
              rw [List.length_take] at h1
              have h2 := pe.length_eq
              exact small1000 (by omega)
            · refine ⟨_, rfl, fun b o hb e => ?_, ?_⟩
              · rw [upd_ne hb]
                exact s8 _ _ (s4 b o hb e)
              · rw [upd_same, ft, ho]
                simp
    · rintro σ Hc ⟨y6, rfl, s4, el⟩
      rw [List.take_length] at el
      have sH : Same Hb Hc := fun b o e => s4 b o (ne_of_none e nl) (s3 b o e)
      have eDc := sH _ _ eD
      refine ⟨_, rfl, _, rfl, _, rfl, Da, _, rfl, .inl ⟨_, Sum.inr z, eDc, rfl, ?_, rfl⟩, ?_⟩
      · rw [kvD_len, List.length_take]
        exact small1000 (by omega)
      have nlD : l ≠ Da := fun e => by rw [e, eD] at nl; cases nl
      have hni : z ∉ ps.take i := fun m => not_nd hz m hn
      have cases_ : ∀ y ∈ ps.take (i + 1), y = z ∨ (y ≠ z ∧ y ∈ ps.take i) := fun y hy => by
        rw [List.take_add_one, hz] at hy
        rcases List.mem_append.mp hy with h | h
        · exact .inr ⟨fun e => hni (e ▸ h), h⟩
        · exact .inl (by simpa using h)
      refine ⟨_, _, _, fup ad z l, fup R z (ys.filter (okp (rs.map (·.2)) z)), rfl, same_upd (s1.trans sH) nDa, ?_, DL.snoc hn hz dl (fun b o hb e => ?_) fr nl ?_, fun y hy => ?_, fun y hy => ?_⟩
      · rw [upd_same, kvA_take hn hz]
      · rw [upd_ne hb]
        exact sH b o e
      · rw [upd_ne nlD]
        exact el
      · rcases cases_ y hy with rfl | ⟨ne, hy⟩
        · rw [fup_same]
          exact nlD
        · rw [fup_ne ne]
          exact fr y hy
      · rcases cases_ y hy with rfl | ⟨ne, hy⟩
        · rw [fup_same]
          exact pe.filter _
        · rw [fup_ne ne]
          exact pr y hy
  · rintro σ Ha ⟨y4, y5, y6, ad, R, rfl, s1, eD, dl, fr, pr⟩
    rw [List.take_length] at eD dl pr
    exact ⟨_, rfl, q Ha Da ad R s1 nDa eD dl pr⟩
end
end K56
set_option Elab.async false
set_option linter.all false
set_option maxRecDepth 100000
/-! The law's look at drawings and plans. -/
namespace K56
open PySem PySem.Spec PyProof.Rows L2 Gift
section
variable {P : Program} {w : World} {K : PySem.W.Frag} {mg : Str → Option Value} {base : Heap} {C : Addr}
/-! ### _law_is_drawing -/
def spLawDraw : Sp := fun vs H Q _ => ∃ (Da pl rd : Addr) (ps : List Str) (ar : Str → Addr) (R : Str → List Str) (d : Str → Str), vs = [.ref Da, .ref pl, .ref rd] ∧ H Da = some (.dK (kvD ps fun z => .str (d z))) ∧ H pl = some (.lst (svs ps)) ∧ H rd = some (.dK (kvA ps ar)) ∧ DL H ps ar R ∧ ps.Nodup ∧ ps.length ≤ 8 ∧ Draw ps R d ∧
  ∀ H', Same H H' → Q (.bl true) H'
abbrev N50 : List Str := ["_law_thing", "_law_people_here", "_law_rows_here", "_law_used", "_law_a", "_law_b"]
theorem sc50 : FnScope N50 ["_law_thing", "_law_people_here", "_law_rows_here"] (defScope (top 50)) := ⟨rfl, rfl, rfl, by decide +kernel, rfl, by decide +kernel, by decide +kernel⟩
theorem ok_law_is_drawing (D : Def K mg "_law_is_drawing" (top 50)) (g : Glo mg) : Cal P w K mg base "_law_is_drawing" ["_law_thing", "_law_people_here", "_law_rows_here"] 1 spLawDraw := by
  refine D.cal sc50 (fun vs H Q E h => ?_) (fun _ _ _ _ _ _ us hl => match us, hl with | [_, _, _], _ => rfl) fun f cdv A outer s H vs Q E hr h => ?_
  · obtain ⟨Da, pl, rd, ps, ar, R, d, rfl, _⟩ := h
    rfl
  obtain ⟨Da, pl, rd, ps, ar, R, d, rfl, hD, hpl, hrd, dl, hn, h8, dw, q⟩ := h
  have hu := hu_of hr
  refine ⟨_, pss_cons (ps_if (PW.pt (pw_or (pt_not (pt_val (pe_isi g.isi g.dct boot_dict (pv 0)))) (pw_or1 (pt_cmpR op_ne (pe_callB call_lenD (by rfl) g.len PySem.boot_len (pa_cons (pv 0) pa_nil)) (pe_callB call_len_seq (by rfl) g.len PySem.boot_len (pa_cons (pv 1) pa_nil)) (nomark _))))) pss_never pss_nil)
    (pss_cons (ps_set (i := 3) sc50.nd rfl (.inl rfl) (pe_lst pa_nil))
    (pss_cons (ps_for PassesOwn.never rfl (pi_list (pv 1)) (pg_name (i := 4) sc50.nd rfl (.inl rfl))
      (pss_cons (ps_if (pt_cmp (pc_dnotin hu (pv 4) (pv 0))) pss_never pss_nil)
      (pss_cons (ps_set (i := 5) sc50.nd rfl (.inl rfl) (pe_dget hu (pv 0) (pv 4) (fun _ _ => rfl)))
      (pss_cons (ps_if (PW.pt (pw_or (pt_not (pt_val (pe_isi g.isi g.str boot_str (pv 5)))) (pw_or (pt_cmpR op_notIn_seq (pv 5) (pe_dget hu (pv 2) (pv 4) (fun _ _ => rfl)) (by rfl)) (pw_or1 (pt_cmpR op_in_seq (pv 5) (pv 3) (by rfl)))))) pss_never pss_nil)
      (pss_one (ps_expr (pe_bm PySem.F.plainAttrs_list PySem.F.slot_list_append PySem.F.type_list_append mt_append (pv 3) (pa_cons (pv 5) pa_nil))))))))
    (pss_one (ps_ret pe_bl)))), ?_⟩
  refine ⟨_, rfl, _, _, _, rfl, .base (.dK hD), by decide +kernel, true, rfl, iteF ?_⟩
  refine ⟨_, rfl, Da, _, rfl, hD, _, rfl, pl, _, rfl, .inl (lstL hpl), rfl, false, ?_, iteF ?_⟩
  · rw [kvD_len, List.length_map]
    simp
  refine ⟨Nat.zero_le _, fun u nu => ?_⟩
  have s0 : Same H (upd H u (.lst [])) := same_new nu
  refine ⟨_, rfl, pl, rfl, ⟨_, lstL (s0 _ _ hpl)⟩, for_it (walk_listS (xs := ps)) (fun i σ H' => ∃ y4 y5, σ = [some (.ref Da), some (.ref pl), some (.ref rd), some (.ref u), y4, y5] ∧ Same H H' ∧ H' u = some (.lst (svs ((ps.take i).map d)))) ⟨none, none, rfl, s0, upd_same⟩ (fun i σ H' _ h => ?_) ?_ ?_⟩
  · obtain ⟨_, _, _, s1, _⟩ := h
    exact lstL (s1 _ _ hpl)
  · rintro i x σ Ha Hb hi ⟨y4, y5, rfl, s1, eu⟩ ⟨rfl, hx⟩
    obtain ⟨z, hz, rfl⟩ := svs_get hx
    have hzp : z ∈ ps := List.mem_of_getElem? hz
    have hD1 := s1 _ _ hD
    refine ⟨_, rfl, _, rfl, Da, _, rfl, dget_p (.inl hD1) hzp, false, rfl, iteF ?_⟩
    refine ⟨_, rfl, _, rfl, Da, _, rfl, dget_p (.inl hD1) hzp, ?_⟩
    have hm := dw.may z hzp
    have hni : d z ∉ (ps.take i).map d := fun m => by
      obtain ⟨y, hy, e⟩ := List.mem_map.mp m
      have := dw.inj y (List.mem_of_mem_take hy) z hzp e
      subst this
      exact not_nd hz hy hn
    refine ⟨_, rfl, _, _, _, rfl, .base (.str _), by decide +kernel, true, rfl, iteF ?_⟩
    refine ⟨_, rfl, _, rfl, _, rfl, rd, _, rfl, dget_p (.inl (s1 _ _ hrd)) hzp, ar z, svs (R z), rfl, .inl (lstL (s1 _ _ (dl.ls z hzp))), rfl, flat_svs _, false, ?_, iteF ?_⟩
    · show V.bl (!inV (.str (d z)) (svs (R z))) = _
      rw [inV_str, decide_eq_true hm]
      rfl
    refine ⟨_, rfl, _, rfl, u, _, rfl, .inl (lstL eu), rfl, flat_svs _, false, ?_, iteF ?_⟩
    · show V.bl (inV (.str (d z)) (svs ((ps.take i).map d))) = _
      rw [inV_str, decide_eq_false hni]
    refine ⟨_, rfl, .inl ⟨rfl, _, lstL eu⟩, _, rfl, u, _, _, rfl, rfl, eu, small1000 (by rw [List.length_map, List.length_map, List.length_take]; omega), ?_⟩
    refine ⟨_, _, rfl, same_upd s1 nu, ?_⟩
    rw [upd_same, List.take_add_one, hz, List.map_append, ← svs_snoc]
    rfl
  · rintro σ Ha ⟨y4, y5, rfl, s1, eu⟩
    exact q Ha s1
/-! ### _law_is_plan -/
def spLawIsPlan : Sp := fun vs H Q _ => ∃ (l pl rd : Addr) (y : Nat) (ps : List Str) (ar : Str → Addr) (R : Str → List Str) (qs : List (Addr × (Str → Str))), vs = [.ref l, .ref pl, .ref rd, .int y] ∧ PlanAt H l ps qs ∧ qs.length = y ∧ y ≤ 8 ∧ H pl = some (.lst (svs ps)) ∧ H rd = some (.dK (kvA ps ar)) ∧ DL H ps ar R ∧ ps.Nodup ∧ ps.length ≤ 8 ∧
  Plan ps R (qs.map (·.2)) ∧ (∀ z ∈ ps, PyData.strOk z = true) ∧ (∀ z ∈ ps, ∀ t ∈ R z, t ∈ ps) ∧ ∀ H', Same H H' → Q (.bl true) H'
abbrev N53 : List Str := ["_law_told", "_law_people_here", "_law_rows_here", "_law_years", "_law_used", "_law_drawing", "_law_pairs", "_law_a", "_law_pair"]
theorem sc53 : FnScope N53 ["_law_told", "_law_people_here", "_law_rows_here", "_law_years"] (defScope (top 53)) := ⟨rfl, rfl, rfl, by decide +kernel, rfl, by decide +kernel, by decide +kernel⟩
/-- a list of pairs: where each tuple lies, and what it holds -/
structure PairsAt (H : Hp) (u : Addr) (us : Prs) : Prop where
  at_ : H u = some (.lst (us.map fun r => V.ref r.1))
  tp : ∀ r ∈ us, H r.1 = some (.tup [.str r.2.1, .str r.2.2])
theorem PairsAt.same {H H' : Hp} {u : Addr} {us : Prs} (x : PairsAt H u us) (s : Same H H') : PairsAt H' u us := ⟨s _ _ x.at_, fun r hr => s _ _ (x.tp r hr)⟩
theorem ok_law_is_plan (D : Def K mg "_law_is_plan" (top 53)) (g : Glo mg) (cD : Cal P w K mg base "_law_is_drawing" ["_law_thing", "_law_people_here", "_law_rows_here"] 1 spLawDraw) : Cal P w K mg base "_law_is_plan" ["_law_told", "_law_people_here", "_law_rows_here", "_law_years"] 2 spLawIsPlan := by
  refine D.cal sc53 (fun vs H Q E h => ?_) (fun _ _ _ _ _ _ us hl => match us, hl with | [_, _, _, _], _ => rfl) fun f cdv A outer s H vs Q E hr h => ?_
  · obtain ⟨l, pl, rd, y, ps, ar, R, qs, rfl, _⟩ := h
    rfl
  obtain ⟨l, pl, rd, y, ps, ar, R, qs, rfl, pa, ql, hy, hpl, hrd, dl, hn, h8, pln, hst, hsub, q⟩ := h
  have hu := hu_of hr
  refine ⟨_, pss_cons (ps_if (PW.pt (pw_or (pt_not (pt_val (pe_isi g.isi g.lst boot_list (pv 0)))) (pw_or1 (pt_cmpR op_ne (pe_callB call_len_seq (by rfl) g.len PySem.boot_len (pa_cons (pv 0) pa_nil)) (pv 3) (nomark _))))) pss_never pss_nil)
    (pss_cons (ps_set (i := 4) sc53.nd rfl (.inr rfl) (pe_lst pa_nil))
    (pss_cons (ps_for PassesOwn.never rfl (pi_list (pv 0)) (pg_name (i := 5) sc53.nd rfl (.inr rfl))
      (pss_cons (ps_if (pt_not (pt_val (pe_cal cD hr (by rfl) (pa_cons (pv 5) (pa_cons (pv 1) (pa_cons (pv 2) pa_nil)))))) pss_never pss_nil)
      (pss_cons (ps_setLc (i := 6) (own := [("_law_a", 7)]) (g := gName 7) rfl sc53.nd rfl rfl rfl (pi_list (pv 1)) (blkOk_by (own := [("_law_a", 7)]) (N := N53) (sc := defScope (top 53)) (by decide +kernel)) (fun _ _ _ _ _ => pg_name (i := 7) sc53.nd rfl (.inl rfl))
        (fun _ _ _ _ _ => pts_nil) (fun _ _ _ _ _ => pe_tup (pa_cons (pv 7) (pa_cons (pe_dget (X := Cx.blk _ _ _ _ _ _) hu (pv 5) (pv 7) (fun _ _ => rfl)) pa_nil))))
      (pss_cons (ps_if (pt_cmpR op_gt (pe_callB call_len_seq (by rfl) g.len PySem.boot_len (pa_cons (pe_lc (own := [("_law_pair", 8)]) (g := gName 8) (tt := tTest (tOp (rInD K) (tVar 8) (tVar 4))) rfl sc53.nd (pi_list (pv 6)) (blkOk_by (own := [("_law_pair", 8)]) (N := N53) (sc := defScope (top 53)) (by decide +kernel)) (fun _ _ _ _ _ => pg_name (i := 8) sc53.nd rfl (.inl rfl))
        (fun _ _ _ _ _ => pts_one (pt_cmpR (op_inD (X := Cx.blk _ _ _ _ _ _) (hu65 hr)) (pv 8) (pv 4) (by rfl))) (fun _ _ _ _ _ => pv 8)) pa_nil)) pe_int (nomark _)) pss_never pss_nil)
      (pss_one (ps_set (i := 4) sc53.nd rfl (.inr rfl) (pe_op op_cat (pv 4) (pv 6))))))))
    (pss_one (ps_ret pe_bl)))), ?_⟩
  refine ⟨_, rfl, _, _, _, rfl, .base (.lst pa.at_), by decide +kernel, true, rfl, iteF ?_⟩
  refine ⟨_, rfl, l, _, rfl, .inl (lstL pa.at_), _, rfl, rfl, false, ?_, iteF ?_⟩
  · rw [List.length_map, ql]
    simp
  refine ⟨Nat.zero_le _, fun u0 nu0 => ?_⟩
  have s0 : Same H (upd H u0 (.lst [])) := same_new nu0
  have may : ∀ q ∈ qs, ∀ a ∈ ps, q.2 a ∈ R a := fun q hq a ha => (pln.all q.2 (List.mem_map.mpr ⟨q, hq, rfl⟩)).may a ha
  refine ⟨_, rfl, l, rfl, ⟨_, lstL (s0 _ _ pa.at_)⟩, for_it (walk_list (xs := qs.map fun q => V.ref q.1)) (fun i σ H' => ∃ y5 y6 u us, σ = [some (.ref l), some (.ref pl), some (.ref rd), some (.int y), some (.ref u), y5, y6, none, none] ∧ Same H H' ∧ PairsAt H' u us ∧ us.map (·.2) = (qs.take i).flatMap (fun q => ps.map fun a => (a, q.2 a)) ∧ us.length ≤ 8 * i)
    ⟨none, none, u0, [], rfl, s0, ⟨upd_same, fun r hr => absurd hr List.not_mem_nil⟩, rfl, Nat.zero_le _⟩ (fun i σ H' _ h => ?_) ?_ ?_⟩
  · obtain ⟨_, _, _, _, _, s1, _⟩ := h
    exact lstL (s1 _ _ pa.at_)
  · rintro i x σ Ha Hb hi ⟨y5, y6, u, us, rfl, s1, pu, eu, ul⟩ ⟨rfl, hx⟩
    rw [List.length_map] at hi
    obtain ⟨qd, hq⟩ : ∃ q, qs[i]? = some q := ⟨_, List.getElem?_eq_getElem hi⟩
    rw [List.getElem?_map, hq] at hx
    cases hx
    have hqm : qd ∈ qs := List.mem_of_getElem? hq
    refine ⟨_, rfl, _, rfl, _, rfl, qd.1, pl, rd, ps, ar, R, qd.2, rfl, s1 _ _ (pa.ds _ hqm), s1 _ _ hpl, s1 _ _ hrd, dl.same s1, hn, h8, pln.all _ (List.mem_map.mpr ⟨qd, hqm, rfl⟩), fun H2 s2 => ⟨true, rfl, iteF ?_⟩⟩
    have s3 := s1.trans s2
    have pu2 := pu.same s2
    have hd2 := s3 _ _ (pa.ds _ hqm)
    have hpl2 := s3 _ _ hpl
    clear s1 s2 pu
    -- _law_pairs = [..]
    refine ⟨_, rfl, pl, rfl, ⟨_, lstL hpl2⟩, fun Dl nDl => ?_⟩
    refine lc_it (walk_listS (xs := ps)) (fun j H' => Same H2 H' ∧ ∃ ts : Prs, PairsAt H' Dl ts ∧ ts.map (·.2) = (ps.take j).map fun a => (a, qd.2 a)) ⟨same_new nDl, [], ⟨upd_same, fun r hr => absurd hr List.not_mem_nil⟩, rfl⟩ (fun j H' _ h => lstL (h.1 _ _ hpl2)) (fun j x Hc Hd hj h hy => ?_) (fun H3 h => ?_)
    · obtain ⟨s4, ts, pt, et⟩ := h
      obtain ⟨rfl, hx⟩ := hy
      obtain ⟨z, hz, rfl⟩ := svs_get hx
      have hzp : z ∈ ps := List.mem_of_getElem? hz
      refine ⟨wipe_set1, ?_⟩
      unfold tYes
      dsimp only
      rw [if_pos rfl]
      refine ⟨_, rfl, _, rfl, _, rfl, qd.1, _, rfl, dget_p (.inl (s4 _ _ hd2)) hzp, small64 (by show 2 ≤ 1000; decide), fun T nT => ?_⟩
      have s5 := same_new (o := .tup [.str z, .str (qd.2 z)]) nT
      have tl : ts.length ≤ j := by
        have := congrArg List.length et
        rw [List.length_map, List.length_map, List.length_take] at this
        omega
      have j8 : j < ps.length := hj
      refine ⟨_, s5 _ _ pt.at_, small1000 (by rw [List.length_map]; omega), same_upd (s4.trans s5) nDl, ts ++ [(T, z, qd.2 z)], ⟨?_, fun r hr => ?_⟩, ?_⟩
      · rw [upd_same, List.map_append]
        rfl
      · rcases List.mem_append.mp hr with h | h
        · rw [upd_ne (ne_of (s5 _ _ (pt.tp r h)) (s5 _ _ pt.at_) fun z => nomatch z)]
          exact s5 _ _ (pt.tp r h)
        · have : r = (T, z, qd.2 z) := by simpa using h
          rw [this]
          rw [upd_ne (ne_of_none pt.at_ nT).symm]
          exact upd_same
      · rw [List.map_append, et, List.take_add_one, hz, List.map_append]
        rfl
    · obtain ⟨s4, ts, pt, et⟩ := h
      rw [List.take_length] at et
      have pu3 := pu2.same s4
      have sk : ∀ p ∈ us.map (·.2), PyData.strOk p.1 = true ∧ PyData.strOk p.2 = true := fun p hp => by
        rw [eu] at hp
        obtain ⟨q, hq', hp⟩ := List.mem_flatMap.mp hp
        obtain ⟨a, ha, rfl⟩ := List.mem_map.mp hp
        exact ⟨hst a ha, hst _ (hsub a ha _ (may q (List.mem_of_mem_take hq') a ha))⟩
      have tl : ts.length = ps.length := by
        have := congrArg List.length et
        rw [List.length_map, List.length_map] at this
        exact this
      -- the pairs that were used
      refine ⟨_, rfl, Dl, rfl, ⟨_, lstL pt.at_⟩, fun D2 nD2 => ?_⟩
      refine lc_it (walk_list (xs := ts.map fun r => V.ref r.1)) (fun j H' => Same H3 H' ∧ H' D2 = some (.lst [])) ⟨same_new nD2, upd_same⟩ (fun j H' _ h => lstL (h.1 _ _ pt.at_)) (fun j x Hc Hd hj h hy => ?_) (fun H4 h => ?_)
      · obtain ⟨s5, e5⟩ := h
        obtain ⟨rfl, hx⟩ := hy
        rw [List.length_map] at hj
        obtain ⟨r, hr⟩ : ∃ r, ts[j]? = some r := ⟨_, List.getElem?_eq_getElem hj⟩
        rw [List.getElem?_map, hr] at hx
        cases hx
        have hrm : r ∈ ts := List.mem_of_getElem? hr
        have hr2 : r.2 ∈ ps.map fun a => (a, qd.2 a) := by
          rw [← et]
          exact List.mem_map.mpr ⟨r, hrm, rfl⟩
        obtain ⟨a, ha, ea⟩ := List.mem_map.mp hr2
        have hni : r.2 ∉ us.map (·.2) := fun m => by
          rw [eu] at m
          obtain ⟨q, hq', m⟩ := List.mem_flatMap.mp m
          obtain ⟨a', ha', e'⟩ := List.mem_map.mp m
          rw [← ea] at e'
          obtain ⟨h1, h2⟩ := Prod.mk.inj e'
          subst h1
          have := pw_take pln.apart (x := qd.2) (i := i) (by rw [List.getElem?_map, hq]; rfl) q.2 (by rw [← List.map_take]; exact List.mem_map.mpr ⟨q, hq', rfl⟩)
          exact this a' ha h2
        refine ⟨wipe_set1, _, rfl, _, rfl, dP r.2, dPs (us.map (·.2)), dp_pair (tupT (s5 _ _ (pt.tp r hrm))), .lst (lstL (s5 _ _ pu3.at_)) (dp_pairs us fun r hr => tupT (s5 _ _ (pu3.tp r hr))), ?_, shaped_pairs sk, false, ?_, iteF ⟨s5, e5⟩⟩
        · rw [← ea]
          exact shaped_pair (hst a ha) (hst _ (hsub a ha _ (may qd hqm a ha)))
        · rw [any_pairs, decide_eq_false hni]
      · obtain ⟨s5, e5⟩ := h
        refine ⟨D2, [], rfl, .inl (lstL e5), _, _, rfl, rfl, false, rfl, iteF ?_⟩
        have pu4 := pu3.same s5
        have pt4 := pt.same s5
        refine ⟨_, rfl, _, rfl, u, Dl, _, _, rfl, rfl, pu4.at_, pt4.at_, ?_, fun p np => ?_⟩
        · rw [List.length_map, List.length_map]
          exact small64 (by omega)
        · have s6 := same_new (o := .lst ((us.map fun r => V.ref r.1) ++ ts.map fun r => V.ref r.1)) np
          refine ⟨_, _, p, us ++ ts, rfl, ((s3.trans s4).trans s5).trans s6, ⟨?_, fun r hr => ?_⟩, ?_, ?_⟩
          · rw [upd_same, List.map_append]
          · rcases List.mem_append.mp hr with h | h
            · exact s6 _ _ (pu4.tp r h)
            · exact s6 _ _ (pt4.tp r h)
          · rw [List.map_append, eu, et, List.take_add_one, hq, List.flatMap_append]
            simp
          · rw [List.length_append]
            omega
  · rintro σ Ha ⟨y5, y6, u, us, rfl, s1, _⟩
    exact q Ha s1
end
end K56
set_option Elab.async false
set_option linter.all false
set_option maxRecDepth 100000
/-! The law's look at bars; equality. -/
namespace K56
open PySem PySem.Spec PyProof.Rows L2 Gift
section
variable {P : Program} {w : World} {K : PySem.W.Frag} {mg : Str → Option Value} {base : Heap} {C : Addr}
/-! ### _law_is_lot -/
def spLawLot : Sp := fun vs H Q _ => ∃ (t pl : Addr) (ps S : List Str), vs = [.ref t, .ref pl] ∧ H t = some (.tup (svs S)) ∧ H pl = some (.lst (svs ps)) ∧ ps.Nodup ∧ ps.length ≤ 8 ∧ S.Nodup ∧ (∀ x ∈ S, x ∈ ps) ∧ sortedS S = true ∧ (∀ z ∈ ps, PyData.strOk z = true) ∧ ∀ H', Same H H' → Q (.bl true) H'
abbrev N54 : List Str := ["_law_told", "_law_people_here", "_law_a"]
theorem sc54 : FnScope N54 ["_law_told", "_law_people_here"] (defScope (top 54)) := ⟨rfl, rfl, rfl, by decide +kernel, rfl, by decide +kernel, by decide +kernel⟩
theorem lot_eq {ps ys S : List Str} (pe : ys.Perm ps) (so : sortedS ys = true) (hn : ps.Nodup) (hS : S.Nodup) (sS : sortedS S = true) (sub : ∀ x ∈ S, x ∈ ps) : S = ys.filter fun a => decide (a ∈ S) := by
  refine srt_uniq (sorted_pw sS) ((sorted_pw so).sublist List.filter_sublist) ?_
  refine (List.perm_ext_iff_of_nodup hS ((pe.nodup_iff.mpr hn).sublist List.filter_sublist)).mpr fun a => ?_
  rw [List.mem_filter, pe.mem_iff]
  constructor
  · exact fun h => ⟨sub a h, decide_eq_true h⟩
  · exact fun h => of_decide_eq_true h.2
theorem ok_law_is_lot (D : Def K mg "_law_is_lot" (top 54)) (g : Glo mg) : Cal P w K mg base "_law_is_lot" ["_law_told", "_law_people_here"] 1 spLawLot := by
  refine D.cal sc54 (fun vs H Q E h => ?_) (fun _ _ _ _ _ _ us hl => match us, hl with | [_, _], _ => rfl) fun f cdv A outer s H vs Q E hr h => ?_
  · obtain ⟨t, pl, ps, S, rfl, _⟩ := h
    rfl
  obtain ⟨t, pl, ps, S, rfl, ht, hpl, hn, h8, hS, sub, so, hst, q⟩ := h
  refine ⟨_, pss_cons (ps_if (PW.pt (pw_or (pt_not (pt_val (pe_isi g.isi g.tup boot_tuple (pv 0)))) (pw_or1 (pt_cmpR op_gt (pe_callB call_len_seq (by rfl) g.len PySem.boot_len (pa_cons (pe_lc (own := [("_law_a", 2)]) (g := gName 2) (tt := tNot (tB (tCB (rIs K "str") (tCons (tVar 2) (tCons (tC (.ty "str")) tNil))))) rfl sc54.nd (pi_tup (pv 0)) (blkOk_by (own := [("_law_a", 2)]) (N := N54) (sc := defScope (top 54)) (by decide +kernel)) (fun _ _ _ _ _ => pg_name (i := 2) sc54.nd rfl (.inl rfl))
        (fun _ _ _ _ _ => pts_one (pt_not (pt_val (pe_isi (X := Cx.blk _ _ _ _ _ _) g.isi g.str boot_str (pv 2))))) (fun _ _ _ _ _ => pv 2)) pa_nil)) pe_int (nomark _))))) pss_never pss_nil)
    (pss_one (ps_ret (pe_cmpR (op_eqD (hu64 hr)) (pe_callTy call_list_of (by rfl) g.lst boot_list (pa_cons (pv 0) pa_nil))
      (pe_lc (own := [("_law_a", 2)]) (g := gName 2) (tt := tTest (tOp (rIn K false) (tVar 2) (tVar 0))) rfl sc54.nd (pi_list (pe_callB cr_sortedS (by rfl) g.srt boot_sorted (pa_cons (pv 1) pa_nil))) (blkOk_by (own := [("_law_a", 2)]) (N := N54) (sc := defScope (top 54)) (by decide +kernel)) (fun _ _ _ _ _ => pg_name (i := 2) sc54.nd rfl (.inl rfl))
        (fun _ _ _ _ _ => pts_one (pt_cmpR (op_in_seq (X := Cx.blk _ _ _ _ _ _)) (pv 2) (pv 0) (by rfl))) (fun _ _ _ _ _ => pv 2)) (nomark _)))), ?_⟩
  have lS : S.length ≤ ps.length := nodup_le hS sub
  refine ⟨_, rfl, _, _, _, rfl, .base (.tup ht), by decide +kernel, true, rfl, iteF ?_⟩
  refine ⟨_, rfl, t, rfl, ⟨_, tupT ht⟩, fun D1 nD1 => ?_⟩
  refine lc_filter walk_tupS (fun _ => false) nD1 (by show 2 < 3; decide) (by omega) yat_svs (fun H' s => tupT (s _ _ ht)) (fun u hu H' s R hR => ?_) (fun H1 s1 e1 => ?_)
  · exact ⟨_, rfl, _, _, _, rfl, .base (.str _), by decide +kernel, true, rfl, hR H' (Same.refl _)⟩
  · have e1 : H1 D1 = some (.lst []) := by
      rw [e1, List.filter_eq_nil_iff.mpr fun a _ => Bool.false_ne_true]
      rfl
    refine ⟨D1, [], rfl, .inl (lstL e1), _, _, rfl, rfl, false, rfl, iteF ?_⟩
    have ht1 := s1 _ _ ht
    refine ⟨_, rfl, t, _, rfl, .inr (tupT ht1), fun l nl => ?_⟩
    have s2 := s1.trans (same_new (o := .lst (svs S)) nl)
    refine ⟨_, rfl, pl, ps, rfl, lstL (s2 _ _ hpl), by omega, fun ys p pe so2 np => ⟨p, rfl, ⟨_, lstL upd_same⟩, fun D2 nD2 => ?_⟩⟩
    have s3 := s2.trans (same_new (o := .lst (svs ys)) np)
    have ep : (upd (upd H1 l (.lst (svs S))) p (.lst (svs ys))) p = some (.lst (svs ys)) := upd_same
    have el : (upd (upd H1 l (.lst (svs S))) p (.lst (svs ys))) l = some (.lst (svs S)) := same_new np _ _ upd_same
    have yl := pe.length_eq
    refine lc_filter walk_listS (fun a => decide (a ∈ S)) nD2 (by show 2 < 3; decide) (by omega) yat_svs (fun H' s => lstL (s _ _ ep)) (fun u hu H' s R hR => ?_) (fun H4 s4 e4 => ?_)
    · refine ⟨_, rfl, _, rfl, t, svs S, rfl, .inr (tupT (s _ _ (s3 _ _ ht))), rfl, flat_svs _, _, rfl, ?_⟩
      show R (inV (.str u) (svs S)) H'
      rw [inV_str]
      exact hR H' (Same.refl _)
    · rw [← lot_eq pe so2 hn hS so sub] at e4
      refine ⟨_, _, dp_svs (lstL (s4 _ _ el)), dp_svs (lstL e4), shaped_svs fun x hx => hst x (sub x hx), shaped_svs fun x hx => hst x (sub x hx), ?_⟩
      rw [eqv_svs, decide_eq_true rfl]
      exact q _ (s3.trans s4)
/-! ### _law_is_bar -/
def spLawBar : Sp := fun vs H Q _ => ∃ (T a b pl rd : Addr) (y : Nat) (ps S Tt : List Str) (ar : Str → Addr) (R : Str → List Str), vs = [.ref T, .ref pl, .ref rd, .int y] ∧ y ≤ 24 ∧ H T = some (.tup [.ref a, .ref b]) ∧ H a = some (.tup (svs S)) ∧ H b = some (.tup (svs Tt)) ∧ H pl = some (.lst (svs ps)) ∧ H rd = some (.dK (kvA ps ar)) ∧ DL H ps ar R ∧ Inst ps R ∧ ps.length ≤ 8 ∧
  sortedS S = true ∧ sortedS Tt = true ∧ Bar ps R y S Tt ∧ (∀ z ∈ ps, PyData.strOk z = true) ∧ ∀ H', Same H H' → Q (.bl true) H'
abbrev N55 : List Str := ["_law_told", "_law_people_here", "_law_rows_here", "_law_years", "_law_pairs", "_law_a", "_law_b"]
theorem sc55 : FnScope N55 ["_law_told", "_law_people_here", "_law_rows_here", "_law_years"] (defScope (top 55)) := ⟨rfl, rfl, rfl, by decide +kernel, rfl, by decide +kernel, by decide +kernel⟩
theorem ok_law_is_bar (D : Def K mg "_law_is_bar" (top 55)) (g : Glo mg) (cL : Cal P w K mg base "_law_is_lot" ["_law_told", "_law_people_here"] 1 spLawLot) : Cal P w K mg base "_law_is_bar" ["_law_told", "_law_people_here", "_law_rows_here", "_law_years"] 2 spLawBar := by
  refine D.cal sc55 (fun vs H Q E h => ?_) (fun _ _ _ _ _ _ us hl => match us, hl with | [_, _, _, _], _ => rfl) fun f cdv A outer s H vs Q E hr h => ?_
  · obtain ⟨T, a, b, pl, rd, y, ps, S, Tt, ar, R, rfl, _⟩ := h
    rfl
  obtain ⟨T, a, b, pl, rd, y, ps, S, Tt, ar, R, rfl, hy, eT, ea, eb, hpl, hrd, dl, I, h8, so1, so2, br, hst, q⟩ := h
  have hu := hu_of hr
  refine ⟨_, pss_cons (ps_if (PW.pt (pw_or (pt_not (pt_val (pe_isi g.isi g.tup boot_tuple (pv 0)))) (pw_or1 (pt_cmpR op_ne (pe_callB call_len_seq (by rfl) g.len PySem.boot_len (pa_cons (pv 0) pa_nil)) pe_int (nomark _))))) pss_never pss_nil)
    (pss_cons (ps_if (PW.pt (pw_or (pt_not (pt_val (pe_cal cL hr (by rfl) (pa_cons (pe_ix ix_tup (pv 0) pe_int (fun _ _ => rfl)) (pa_cons (pv 1) pa_nil))))) (pw_or1 (pt_not (pt_val (pe_cal cL hr (by rfl) (pa_cons (pe_ix ix_tup (pv 0) pe_int (fun _ _ => rfl)) (pa_cons (pv 1) pa_nil)))))))) pss_never pss_nil)
    (pss_cons (ps_set (i := 4) sc55.nd rfl (.inl rfl) pe_int)
    (pss_cons (ps_for PassesOwn.never rfl (pi_tup (pe_ix ix_tup (pv 0) pe_int (fun _ _ => rfl))) (pg_name (i := 5) sc55.nd rfl (.inl rfl))
      (pss_one (ps_set (i := 4) sc55.nd rfl (.inl rfl) (pe_op op_add (pv 4) (pe_callB call_len_seq (by rfl) g.len PySem.boot_len (pa_cons (pe_lc (own := [("_law_b", 6)]) (g := gName 6) (tt := tTest (tOp (rIn K false) (tVar 6) (tOp (rIxT K) (tVar 0) (tC (.int 1))))) rfl sc55.nd (pi_list (pe_dget hu (pv 2) (pv 5) (fun _ _ => rfl))) (blkOk_by (own := [("_law_b", 6)]) (N := N55) (sc := defScope (top 55)) (by decide +kernel)) (fun _ _ _ _ _ => pg_name (i := 6) sc55.nd rfl (.inl rfl))
        (fun _ _ _ _ _ => pts_one (pt_cmpR (op_in_seq (X := Cx.blk _ _ _ _ _ _)) (pv 6) (pe_ix (X := Cx.blk _ _ _ _ _ _) ix_tup (pv 0) pe_int (fun _ _ => rfl)) (by rfl))) (fun _ _ _ _ _ => pv 6)) pa_nil))))))
    (pss_one (ps_ret (pe_cmpR op_gt (pe_op op_mul (pv 3) (pe_op op_sub (pe_op op_add (pe_callB call_len_seq (by rfl) g.len PySem.boot_len (pa_cons (pe_ix ix_tup (pv 0) pe_int (fun _ _ => rfl)) pa_nil)) (pe_callB call_len_seq (by rfl) g.len PySem.boot_len (pa_cons (pe_ix ix_tup (pv 0) pe_int (fun _ _ => rfl)) pa_nil))) (pe_callB call_len_seq (by rfl) g.len PySem.boot_len (pa_cons (pv 1) pa_nil)))) (pv 4) (nomark _))))))), ?_⟩
  have lS : S.length ≤ ps.length := nodup_le br.snd br.ssub
  have lT : Tt.length ≤ ps.length := nodup_le br.tnd br.tsub
  refine ⟨_, rfl, _, _, _, rfl, .base (.tup eT), by decide +kernel, true, rfl, iteF ?_⟩
  refine ⟨_, rfl, T, _, rfl, .inr (tupT eT), rfl, false, rfl, iteF ?_⟩
  refine ⟨_, rfl, T, _, 0, .ref a, rfl, rfl, tupT eT, rfl, _, rfl, a, pl, ps, S, rfl, ea, hpl, I.nd, h8, br.snd, br.ssub, so1, hst, fun H1 s1 => ⟨true, rfl, iteF ?_⟩⟩
  refine ⟨_, rfl, T, _, 1, .ref b, rfl, rfl, tupT (s1 _ _ eT), rfl, _, rfl, b, pl, ps, Tt, rfl, s1 _ _ eb, s1 _ _ hpl, I.nd, h8, br.tnd, br.tsub, so2, hst, fun H2 s2 => ⟨true, rfl, iteF ?_⟩⟩
  have s3 := s1.trans s2
  refine ⟨_, rfl, T, _, 0, .ref a, rfl, rfl, tupT (s3 _ _ eT), rfl, a, rfl, ⟨_, tupT (s3 _ _ ea)⟩, for_it (walk_tupS (xs := S)) (fun i σ H' => ∃ y5, σ = [some (.ref T), some (.ref pl), some (.ref rd), some (.int y), some (.int ((pairsIn R (S.take i) Tt : Nat) : Int)), y5, none] ∧ Same H H') ⟨none, rfl, s3⟩ (fun i σ H' _ h => ?_) ?_ ?_⟩
  · obtain ⟨_, _, s4⟩ := h
    exact tupT (s4 _ _ ea)
  · rintro i x σ Ha Hb hi ⟨y5, rfl, s4⟩ ⟨rfl, hx⟩
    obtain ⟨z, hz, rfl⟩ := svs_get hx
    have hzp : z ∈ ps := br.ssub z (List.mem_of_getElem? hz)
    have hRz := s4 _ _ (dl.ls z hzp)
    have lR : (R z).length ≤ ps.length := nodup_le (I.rnd z hzp) (I.sub z hzp)
    refine ⟨_, rfl, _, rfl, _, rfl, rd, _, rfl, dget_p (.inl (s4 _ _ hrd)) hzp, ar z, rfl, ⟨_, lstL hRz⟩, fun D nD => ?_⟩
    refine lc_filter walk_listS (fun t => decide (t ∈ Tt)) nD (by show 6 < 7; decide) (by omega) yat_svs (fun H' s => lstL (s _ _ hRz)) (fun u hu' H' s R2 hR2 => ?_) (fun H3 s5 e5 => ?_)
    · have s6 := s4.trans s
      refine ⟨_, rfl, _, rfl, T, _, 1, .ref b, rfl, rfl, tupT (s6 _ _ eT), rfl, b, svs Tt, rfl, .inr (tupT (s6 _ _ eb)), rfl, flat_svs _, _, rfl, ?_⟩
      show R2 (inV (.str u) (svs Tt)) H'
      rw [inV_str]
      exact hR2 H' (Same.refl _)
    · refine ⟨D, _, rfl, .inl (lstL e5), _, _, rfl, rfl, some (.str z), ?_, s4.trans s5⟩
      have ee : pairsIn R (S.take (i + 1)) Tt = pairsIn R (S.take i) Tt + ((R z).filter fun t => decide (t ∈ Tt)).length := by
        unfold pairsIn
        rw [List.take_add_one, hz, List.map_append, List.sum_append, ← List.countP_eq_length_filter]
        show _ + [(R z).countP fun t => decide (t ∈ Tt)].sum = _
        simp
      rw [ee, List.length_map]
      rfl
  · rintro σ Ha ⟨y5, rfl, s4⟩
    rw [List.take_length]
    have eT4 := s4 _ _ eT
    refine ⟨_, rfl, _, rfl, T, _, 0, .ref a, rfl, rfl, tupT eT4, rfl, a, _, rfl, .inr (tupT (s4 _ _ ea)), _, rfl, T, _, 1, .ref b, rfl, rfl, tupT eT4, rfl, b, _, rfl, .inr (tupT (s4 _ _ eb)), _, _, rfl, rfl, _, rfl, pl, _, rfl, .inl (lstL (s4 _ _ hpl)), _, _, rfl, rfl, _, _, rfl, rfl, ?_, _, rfl, _, _, rfl, rfl, ?_⟩
    · exact .inl ⟨by omega, by omega⟩
    · have h0 := br.ineq
      have h1 : ((pairsIn R S Tt : Nat) : Int) < (y : Int) * (((svs S).length : Int) + ((svs Tt).length : Int) - ((svs ps).length : Int)) := by
        rw [List.length_map, List.length_map, List.length_map, Int.mul_sub]
        have h5 : ((pairsIn R S Tt + y * ps.length : Nat) : Int) < ((y * (S.length + Tt.length) : Nat) : Int) := Int.ofNat_lt.mpr h0
        rw [Int.natCast_add, Int.natCast_mul, Int.natCast_mul, Int.natCast_add] at h5
        omega
      have := q Ha s4
      rw [← decide_eq_true h1] at this
      exact this
end
end K56
set_option Elab.async false
set_option linter.all false
set_option maxRecDepth 100000
/-! _law_equal. -/
namespace K56
open PySem PySem.Spec PyProof.Rows L2 Gift
section
variable {P : Program} {w : World} {K : PySem.W.Frag} {mg : Str → Option Value} {base : Heap} {C : Addr}
/-- a value that is no container, and no bool -/
def Sing (x : V) : Prop := x = .non ∨ (∃ z, x = .str z) ∨ ∃ i, x = .int i
def spEqS : Sp := fun vs H Q _ => ∃ x : V, vs = [x, x] ∧ Sing x ∧ Q (.bl true) H
abbrev N51 : List Str := ["_law_actual", "_law_due", "_law_key", "_law_k"]
theorem sc51 : FnScope N51 ["_law_actual", "_law_due"] (defScope (top 51)) := ⟨rfl, rfl, rfl, by decide +kernel, rfl, by decide +kernel, by decide +kernel⟩
theorem ok_law_equal (D : Def K mg "_law_equal" (top 51)) (g : Glo mg) : Cal P w K mg base "_law_equal" ["_law_actual", "_law_due"] 1 spEqS := by
  refine D.cal sc51 (fun vs H Q E h => ?_) (fun _ _ _ _ _ _ us hl => match us, hl with | [_, _], _ => rfl) fun f cdv A outer s H vs Q E hr h => ?_
  · obtain ⟨x, rfl, _⟩ := h
    rfl
  obtain ⟨x, rfl, sg, q⟩ := h
  refine ⟨_, pss_cons (ps_if (PW.pt (pw_or (pt_val (pe_isi g.isi g.lst boot_list (pv 1))) (pw_or1 (pt_val (pe_isi g.isi g.tup boot_tuple (pv 1)))))) pss_never pss_nil)
    (pss_cons (ps_if (pt_val (pe_isi g.isi g.dct boot_dict (pv 1))) pss_never pss_nil)
    (pss_cons (ps_if (pt_val (pe_isi g.isi g.bool boot_bool (pv 1))) pss_never pss_nil)
    (pss_cons (ps_if (pt_val (pe_isi g.isi g.str boot_str (pv 1))) (pss_one (ps_ret (pe_and (pe_isi g.isi g.str boot_str (pv 0)) (pe_one (pe_cmpR op_eq (pv 0) (pv 1) (nomark _)))))) pss_nil)
    (pss_cons (ps_if (pt_val (pe_isi g.isi g.int boot_int (pv 1))) (pss_one (ps_ret (pe_and (pe_isi g.isi g.int boot_int (pv 0)) (pe_and (pe_not (pe_isi g.isi g.bool boot_bool (pv 0))) (pe_one (pe_cmpR op_eq (pv 0) (pv 1) (nomark _))))))) pss_nil)
    (pss_one (ps_ret (pe_and (pe_cmp (pc_isN (pv 1))) (pe_one (pe_cmp (pc_isN (pv 0))))))))))), ?_⟩
  rcases sg with rfl | ⟨z, rfl⟩ | ⟨i, rfl⟩
  · refine ⟨_, rfl, _, _, _, rfl, .base .non, by decide +kernel, false, rfl, iteF ?_⟩
    refine ⟨_, rfl, _, _, _, rfl, .base .non, by decide +kernel, false, rfl, iteF ?_⟩
    refine ⟨_, rfl, _, _, _, rfl, .base .non, by decide +kernel, false, rfl, iteF ?_⟩
    refine ⟨_, rfl, _, _, _, rfl, .base .non, by decide +kernel, false, rfl, iteF ?_⟩
    refine ⟨_, rfl, _, _, _, rfl, .base .non, by decide +kernel, false, rfl, iteF ?_⟩
    refine ⟨_, rfl, _, _, _, rfl, .base .non, by decide +kernel, false, rfl, iteF ?_⟩
    exact ⟨_, rfl, true, rfl, iteT ⟨_, rfl, q⟩⟩
  · refine ⟨_, rfl, _, _, _, rfl, .base (.str z), by decide +kernel, false, rfl, iteF ?_⟩
    refine ⟨_, rfl, _, _, _, rfl, .base (.str z), by decide +kernel, false, rfl, iteF ?_⟩
    refine ⟨_, rfl, _, _, _, rfl, .base (.str z), by decide +kernel, false, rfl, iteF ?_⟩
    refine ⟨_, rfl, _, _, _, rfl, .base (.str z), by decide +kernel, false, rfl, iteF ?_⟩
    refine ⟨_, rfl, _, _, _, rfl, .base (.str z), by decide +kernel, true, rfl, iteT ?_⟩
    refine ⟨_, rfl, _, _, _, rfl, .base (.str z), by decide +kernel, true, rfl, iteT ?_⟩
    refine ⟨_, rfl, _, rfl, rfl, ?_⟩
    rw [decide_eq_true rfl]
    exact q
  · refine ⟨_, rfl, _, _, _, rfl, .base (.int i), by decide +kernel, false, rfl, iteF ?_⟩
    refine ⟨_, rfl, _, _, _, rfl, .base (.int i), by decide +kernel, false, rfl, iteF ?_⟩
    refine ⟨_, rfl, _, _, _, rfl, .base (.int i), by decide +kernel, false, rfl, iteF ?_⟩
    refine ⟨_, rfl, _, _, _, rfl, .base (.int i), by decide +kernel, false, rfl, iteF ?_⟩
    refine ⟨_, rfl, _, _, _, rfl, .base (.int i), by decide +kernel, false, rfl, iteF ?_⟩
    refine ⟨_, rfl, _, _, _, rfl, .base (.int i), by decide +kernel, true, rfl, iteT ?_⟩
    refine ⟨_, rfl, _, _, _, rfl, .base (.int i), by decide +kernel, true, rfl, iteT ?_⟩
    refine ⟨_, rfl, _, _, _, rfl, .base (.int i), by decide +kernel, false, rfl, true, rfl, iteT ?_⟩
    refine ⟨_, rfl, _, rfl, rfl, ?_⟩
    rw [decide_eq_true rfl]
    exact q
def spEqT : Sp := fun vs H Q _ => ∃ (a b : Addr) (z : Str) (y : Int), vs = [.ref a, .ref b] ∧ H a = some (.tup [.str z, .int y]) ∧ H b = some (.tup [.str z, .int y]) ∧ ∀ H', Same H H' → Q (.bl true) H'
theorem ok_law_equalT (D : Def K mg "_law_equal" (top 51)) (g : Glo mg) (cE : Cal P w K mg base "_law_equal" ["_law_actual", "_law_due"] 1 spEqS) : Cal P w K mg base "_law_equal" ["_law_actual", "_law_due"] 2 spEqT := by
  refine D.cal sc51 (fun vs H Q E h => ?_) (fun _ _ _ _ _ _ us hl => match us, hl with | [_, _], _ => rfl) fun f cdv A outer s H vs Q E hr h => ?_
  · obtain ⟨a, b, z, y, rfl, _⟩ := h
    rfl
  obtain ⟨a, b, z, y, rfl, ha, hb, q⟩ := h
  refine ⟨_, pss_cons (ps_if (PW.pt (pw_or (pt_val (pe_isi g.isi g.lst boot_list (pv 1))) (pw_or1 (pt_val (pe_isi g.isi g.tup boot_tuple (pv 1))))))
      (pss_cons (ps_if (PW.pt (pw_and (pt_val (pe_isi g.isi g.lst boot_list (pv 1))) (pw_and1 (pt_not (pt_val (pe_isi g.isi g.lst boot_list (pv 0))))))) pss_never pss_nil)
      (pss_cons (ps_if (PW.pt (pw_and (pt_val (pe_isi g.isi g.tup boot_tuple (pv 1))) (pw_and1 (pt_not (pt_val (pe_isi g.isi g.tup boot_tuple (pv 0))))))) pss_never pss_nil)
      (pss_cons (ps_if (pt_cmpR op_ne (pe_callB call_len_seq (by rfl) g.len PySem.boot_len (pa_cons (pv 0) pa_nil)) (pe_callB call_len_seq (by rfl) g.len PySem.boot_len (pa_cons (pv 1) pa_nil)) (nomark _)) pss_never pss_nil)
      (pss_one (ps_ret (pe_callB (cr_all rfl) (by rfl) g.all boot_all (pa_cons (pe_lc (own := [("_law_k", 3)]) (g := gName 3) (te := tCall spEqS [] E0 (tCons (tOp (rIxT K) (tVar 0) (tVar 3)) (tCons (tOp (rIxT K) (tVar 1) (tVar 3)) tNil))) rfl sc51.nd (pi_range1 (by rfl) g.rng (pa_cons (pe_callB call_len_seq (by rfl) g.len PySem.boot_len (pa_cons (pv 1) pa_nil)) pa_nil)) (blkOk_by (own := [("_law_k", 3)]) (N := N51) (sc := defScope (top 51)) (by decide +kernel)) (fun _ _ _ _ _ => pg_name (i := 3) sc51.nd rfl (.inl rfl))
        (fun _ _ _ _ _ => pts_nil) (fun _ _ _ _ _ => pe_cal (X := Cx.blk _ _ _ _ _ _) cE hr (by rfl) (pa_cons (pe_ix (X := Cx.blk _ _ _ _ _ _) ix_tup (pv 0) (pv 3) (fun _ _ => rfl)) (pa_cons (pe_ix (X := Cx.blk _ _ _ _ _ _) ix_tup (pv 1) (pv 3) (fun _ _ => rfl)) pa_nil)))) pa_nil)))))))
      pss_nil)
    pss_never, ?_⟩
  refine ⟨_, rfl, _, _, _, rfl, .base (.tup hb), by decide +kernel, false, rfl, iteF ?_⟩
  refine ⟨_, rfl, _, _, _, rfl, .base (.tup hb), by decide +kernel, true, rfl, iteT ?_⟩
  refine ⟨_, rfl, _, _, _, rfl, .base (.tup hb), by decide +kernel, false, rfl, iteF (iteF ?_)⟩
  refine ⟨_, rfl, _, _, _, rfl, .base (.tup hb), by decide +kernel, true, rfl, iteT ?_⟩
  refine ⟨_, rfl, _, _, _, rfl, .base (.tup ha), by decide +kernel, true, rfl, iteF ?_⟩
  refine ⟨_, rfl, a, _, rfl, .inr (tupT ha), _, rfl, b, _, rfl, .inr (tupT hb), rfl, false, rfl, iteF ?_⟩
  refine ⟨_, rfl, b, _, rfl, .inr (tupT hb), (2 : Nat), rfl, by omega, by omega, fun D nD => ?_⟩
  refine lc_it (walk_range (lo := 0) (n := 2)) (fun i H' => Same H H' ∧ H' D = some (.lst ((List.replicate i true).map V.bl))) ⟨same_new nD, upd_same⟩ (fun _ _ _ _ => trivial) (fun i x Ha Hb hi h hy => ?_) (fun H1 h => ?_)
  · obtain ⟨s1, eD⟩ := h
    obtain ⟨rfl, rfl⟩ := hy
    refine ⟨wipe_set1, ?_⟩
    unfold tYes
    dsimp only
    rw [if_pos rfl]
    have key : ∀ x : V, Sing x → ([.str z, .int y] : List V)[i]? = some x → ([V.str z, V.int y] : List V)[i]? = some x := fun _ _ h => h
    have hx : ∃ x : V, Sing x ∧ ([.str z, .int y] : List V)[i]? = some x := by
      match i, hi with
      | 0, _ => exact ⟨.str z, .inr (.inl ⟨z, rfl⟩), rfl⟩
      | 1, _ => exact ⟨.int y, .inr (.inr ⟨y, rfl⟩), rfl⟩
    obtain ⟨x, sx, ex⟩ := hx
    have e0 : (0 : Int) + (i : Int) = (i : Int) := Int.zero_add _
    refine ⟨_, rfl, _, rfl, a, _, _, x, rfl, rfl, tupT (s1 _ _ ha), ?_, _, rfl, _, rfl, b, _, _, x, rfl, rfl, tupT (s1 _ _ hb), ?_, x, rfl, sx, _, eD, ?_, same_upd s1 nD, ?_⟩
    · rw [e0]
      exact atI_nat ex
    · rw [e0]
      exact atI_nat ex
    · rw [List.length_map, List.length_replicate]
      exact small1000 (by omega)
    · rw [upd_same, List.replicate_succ', List.map_append]
      rfl
  · obtain ⟨s1, eD⟩ := h
    refine ⟨D, List.replicate 2 true, rfl, lstL eD, ?_⟩
    exact q H1 s1
end
end K56
set_option Elab.async false
set_option linter.all false
set_option maxRecDepth 100000
/-! The law's numbers: _law_cell, _law_draws. -/
namespace K56
open PySem PySem.Spec PyProof.Rows L2 Gift
section
variable {P : Program} {w : World} {K : PySem.W.Frag} {mg : Str → Option Value} {base : Heap} {C : Addr}
/-! ### _law_cell -/
def spLawCell (K : PySem.W.Frag) : Sp := fun vs H Q _ => ∃ (a : Addr) (ns : List Int) (k : Nat), vs = [.ref a, .int k] ∧ SqL K H a (ns.map V.int) ∧ k ≤ 1000 ∧ ∀ v : Int, Q (.int v) H
theorem sc44 : FnScope ["_law_script", "_law_k"] ["_law_script", "_law_k"] (defScope (top 44)) := ⟨rfl, rfl, rfl, by decide +kernel, rfl, by decide +kernel, by decide +kernel⟩
theorem ok_law_cell (D : Def K mg "_law_cell" (top 44)) (g : Glo mg) : Cal P w K mg base "_law_cell" ["_law_script", "_law_k"] 1 (spLawCell K) := by
  refine D.cal sc44 (fun vs H Q E h => ?_) (fun _ _ _ _ _ _ us hl => match us, hl with | [_, _], _ => rfl) fun f cdv A outer s H vs Q E hr h => ?_
  · obtain ⟨a, ns, k, rfl, _⟩ := h
    rfl
  obtain ⟨a, ns, k, rfl, ha, hk, q⟩ := h
  refine ⟨_, pss_cons (ps_if (pt_cmpR op_lt (pv 1) (pe_callB call_len_seq (by rfl) g.len PySem.boot_len (pa_cons (pv 0) pa_nil)) (nomark _)) (pss_one (ps_ret (pe_callTy call_int1 (by rfl) g.int boot_int (pa_cons (pe_ix ix_list (pv 0) (pv 1) (fun _ _ => rfl)) pa_nil)))) pss_nil)
    (pss_one (ps_ret (pe_op op_add (pe_op op_mul pe_int (pv 1)) (pe_callB call_len_seq (by rfl) g.len PySem.boot_len (pa_cons (pv 0) pa_nil))))), ?_⟩
  refine ⟨_, rfl, _, rfl, a, _, rfl, .inl ha, _, _, rfl, rfl, ?_⟩
  by_cases h : k < ns.length
  · refine ⟨true, congrArg V.bl (decide_eq_true (by rw [List.length_map]; omega)), iteT ?_⟩
    refine ⟨_, rfl, _, rfl, a, _, _, .int ns[k], rfl, rfl, ha, atI_nat (by rw [List.getElem?_map, List.getElem?_eq_getElem h]; rfl), .inl ⟨_, rfl, q _⟩⟩
  · refine ⟨false, congrArg V.bl (decide_eq_false (by rw [List.length_map]; omega)), iteF ?_⟩
    refine ⟨_, rfl, _, _, rfl, rfl, .inl ⟨by omega, by omega⟩, _, rfl, a, _, rfl, .inl ha, _, _, rfl, rfl, q _⟩
/-! ### _law_draws -/
theorem mulS {v j : Int} (h0 : 0 ≤ v) (h1 : v < 2147483647) : CMul v j := .inl ⟨by omega, by omega⟩
def spDraws : Sp := fun vs H Q _ => ∃ (c : Int) (n : Nat), vs = [.int c, .int n] ∧ n ≤ 1000 ∧ ∀ H' l (xs : List Nat), Same H H' → H l = none → H' l = some (.lst (xs.map fun x : Nat => V.int (x : Int))) → xs.length = n → (∀ x ∈ xs, x < 5040) → Q (.ref l) H'
abbrev N45 : List Str := ["_law_cell_here", "_law_amount", "_law_great", "_law_draws_here", "_law_k", "_law_number"]
theorem sc45 : FnScope N45 ["_law_cell_here", "_law_amount"] (defScope (top 45)) := ⟨rfl, rfl, rfl, by decide +kernel, rfl, by decide +kernel, by decide +kernel⟩
theorem ok_law_draws (D : Def K mg "_law_draws" (top 45)) (g : Glo mg) : Cal P w K mg base "_law_draws" ["_law_cell_here", "_law_amount"] 1 spDraws := by
  refine D.cal sc45 (fun vs H Q E h => ?_) (fun _ _ _ _ _ _ us hl => match us, hl with | [_, _], _ => rfl) fun f cdv A outer s H vs Q E hr h => ?_
  · obtain ⟨c, n, rfl, _⟩ := h
    rfl
  obtain ⟨c, n, rfl, hn, q⟩ := h
  refine ⟨_, pss_cons (ps_set (i := 0) sc45.nd rfl (.inl rfl) (pe_callTy call_int1 (by rfl) g.int boot_int (pa_cons (pv 0) pa_nil)))
    (pss_cons (ps_set (i := 2) sc45.nd rfl (.inl rfl) (pe_cmpR op_ge (pv 0) (pe_op op_pow pe_int pe_int) (nomark _)))
    (pss_cons (ps_set (i := 3) sc45.nd rfl (.inl rfl) (pe_lst pa_nil))
    (pss_cons (ps_for PassesOwn.never rfl (pi_range1 (by rfl) g.rng (pa_cons (pv 1) pa_nil)) (pg_name (i := 4) sc45.nd rfl (.inl rfl))
      (pss_one (ps_if (pt_val (pv 2))
        (pss_cons (ps_expr (pe_bm PySem.F.plainAttrs_list PySem.F.slot_list_append PySem.F.type_list_append mt_append (pv 3) (pa_cons (pe_op op_mod (pe_callTy call_int1 (by rfl) g.int boot_int (pa_cons (pv 0) pa_nil)) pe_int) pa_nil)))
        (pss_one (ps_set (i := 0) sc45.nd rfl (.inl rfl) (pe_op op_fdiv (pv 0) pe_int))))
        (pss_cons (ps_set (i := 5) sc45.nd rfl (.inl rfl) (pe_op op_mod (pe_callTy call_int1 (by rfl) g.int boot_int (pa_cons (pe_op op_mul (pe_op op_add (pe_op op_add (pv 0) (pe_op op_mul pe_int (pv 4))) pe_int) pe_int) pa_nil)) pe_int))
        (pss_cons (ps_set (i := 5) sc45.nd rfl (.inl rfl) (pe_op op_mod (pe_callTy call_int1 (by rfl) g.int boot_int (pa_cons (pe_op op_mul (pv 5) (pe_op op_add (pe_op op_fdiv (pv 5) pe_int) pe_int)) pa_nil)) pe_int))
        (pss_cons (ps_set (i := 5) sc45.nd rfl (.inl rfl) (pe_op op_mod (pe_callTy call_int1 (by rfl) g.int boot_int (pa_cons (pe_op op_mul (pv 5) (pe_op op_add (pe_op op_fdiv (pv 5) pe_int) pe_int)) pa_nil)) pe_int))
        (pss_one (ps_expr (pe_bm PySem.F.plainAttrs_list PySem.F.slot_list_append PySem.F.type_list_append mt_append (pv 3) (pa_cons (pe_op op_mod (pe_callTy call_int1 (by rfl) g.int boot_int (pa_cons (pe_op op_fdiv (pv 5) pe_int) pa_nil)) pe_int) pa_nil))))))))))
    (pss_one (ps_ret (pv 3)))))), ?_⟩
  refine ⟨_, rfl, .inl ⟨c, rfl, ?_⟩⟩
  refine ⟨_, rfl, _, _, rfl, rfl, ⟨by decide, by decide, by decide⟩, _, _, rfl, rfl, ?_⟩
  refine ⟨Nat.zero_le _, fun l nl => ?_⟩
  have more : ∀ {H1 : Hp} {xs : List Nat} {v : Int} {i : Nat}, Same H H1 → H1 l = some (.lst (xs.map fun x : Nat => V.int (x : Int))) → xs.length = i → (∀ x ∈ xs, x < 5040) → 0 ≤ v → v < 5040 → ∀ (c : Int) (gr : Bool) (y4 y5 : Option V),
      ∃ (c' : Int) (gr' : Bool) (y4' y5' : Option V) (xs' : List Nat), ([some (.int c), some (.int n), some (.bl gr), some (.ref l), y4, y5] : L2.St) = [some (.int c'), some (.int n), some (.bl gr'), some (.ref l), y4', y5'] ∧ Same H (upd H1 l (.lst ((xs.map fun x : Nat => V.int (x : Int)) ++ [.int v]))) ∧ upd H1 l (.lst ((xs.map fun x : Nat => V.int (x : Int)) ++ [.int v])) l = some (.lst (xs'.map fun x : Nat => V.int (x : Int))) ∧ xs'.length = i + 1 ∧ ∀ x ∈ xs', x < 5040 := fun {H1 xs v i} s1 el xl xb h0 h1 c gr y4 y5 => by
    refine ⟨c, gr, y4, y5, xs ++ [v.toNat], rfl, same_upd s1 nl, ?_, by rw [List.length_append, xl]; rfl, fun x hx => ?_⟩
    · rw [upd_same, List.map_append]
      show _ = some (HO.lst (_ ++ [V.int ((v.toNat : Nat) : Int)]))
      rw [Int.toNat_of_nonneg h0]
    · rcases List.mem_append.mp hx with h | h
      · exact xb x h
      · have : x = v.toNat := by simpa using h
        omega
  have lo5 : ∀ v : Int, 0 ≤ v % 5040 ∧ v % 5040 < 5040 := fun v => ⟨Int.emod_nonneg v (by decide), Int.emod_lt_of_pos v (by decide)⟩
  refine ⟨_, rfl, (n : Int), rfl, by omega, by omega, for_range (lo := 0) (fun i σ H' => ∃ c gr y4 y5, ∃ xs : List Nat, σ = [some (.int c), some (.int n), some (.bl gr), some (.ref l), y4, y5] ∧ Same H H' ∧ H' l = some (.lst (xs.map fun x : Nat => V.int (x : Int))) ∧ xs.length = i ∧ ∀ x ∈ xs, x < 5040)
    ⟨c, _, none, none, [], rfl, same_new nl, upd_same, rfl, fun x hx => absurd hx List.not_mem_nil⟩ ?_ ?_⟩
  · rintro i σ Ha hi ⟨c, gr, y4, y5, xs, rfl, s1, el, xl, xb⟩
    have hi : i < n := hi
    have lsz : (xs.map fun x : Nat => V.int (x : Int)).length < sizeLine := small1000 (by rw [List.length_map]; omega)
    refine ⟨_, rfl, gr, rfl, ?_⟩
    cases gr with
    | true =>
      refine iteT ?_
      refine ⟨_, rfl, .inl ⟨rfl, _, lstL el⟩, _, rfl, .inl ⟨c, rfl, _, _, rfl, rfl, (by decide : (0 : Int) < 5040), l, _, _, rfl, rfl, el, lsz, ?_⟩⟩
      refine ⟨_, rfl, _, _, rfl, rfl, ⟨by decide, by decide⟩, ?_⟩
      exact more s1 el xl xb (lo5 c).1 (lo5 c).2 _ true _ _
    | false =>
      refine iteF ?_
      refine ⟨_, rfl, _, rfl, _, _, rfl, rfl, .inl ⟨by decide, by decide⟩, _, _, rfl, rfl, _, _, rfl, rfl, _, _, rfl, rfl, .inr ⟨by decide, by decide⟩, .inl ⟨_, rfl, _, _, rfl, rfl, (by decide : (0 : Int) < 2147483647), ?_⟩⟩
      have m1 : ∀ v : Int, 0 ≤ v % 2147483647 ∧ v % 2147483647 < 2147483647 := fun v => ⟨Int.emod_nonneg v (by decide), Int.emod_lt_of_pos v (by decide)⟩
      refine ⟨_, rfl, _, rfl, _, _, rfl, rfl, ⟨by decide, by decide⟩, _, _, rfl, rfl, _, _, rfl, rfl, mulS (m1 _).1 (m1 _).2, .inl ⟨_, rfl, _, _, rfl, rfl, (by decide : (0 : Int) < 2147483647), ?_⟩⟩
      refine ⟨_, rfl, _, rfl, _, _, rfl, rfl, ⟨by decide, by decide⟩, _, _, rfl, rfl, _, _, rfl, rfl, mulS (m1 _).1 (m1 _).2, .inl ⟨_, rfl, _, _, rfl, rfl, (by decide : (0 : Int) < 2147483399), ?_⟩⟩
      refine ⟨_, rfl, .inl ⟨rfl, _, lstL el⟩, _, rfl, _, _, rfl, rfl, ⟨by decide, by decide⟩, .inl ⟨_, rfl, _, _, rfl, rfl, (by decide : (0 : Int) < 5040), l, _, _, rfl, rfl, el, lsz, ?_⟩⟩
      exact more s1 el xl xb (lo5 _).1 (lo5 _).2 c false _ _
  · rintro σ Ha ⟨c, gr, y4, y5, xs, rfl, s1, el, xl, xb⟩
    exact ⟨_, rfl, q Ha l xs s1 nl el xl xb⟩
end
end K56
set_option Elab.async false
set_option linter.all false
set_option maxRecDepth 100000
/-! The law's names. -/
namespace K56
open PySem PySem.Spec PyProof.Rows L2
/-- the j-th letter of a number -/
def dig (m j : Nat) : Nat := 97 + (m / 26 ^ j) % 26
def gen (m : Nat) : Nat → List Nat
  | 0 => []
  | j + 1 => gen m j ++ [dig m j]
theorem gen_len (m : Nat) : ∀ j, (gen m j).length = j
  | 0 => rfl
  | j + 1 => by
    show (gen m j ++ [dig m j]).length = _
    rw [List.length_append, gen_len m j]
    rfl
theorem gen_get (m : Nat) : ∀ j i, i < j → (gen m j)[i]? = some (dig m i)
  | 0, i, h => absurd h (Nat.not_lt_zero _)
  | j + 1, i, h => by
    show (gen m j ++ [dig m j])[i]? = _
    by_cases e : i < j
    · rw [List.getElem?_append_left (by rw [gen_len]; exact e), gen_get m j i e]
    · have e' : i = j := by omega
      subst e'
      rw [List.getElem?_append_right (by rw [gen_len]; exact Nat.le_refl _), gen_len, Nat.sub_self]
      rfl
def gname (m j : Nat) : Str := ⟨(gen m j).toArray⟩
theorem gname_list (m j : Nat) : (gname m j).cps.toList = gen m j := by simp [gname]
theorem gname_len (m j : Nat) : (gname m j).length = j := by
  show (gname m j).cps.size = j
  rw [← Array.length_toList, gname_list, gen_len]
theorem gname_succ (m j : Nat) : gname m j ++ (⟨#[dig m j]⟩ : Str) = gname m (j + 1) := by
  show (⟨(gname m j).cps ++ #[dig m j]⟩ : Str) = ⟨(gen m j ++ [dig m j]).toArray⟩
  congr 1
  simp [gname]
theorem letters_at : ∀ i < 26, letters.cps.toList[i]? = some (97 + i) := by decide +kernel
theorem letter_in {i : Nat} (h : i < 26) : 97 + i ∈ letters.cps.toList := List.mem_of_getElem? (letters_at i h)
theorem dig_in (m j : Nat) : dig m j ∈ letters.cps.toList := letter_in (Nat.mod_lt _ (by decide))
theorem gen_in (m : Nat) : ∀ j, ∀ c ∈ gen m j, c ∈ letters.cps.toList
  | 0, c, h => absurd h List.not_mem_nil
  | j + 1, c, h => by
    rcases List.mem_append.mp (show c ∈ gen m j ++ [dig m j] from h) with h | h
    · exact gen_in m j c h
    · have : c = dig m j := by simpa using h
      rw [this]
      exact dig_in m j
theorem gname_ok {m s : Nat} (h1 : 1 ≤ s) (h8 : s ≤ 8) : NameOk (gname m s) where
  lo := by rw [gname_len]; exact h1
  hi := by rw [gname_len]; exact h8
  low := fun c hc => by
    rw [gname_list] at hc
    exact gen_in m s c hc
/-- the name for a second one -/
def fb (k : Nat) : Str := Str.ofString "zzzzzzz" ++ (⟨#[97 + k]⟩ : Str)
theorem z7 : (Str.ofString "zzzzzzz").cps = #[122, 122, 122, 122, 122, 122, 122] := by decide +kernel
theorem fb_list (k : Nat) : (fb k).cps.toList = [122, 122, 122, 122, 122, 122, 122, 97 + k] := by
  show ((Str.ofString "zzzzzzz").cps ++ #[97 + k]).toList = _
  rw [z7]
  simp
theorem fb_len (k : Nat) : (fb k).length = 8 := by
  show (fb k).cps.size = 8
  rw [← Array.length_toList, fb_list]
  rfl
theorem fb_ok {k : Nat} (h : k < 26) : NameOk (fb k) where
  lo := by rw [fb_len]; decide
  hi := by rw [fb_len]; decide
  low := fun c hc => by
    rw [fb_list] at hc
    have hz : 122 ∈ letters.cps.toList := letter_in (i := 25) (by decide)
    simp only [List.mem_cons, List.not_mem_nil, or_false] at hc
    rcases hc with h | h | h | h | h | h | h | h <;> (rw [h])
    all_goals first | exact hz | exact letter_in (by assumption)
/-- what stands among the names -/
def Cl (k : Nat) (z : Str) : Prop := (∃ m s, z = gname m s ∧ 1 ≤ s ∧ s ≤ 8 ∧ m < 26 ^ 5) ∨ ∃ j, j < k ∧ z = fb j
theorem Cl.mono {k : Nat} {z : Str} (h : Cl k z) : Cl (k + 1) z := h.imp id fun ⟨j, hj, e⟩ => ⟨j, Nat.lt_succ_of_lt hj, e⟩
theorem Cl.ok {k : Nat} {z : Str} (hk : k ≤ 26) (h : Cl k z) : NameOk z := by
  rcases h with ⟨m, s, rfl, h1, h8, _⟩ | ⟨j, hj, rfl⟩
  · exact gname_ok h1 h8
  · exact fb_ok (by omega)
theorem fb_new {k : Nat} (hk : k < 26) {ps : List Str} (h : ∀ z ∈ ps, Cl k z) : fb k ∉ ps := fun hm => by
  rcases h _ hm with ⟨m, s, e, h1, h8, hm⟩ | ⟨j, hj, e⟩
  · have e1 : (fb k).cps.toList = gen m s := by rw [e, gname_list]
    have e2 : s = 8 := by
      have := congrArg List.length e1
      rw [fb_list, gen_len] at this
      exact this.symm
    subst e2
    have e3 := gen_get m 8 5 (by decide)
    rw [← e1, fb_list] at e3
    have e4 : 122 = dig m 5 := Option.some.inj e3
    unfold dig at e4
    rw [Nat.div_eq_of_lt hm] at e4
    simp at e4
  · have e1 : (fb k).cps.toList = (fb j).cps.toList := by rw [e]
    rw [fb_list, fb_list] at e1
    simp at e1
    omega
end K56
set_option Elab.async false
set_option linter.all false
set_option maxRecDepth 100000
/-! _law_people. -/
namespace K56
open PySem PySem.Spec PyProof.Rows L2 Gift
section
variable {P : Program} {w : World} {K : PySem.W.Frag} {mg : Str → Option Value} {base : Heap} {C : Addr}
def spLawPeople : Sp := fun vs H Q _ => ∃ (c : Int) (n : Nat), vs = [.int c, .int n] ∧ n ≤ 8 ∧ ∀ H' l ps, Same H H' → H l = none → H' l = some (.lst (svs ps)) → ps.length = n → ps.Nodup → (∀ z ∈ ps, NameOk z) → Q (.ref l) H'
abbrev N46 : List Str := ["_law_cell_here", "_law_amount", "_law_letters", "_law_draws_here", "_law_people_here", "_law_k", "_law_number", "_law_size", "_law_name", "_law_j"]
theorem sc46 : FnScope N46 ["_law_cell_here", "_law_amount"] (defScope (top 46)) := ⟨rfl, rfl, rfl, by decide +kernel, rfl, by decide +kernel, by decide +kernel⟩
theorem let_len : letters.length ≤ sizeLine := by
  show letters.cps.size ≤ _
  exact small64 (by decide +kernel)
theorem let_at {i : Nat} (h : i < 26) {j : Int} (e : j = (i : Int)) : atI letters.cps.toList j = some (97 + i) := by
  rw [e]
  exact atI_nat (letters_at i h)
theorem ok_law_people (D : Def K mg "_law_people" (top 46)) (g : Glo mg) (cD : Cal P w K mg base "_law_draws" ["_law_cell_here", "_law_amount"] 1 spDraws) : Cal P w K mg base "_law_people" ["_law_cell_here", "_law_amount"] 2 spLawPeople := by
  refine D.cal sc46 (fun vs H Q E h => ?_) (fun _ _ _ _ _ _ us hl => match us, hl with | [_, _], _ => rfl) fun f cdv A outer s H vs Q E hr h => ?_
  · obtain ⟨c, n, rfl, _⟩ := h
    rfl
  obtain ⟨c, n, rfl, hn, q⟩ := h
  refine ⟨_, pss_cons (ps_set (i := 2) sc46.nd rfl (.inl rfl) pe_str)
    (pss_cons (ps_set (i := 3) sc46.nd rfl (.inl rfl) (pe_cal cD hr (by rfl) (pa_cons (pv 0) (pa_cons (pe_op op_mul pe_int (pv 1)) pa_nil))))
    (pss_cons (ps_set (i := 4) sc46.nd rfl (.inl rfl) (pe_lst pa_nil))
    (pss_cons (ps_for PassesOwn.never rfl (pi_range1 (by rfl) g.rng (pa_cons (pv 1) pa_nil)) (pg_name (i := 5) sc46.nd rfl (.inl rfl))
      (pss_cons (ps_set (i := 6) sc46.nd rfl (.inl rfl) (pe_op op_add (pe_op op_mul (pe_ix ix_list (pv 3) (pe_op op_mul pe_int (pv 5)) (fun _ _ => rfl)) pe_int) (pe_ix ix_list (pv 3) (pe_op op_add (pe_op op_mul pe_int (pv 5)) pe_int) (fun _ _ => rfl))))
      (pss_cons (ps_set (i := 7) sc46.nd rfl (.inl rfl) (pe_op op_add pe_int (pe_op op_mod (pe_callTy call_int1 (by rfl) g.int boot_int (pa_cons (pv 6) pa_nil)) pe_int)))
      (pss_cons (ps_set (i := 6) sc46.nd rfl (.inl rfl) (pe_op op_fdiv (pv 6) pe_int))
      (pss_cons (ps_set (i := 8) sc46.nd rfl (.inl rfl) pe_str)
      (pss_cons (ps_for PassesOwn.never rfl (pi_range1 (by rfl) g.rng (pa_cons (pv 7) pa_nil)) (pg_name (i := 9) sc46.nd rfl (.inl rfl))
        (pss_cons (ps_set (i := 8) sc46.nd rfl (.inl rfl) (pe_op op_add_str (pv 8) (pe_ix ix_str (pv 2) (pe_op op_mod (pe_callTy call_int1 (by rfl) g.int boot_int (pa_cons (pv 6) pa_nil)) pe_int) (fun _ _ => rfl))))
        (pss_one (ps_set (i := 6) sc46.nd rfl (.inl rfl) (pe_op op_fdiv (pv 6) pe_int)))))
      (pss_cons (ps_if (pt_cmpR op_in_seq (pv 8) (pv 4) (by rfl)) (pss_one (ps_set (i := 8) sc46.nd rfl (.inl rfl) (pe_op op_add_str pe_str (pe_ix ix_str (pv 2) (pv 5) (fun _ _ => rfl))))) pss_nil)
      (pss_one (ps_expr (pe_bm PySem.F.plainAttrs_list PySem.F.slot_list_append PySem.F.type_list_append mt_append (pv 4) (pa_cons (pv 8) pa_nil)))))))))))
    (pss_one (ps_ret (pv 4)))))), ?_⟩
  refine ⟨_, rfl, _, rfl, _, _, rfl, rfl, .inl ⟨by decide, by decide⟩, c, 2 * n, ?_, by omega, fun H1 dl xs s1 ndl edl xl xb => ?_⟩
  · rw [Int.natCast_mul]
    rfl
  refine ⟨Nat.zero_le _, fun l nl => ?_⟩
  have s2 := s1.trans (same_new (o := .lst []) nl)
  have ndll : dl ≠ l := ne_of_none edl nl
  have nlH : H l = none := s1.free nl
  refine ⟨_, rfl, (n : Int), rfl, by omega, by omega, for_range (lo := 0) (fun i σ H' => ∃ (y5 y6 y7 y8 y9 : Option V) (ps : List Str), σ = [some (.int c), some (.int n), some (.str letters), some (.ref dl), some (.ref l), y5, y6, y7, y8, y9] ∧ Same H H' ∧ (∀ b o, b ≠ l → H1 b = some o → H' b = some o) ∧ H' l = some (.lst (svs ps)) ∧ ps.length = i ∧ ps.Nodup ∧ ∀ z ∈ ps, Cl i z)
    ⟨none, none, none, none, none, [], rfl, s2, fun b o hb e => same_new nl _ _ e, upd_same, rfl, List.nodup_nil, fun z hz => absurd hz List.not_mem_nil⟩ ?_ ?_⟩
  · rintro i σ Ha hi ⟨y5, y6, y7, y8, y9, ps, rfl, sH, sm, el, pl, pn, pc⟩
    have hi : i < n := hi
    have hdl := sm _ _ ndll edl
    have h0 : 2 * i < xs.length := by omega
    have h1 : 2 * i + 1 < xs.length := by omega
    have b0 := xb _ (List.getElem_mem h0)
    have b1 := xb _ (List.getElem_mem h1)
    have g0 : (xs.map fun x : Nat => V.int (x : Int))[2 * i]? = some (.int (xs[2 * i] : Nat)) := by rw [List.getElem?_map, List.getElem?_eq_getElem h0]; rfl
    have g1 : (xs.map fun x : Nat => V.int (x : Int))[2 * i + 1]? = some (.int (xs[2 * i + 1] : Nat)) := by rw [List.getElem?_map, List.getElem?_eq_getElem h1]; rfl
    generalize xs[2 * i] = d0 at b0 g0
    generalize xs[2 * i + 1] = d1 at b1 g1
    refine ⟨_, rfl, _, rfl, _, _, rfl, rfl, .inl ⟨by decide, by decide⟩, dl, _, _, .int (d0 : Nat), rfl, rfl, lstL hdl, at_of (j := 2 * i) (by show (2 : Int) * (0 + (i : Int)) = _; omega) g0, _, _, rfl, rfl, .inr ⟨by decide, by decide⟩, _, rfl, _, rfl, _, _, rfl, rfl, .inl ⟨by decide, by decide⟩, _, _, rfl, rfl, dl, _, _, .int (d1 : Nat), rfl, rfl, lstL hdl, at_of (j := 2 * i + 1) (by show (2 : Int) * (0 + (i : Int)) + 1 = _; omega) g1, _, _, rfl, rfl, ?_⟩
    refine ⟨_, rfl, .inl ⟨_, rfl, _, _, rfl, rfl, (by decide : (0 : Int) < 8), _, _, rfl, rfl, ?_⟩⟩
    refine ⟨_, rfl, _, _, rfl, rfl, ⟨by decide, by decide⟩, ?_⟩
    have m5 : (d0 * 5040 + d1) / 8 < 26 ^ 5 := by
      have : d0 * 5040 + d1 < 25401600 := by omega
      have e : (26 : Nat) ^ 5 = 11881376 := by decide
      omega
    have e0 : ∀ m, Str.ofString "" = gname m 0 := fun m => by
      show Str.ofString "" = (⟨([] : List Nat).toArray⟩ : Str)
      decide +kernel
    have last : ∀ (σ : L2.St) (nm : Str) (y6 y7 y9 : Option V), Cl (i + 1) nm → nm ∉ ps → σ = [some (.int c), some (.int n), some (.str letters), some (.ref dl), some (.ref l), some (.int (0 + (i : Int))), y6, y7, some (.str nm), y9] →
        ∃ (y5 y6 y7 y8 y9 : Option V) (ps' : List Str), σ = [some (.int c), some (.int n), some (.str letters), some (.ref dl), some (.ref l), y5, y6, y7, y8, y9] ∧ Same H (upd Ha l (.lst (svs ps ++ [.str nm]))) ∧ (∀ b o, b ≠ l → H1 b = some o → (upd Ha l (.lst (svs ps ++ [.str nm]))) b = some o) ∧ (upd Ha l (.lst (svs ps ++ [.str nm]))) l = some (.lst (svs ps')) ∧ ps'.length = i + 1 ∧ ps'.Nodup ∧ ∀ z ∈ ps', Cl (i + 1) z := fun σ nm y6 y7 y9 hc hni e => by
      refine ⟨_, _, _, _, _, ps ++ [nm], e, same_upd sH nlH, fun b o hb e => by rw [upd_ne hb]; exact sm b o hb e, by rw [upd_same, svs_snoc], by rw [List.length_append, pl]; rfl, ?_, fun z hz => ?_⟩
      · rw [List.nodup_append]
        refine ⟨pn, by simp, fun a ha b hb => ?_⟩
        have eb : b = nm := by simpa using hb
        rw [eb]
        intro q
        exact hni (q ▸ ha)
      · rcases List.mem_append.mp hz with h | h
        · exact (pc z h).mono
        · have : z = nm := by simpa using h
          rw [this]
          exact hc
    have lsz : (svs ps).length < sizeLine := small1000 (by rw [List.length_map]; omega)
    refine ⟨_, rfl, _, rfl, (by show -(2 ^ 62) ≤ (1 : Int) + ((d0 : Int) * 5040 + (d1 : Int)) % 8; omega), (by show (1 : Int) + ((d0 : Int) * 5040 + (d1 : Int)) % 8 < 2 ^ 62; omega), for_range (lo := 0) (n := (1 + ((d0 : Int) * 5040 + (d1 : Int)) % 8).toNat) (fun j σ H' => ∃ (y9 : Option V) (nI : Int) (nm : Str), σ = [some (.int c), some (.int n), some (.str letters), some (.ref dl), some (.ref l), some (.int (0 + (i : Int))), some (.int nI), some (.int (1 + ((d0 : Int) * 5040 + (d1 : Int)) % 8)), some (.str nm), y9] ∧ H' = Ha ∧ nI = (((d0 * 5040 + d1) / 8 / 26 ^ j : Nat) : Int) ∧ nm = gname ((d0 * 5040 + d1) / 8) j)
      ⟨y9, _, _, rfl, rfl, (by show ((d0 : Int) * 5040 + (d1 : Int)) / 8 = _; rw [Nat.pow_zero, Nat.div_one]; omega), e0 _⟩ ?_ ?_⟩
    · rintro j σ H' hj ⟨y9, nI, nm, rfl, rfl, rfl, rfl⟩
      refine ⟨_, rfl, _, rfl, _, rfl, .inl ⟨_, rfl, _, _, rfl, rfl, (by decide : (0 : Int) < 26), letters, _, _, rfl, rfl, let_len, let_at (i := (d0 * 5040 + d1) / 8 / 26 ^ j % 26) (Nat.mod_lt _ (by decide)) (by show (((d0 * 5040 + d1) / 8 / 26 ^ j : Nat) : Int) % 26 = _; omega), _, _, rfl, rfl, ?_, ?_⟩⟩
      · rw [gname_len]
        show j + 1 ≤ _
        exact small64 (by omega)
      · refine ⟨_, rfl, _, _, rfl, rfl, ⟨by decide, by decide⟩, ?_⟩
        refine ⟨_, _, _, rfl, rfl, ?_, gname_succ _ _⟩
        show (((d0 * 5040 + d1) / 8 / 26 ^ j : Nat) : Int) / 26 = _
        rw [Nat.pow_succ, ← Nat.div_div_eq_div_mul]
        omega
    · rintro σ H' ⟨y9, nI, nm, rfl, rfl, rfl, rfl⟩
      have cl1 : Cl (i + 1) (gname ((d0 * 5040 + d1) / 8) (1 + ((d0 : Int) * 5040 + (d1 : Int)) % 8).toNat) := .inl ⟨_, _, rfl, by omega, by omega, m5⟩
      generalize gname ((d0 * 5040 + d1) / 8) (1 + ((d0 : Int) * 5040 + (d1 : Int)) % 8).toNat = nm at cl1
      refine ⟨_, rfl, _, rfl, l, svs ps, rfl, .inl (lstL el), rfl, flat_svs _, _, rfl, ?_⟩
      show if inV (.str nm) (svs ps) = true then _ else _
      rw [inV_str]
      refine ite2 (fun e => ?_) (fun e => ?_)
      · refine ⟨_, rfl, _, rfl, letters, _, _, rfl, rfl, let_len, let_at (i := i) (by omega) (by show (0 : Int) + (i : Int) = _; omega), _, _, rfl, rfl, small64 (by show (Str.ofString "zzzzzzz").length + 1 ≤ 1000; decide +kernel), ?_⟩
        refine ⟨_, rfl, .inl ⟨rfl, _, lstL el⟩, _, rfl, l, _, _, rfl, rfl, el, lsz, ?_⟩
        exact last _ (fb i) _ _ _ (.inr ⟨i, Nat.lt_succ_self i, rfl⟩) (fb_new (by omega) pc) rfl
      · refine ⟨_, rfl, .inl ⟨rfl, _, lstL el⟩, _, rfl, l, _, _, rfl, rfl, el, lsz, ?_⟩
        exact last _ nm _ _ _ cl1 (fun m => e (decide_eq_true m)) rfl
  · rintro σ Ha ⟨y5, y6, y7, y8, y9, ps, rfl, sH, sm, el, pl, pn, pc⟩
    exact ⟨_, rfl, q Ha l ps sH nlH el pl pn fun z hz => (pc z hz).ok (by omega)⟩
end
end K56
set_option Elab.async false
set_option linter.all false
set_option maxRecDepth 100000
/-! _law_barred. -/
namespace K56
open PySem PySem.Spec PyProof.Rows L2 Gift
section
variable {P : Program} {w : World} {K : PySem.W.Frag} {mg : Str → Option Value} {base : Heap} {C : Addr}
def spLawBarred : Sp := fun vs H Q _ => ∃ (c : Int) (pl : Addr) (ps : List Str), vs = [.int c, .ref pl] ∧ H pl = some (.lst (svs ps)) ∧ 1 ≤ ps.length ∧ ps.length ≤ 8 ∧ ∀ H' b rs, Same H H' → H' b = some (.lst (rs.map fun r => V.ref r.1)) → PrsAt H' ps rs → Q (.ref b) H'
abbrev N47 : List Str := ["_law_cell_here", "_law_people_here", "_law_many", "_law_draws_here", "_law_weight", "_law_pairs", "_law_k", "_law_a", "_law_b"]
theorem sc47 : FnScope N47 ["_law_cell_here", "_law_people_here"] (defScope (top 47)) := ⟨rfl, rfl, rfl, by decide +kernel, rfl, by decide +kernel, by decide +kernel⟩
abbrev wts : List V := [.int 0, .int 1, .int 2, .int 3, .int 5, .int 8]
theorem wt_at {d : Nat} {j : Int} (e : j = ((d % 6 : Nat) : Int)) : ∃ w : Int, atI wts j = some (.int w) := by
  rw [e]
  have h : d % 6 < 6 := Nat.mod_lt _ (by decide)
  match d % 6, h with
  | 0, _ => exact ⟨0, atI_nat rfl⟩
  | 1, _ => exact ⟨1, atI_nat rfl⟩
  | 2, _ => exact ⟨2, atI_nat rfl⟩
  | 3, _ => exact ⟨3, atI_nat rfl⟩
  | 4, _ => exact ⟨5, atI_nat rfl⟩
  | 5, _ => exact ⟨8, atI_nat rfl⟩
theorem ok_law_barred (D : Def K mg "_law_barred" (top 47)) (g : Glo mg) (cD : Cal P w K mg base "_law_draws" ["_law_cell_here", "_law_amount"] 1 spDraws) : Cal P w K mg base "_law_barred" ["_law_cell_here", "_law_people_here"] 2 spLawBarred := by
  refine D.cal sc47 (fun vs H Q E h => ?_) (fun _ _ _ _ _ _ us hl => match us, hl with | [_, _], _ => rfl) fun f cdv A outer s H vs Q E hr h => ?_
  · obtain ⟨c, pl, ps, rfl, _⟩ := h
    rfl
  obtain ⟨c, pl, ps, rfl, hpl, h1, h8, q⟩ := h
  refine ⟨_, pss_cons (ps_set (i := 2) sc47.nd rfl (.inl rfl) (pe_callB call_len_seq (by rfl) g.len PySem.boot_len (pa_cons (pv 1) pa_nil)))
    (pss_cons (ps_set (i := 3) sc47.nd rfl (.inl rfl) (pe_cal cD hr (by rfl) (pa_cons (pv 0) (pa_cons (pe_op op_add (pe_op op_mul (pv 2) (pv 2)) pe_int) pa_nil))))
    (pss_cons (ps_set (i := 4) sc47.nd rfl (.inl rfl) (pe_ix ix_list (pe_lst (pa_cons pe_int (pa_cons pe_int (pa_cons pe_int (pa_cons pe_int (pa_cons pe_int (pa_cons pe_int pa_nil))))))) (pe_op op_mod (pe_callTy call_int1 (by rfl) g.int boot_int (pa_cons (pe_ix ix_list (pv 3) pe_int (fun _ _ => rfl)) pa_nil)) pe_int) (fun _ _ => rfl)))
    (pss_cons (ps_set (i := 5) sc47.nd rfl (.inl rfl) (pe_lst pa_nil))
    (pss_cons (ps_for PassesOwn.never rfl (pi_range1 (by rfl) g.rng (pa_cons (pe_op op_mul (pv 2) (pv 2)) pa_nil)) (pg_name (i := 6) sc47.nd rfl (.inl rfl))
      (pss_cons (ps_set (i := 7) sc47.nd rfl (.inl rfl) (pe_ix ix_list (pv 1) (pe_op op_fdiv (pv 6) (pv 2)) (fun _ _ => rfl)))
      (pss_cons (ps_set (i := 8) sc47.nd rfl (.inl rfl) (pe_ix ix_list (pv 1) (pe_op op_mod (pe_callTy call_int1 (by rfl) g.int boot_int (pa_cons (pv 6) pa_nil)) (pv 2)) (fun _ _ => rfl)))
      (pss_one (ps_if (PW.pt (pw_and (pt_cmpR op_ne (pv 7) (pv 8) (nomark _)) (pw_and1 (pt_cmpR op_lt (pe_op op_mod (pe_callTy call_int1 (by rfl) g.int boot_int (pa_cons (pe_ix ix_list (pv 3) (pe_op op_add (pv 6) pe_int) (fun _ _ => rfl)) pa_nil)) pe_int) (pv 4) (nomark _)))))
        (pss_one (ps_expr (pe_bm PySem.F.plainAttrs_list PySem.F.slot_list_append PySem.F.type_list_append mt_append (pv 5) (pa_cons (pe_tup (pa_cons (pv 7) (pa_cons (pv 8) pa_nil))) pa_nil)))) pss_nil)))))
    (pss_cons (ps_if (pt_cmpR op_eq (pe_op op_mod (pe_callTy call_int1 (by rfl) g.int boot_int (pa_cons (pe_op op_fdiv (pe_ix ix_list (pv 3) pe_int (fun _ _ => rfl)) pe_int) pa_nil)) pe_int) pe_int (nomark _)) (pss_one (ps_set (i := 5) sc47.nd rfl (.inl rfl) (pe_revL (pv 5)))) pss_nil)
    (pss_one (ps_ret (pv 5)))))))), ?_⟩
  refine ⟨_, rfl, pl, _, rfl, .inl (lstL hpl), ?_⟩
  rw [List.length_map]
  have mb : ps.length * ps.length ≤ 64 := Nat.mul_le_mul h8 h8
  refine ⟨_, rfl, _, rfl, _, rfl, _, _, rfl, rfl, .inl ⟨by omega, by omega⟩, _, _, rfl, rfl, c, ps.length * ps.length + 1, ?_, by omega, fun H1 dl xs s1 ndl edl xl xb => ?_⟩
  · rw [Int.natCast_add, Int.natCast_mul]
    rfl
  have h0 : 0 < xs.length := by omega
  have g0 : (xs.map fun x : Nat => V.int (x : Int))[0]? = some (.int (xs[0] : Nat)) := by rw [List.getElem?_map, List.getElem?_eq_getElem h0]; rfl
  generalize xs[0] = d0 at g0
  obtain ⟨wt, hwt⟩ := wt_at (d := d0) (j := (d0 : Int) % 6) (by omega)
  refine ⟨small64 (by show 6 ≤ 1000; decide), fun p np => ?_⟩
  have s2 := s1.trans (same_new (o := .lst wts) np)
  have edl2 := same_new (o := .lst wts) np _ _ edl
  refine ⟨_, rfl, dl, _, 0, .int (d0 : Nat), rfl, rfl, lstL edl2, at_of (j := 0) rfl g0, .inl ⟨_, rfl, _, _, rfl, rfl, (by decide : (0 : Int) < 6), p, _, _, .int wt, rfl, rfl, lstL upd_same, hwt, ?_⟩⟩
  refine ⟨Nat.zero_le _, fun b nb => ?_⟩
  have s3 := s2.trans (same_new (o := .lst []) nb)
  have edl3 := same_new (o := .lst []) nb _ _ edl2
  have nbH : H b = none := s2.free nb
  have eb3 : (upd (upd H1 p (.lst wts)) b (.lst [])) b = some (.lst []) := upd_same
  have ndb : dl ≠ b := ne_of_none edl2 nb
  generalize upd (upd H1 p (.lst wts)) b (.lst []) = H3 at s3 edl3 eb3
  refine ⟨_, rfl, _, rfl, _, _, rfl, rfl, .inl ⟨by omega, by omega⟩, _, rfl, (by show -(2 ^ 62) ≤ (ps.length : Int) * (ps.length : Int); rw [← Int.natCast_mul]; omega), (by show (ps.length : Int) * (ps.length : Int) < 2 ^ 62; rw [← Int.natCast_mul]; omega), for_range (lo := 0) (n := ((ps.length : Int) * (ps.length : Int)).toNat) (fun i σ H' => ∃ (y6 y7 y8 : Option V) (rs : Prs), σ = [some (.int c), some (.ref pl), some (.int (ps.length : Int)), some (.ref dl), some (.int wt), some (.ref b), y6, y7, y8] ∧ Same H H' ∧ (∀ a o, a ≠ b → H3 a = some o → H' a = some o) ∧ H' b = some (.lst (rs.map fun r => V.ref r.1)) ∧ (∀ r ∈ rs, H' r.1 = some (.tup [.str r.2.1, .str r.2.2])) ∧ (∀ r ∈ rs, r.2.1 ∈ ps ∧ r.2.2 ∈ ps ∧ r.2.1 ≠ r.2.2) ∧ rs.length ≤ i)
    ⟨none, none, none, [], rfl, s3, fun a o _ e => e, eb3, fun r hr => absurd hr List.not_mem_nil, fun r hr => absurd hr List.not_mem_nil, Nat.zero_le _⟩ ?_ ?_⟩
  · rintro i σ Ha hi ⟨y6, y7, y8, rs, rfl, sH, sm, eb, tp, ok, rl⟩
    have hi : i < ps.length * ps.length := by
      rw [← Int.natCast_mul] at hi
      exact hi
    have hd := sm _ _ ndb edl3
    have hpl2 := sH _ _ hpl
    have ha : i / ps.length < ps.length := Nat.div_lt_of_lt_mul hi
    have hb : i % ps.length < ps.length := Nat.mod_lt _ (by omega)
    have ga : (svs ps)[i / ps.length]? = some (.str ps[i / ps.length]) := by rw [List.getElem?_map, List.getElem?_eq_getElem ha]; rfl
    have gb : (svs ps)[i % ps.length]? = some (.str ps[i % ps.length]) := by rw [List.getElem?_map, List.getElem?_eq_getElem hb]; rfl
    have ma := List.getElem_mem ha
    have mb' := List.getElem_mem hb
    generalize ps[i / ps.length] = za at ga ma
    generalize ps[i % ps.length] = zb at gb mb'
    have hj : i + 1 < xs.length := by omega
    have gj : (xs.map fun x : Nat => V.int (x : Int))[i + 1]? = some (.int (xs[i + 1] : Nat)) := by rw [List.getElem?_map, List.getElem?_eq_getElem hj]; rfl
    refine ⟨_, rfl, _, rfl, _, rfl, _, _, rfl, rfl, ⟨by omega, by omega⟩, pl, _, _, .str za, rfl, rfl, lstL hpl2, at_of (j := i / ps.length) (by show ((0 : Int) + (i : Int)) / (ps.length : Int) = _; rw [Int.zero_add]; rfl) ga, ?_⟩
    refine ⟨_, rfl, _, rfl, .inl ⟨_, rfl, _, rfl, _, _, rfl, rfl, (by show (0 : Int) < (ps.length : Int); omega), pl, _, _, .str zb, rfl, rfl, lstL hpl2, at_of (j := i % ps.length) (by show ((0 : Int) + (i : Int)) % (ps.length : Int) = _; rw [Int.zero_add]; rfl) gb, ?_⟩⟩
    refine ⟨_, rfl, _, rfl, rfl, _, rfl, ?_⟩
    rw [dec_str]
    by_cases ee : za = zb
    · rw [decide_eq_true ee]
      refine iteF (iteF ?_)
      exact ⟨_, _, _, rs, rfl, sH, sm, eb, tp, ok, by omega⟩
    · rw [decide_eq_false ee]
      refine iteT ?_
      refine ⟨_, rfl, _, rfl, _, _, rfl, rfl, dl, _, _, .int (xs[i + 1] : Nat), rfl, rfl, lstL hd, at_of (j := i + 1) (by show (0 : Int) + (i : Int) + 1 = _; omega) gj, .inl ⟨_, rfl, _, _, rfl, rfl, (by decide : (0 : Int) < 12), _, rfl, _, _, rfl, rfl, _, rfl, ?_⟩⟩
      refine ite2 (fun _ => ?_) (fun _ => ?_)
      · refine ⟨_, rfl, .inl ⟨rfl, _, lstL eb⟩, _, rfl, _, rfl, small64 (by show 2 ≤ 1000; decide), fun T nT => ?_⟩
        have s4 := same_new (o := .tup [.str za, .str zb]) nT
        refine ⟨b, _, _, rfl, rfl, s4 _ _ eb, small1000 (by rw [List.length_map]; omega), ?_⟩
        refine ⟨_, _, _, rs ++ [(T, za, zb)], rfl, same_upd (sH.trans s4) nbH, fun a o ha e => by rw [upd_ne ha]; exact s4 _ _ (sm a o ha e), by rw [upd_same, List.map_append]; rfl, fun r hr => ?_, fun r hr => ?_, by rw [List.length_append]; show rs.length + 1 ≤ i + 1; omega⟩
        · rcases List.mem_append.mp hr with h | h
          · rw [upd_ne (ne_of (s4 _ _ (tp r h)) (s4 _ _ eb) fun z => nomatch z)]
            exact s4 _ _ (tp r h)
          · have : r = (T, za, zb) := by simpa using h
            rw [this, upd_ne (ne_of_none eb nT).symm]
            exact upd_same
        · rcases List.mem_append.mp hr with h | h
          · exact ok r h
          · have : r = (T, za, zb) := by simpa using h
            rw [this]
            exact ⟨ma, mb', ee⟩
      · exact ⟨_, _, _, rs, rfl, sH, sm, eb, tp, ok, by omega⟩
  · rintro σ Ha ⟨y6, y7, y8, rs, rfl, sH, sm, eb, tp, ok, rl⟩
    have rl : rs.length ≤ ps.length * ps.length := by
      rw [← Int.natCast_mul] at rl
      exact rl
    have hd := sm _ _ ndb edl3
    refine ⟨_, rfl, dl, _, 0, .int (d0 : Nat), rfl, rfl, lstL hd, at_of (j := 0) rfl g0, _, _, rfl, rfl, ⟨by decide, by decide⟩, .inl ⟨_, rfl, _, _, rfl, rfl, (by decide : (0 : Int) < 2), rfl, _, rfl, ?_⟩⟩
    refine ite2 (fun _ => ?_) (fun _ => ?_)
    · refine ⟨_, rfl, b, _, rfl, lstL eb, fun r2 nr2 => ?_⟩
      have s5 := same_new (o := .lst (rs.map fun r => V.ref r.1).reverse) nr2
      refine ⟨_, rfl, q _ r2 rs.reverse (sH.trans s5) (by rw [upd_same, List.map_reverse]) ⟨fun r hr => s5 _ _ (tp r (List.mem_reverse.mp hr)), fun r hr => ok r (List.mem_reverse.mp hr), by rw [List.length_reverse]; omega⟩⟩
    · exact ⟨_, rfl, q Ha b rs sH eb ⟨tp, ok, by omega⟩⟩
end
end K56
set_option Elab.async false
set_option linter.all false
set_option maxRecDepth 100000
/-! The law. -/
namespace K56
open PySem PySem.Spec PyProof.Rows L2 Gift
/-- all that the law calls -/
structure Calls (P : Program) (w : World) (K : PySem.W.Frag) (mg : Str → Option Value) (base : Heap) (C CN : Addr) : Prop where
  glo : Glo mg
  txt : PTxt K mg C
  cell : Cal P w K mg base "_law_cell" ["_law_script", "_law_k"] 1 (spLawCell K)
  draws : Cal P w K mg base "_law_draws" ["_law_cell_here", "_law_amount"] 1 spDraws
  people : Cal P w K mg base "_law_people" ["_law_cell_here", "_law_amount"] 2 spLawPeople
  barred : Cal P w K mg base "_law_barred" ["_law_cell_here", "_law_people_here"] 2 spLawBarred
  init : ∃ f fd, Mk K C f ∧ Binds K fd ["self", "people", "barred"] [] ∧ FnOk P w K mg base CX0 5 f fd ["self", "people", "barred"] (spInit C)
  rows : Cal P w K mg base "_law_rows" ["_law_people_here", "_law_barred_here", "_law_leaks"] 1 spLawRows
  most : Cal P w K mg base "most_years" ["party"] 8 (spMostYears C)
  lawPlan : Cal P w K mg base "_law_plan" ["_law_party", "_law_years"] 15 (spLawPlan C)
  bar : Cal P w K mg base "bar" ["party", "years"] 8 (spBar C)
  isPlan : Cal P w K mg base "_law_is_plan" ["_law_told", "_law_people_here", "_law_rows_here", "_law_years"] 2 spLawIsPlan
  isBar : Cal P w K mg base "_law_is_bar" ["_law_told", "_law_people_here", "_law_rows_here", "_law_years"] 2 spLawBar
  eqS : Cal P w K mg base "_law_equal" ["_law_actual", "_law_due"] 1 spEqS
  eqT : Cal P w K mg base "_law_equal" ["_law_actual", "_law_due"] 2 spEqT
  planFault : Cal P w K mg base "plan_fault" ["party", "thing"] 7 (spPlanFault C)
  barFault : Cal P w K mg base "bar_fault" ["party", "years", "thing"] 6 (spBarFault C)
  plan : CalE P w K mg base "plan" ["party", "years"] 14 (spPlan C CN)
theorem years_at {d : Nat} {b : Int} (hb : b ≤ 11) : ∀ (i : Nat) (x : V), (rgV 0 b ++ [V.int (11 + (d : Int) % 14)])[i]? = some x → ∃ y : Nat, x = .int (y : Int) ∧ y ≤ 24 := fun i x h => by
  by_cases hl : i < (rgV 0 b).length
  · rw [List.getElem?_append_left hl] at h
    unfold rgV at h hl
    rw [List.length_map, List.length_range] at hl
    rw [List.getElem?_map, List.getElem?_eq_getElem (by rw [List.length_range]; exact hl)] at h
    rw [List.getElem_range] at h
    cases h
    exact ⟨i, congrArg V.int (Int.zero_add _), by omega⟩
  · rw [List.getElem?_append_right (by omega)] at h
    have e : i - (rgV 0 b).length = 0 := by
      apply Classical.byContradiction
      intro hne
      rw [List.getElem?_eq_none (by show 1 ≤ _; omega)] at h
      cases h
    rw [e] at h
    cases h
    exact ⟨11 + d % 14, congrArg V.int (by omega), by omega⟩
section
variable {P : Program} {w : World} {K : PySem.W.Frag} {mg : Str → Option Value} {base : Heap} {C CN : Addr}
def spLaw (K : PySem.W.Frag) : Sp := fun vs H Q _ => ∃ (a : Addr) (cells : List Int), vs = [.ref a] ∧ SqL K H a (cells.map V.int) ∧ ∀ H', Q (.bl true) H'
abbrev N56 : List Str := ["_law_script", "_law_head", "_law_people_here", "_law_barred_here", "_law_party", "_law_rows_here", "_law_most", "_law_years", "_law_told", "_law_barrier"]
theorem sc56 : FnScope N56 ["_law_script"] (defScope (top 56)) := ⟨rfl, rfl, rfl, by decide +kernel, rfl, by decide +kernel, by decide +kernel⟩
theorem okH {x : Str} {st : Stmt} {f : Addr} {fd : FuncData} {N ps : List Str} {k : Nat} {sp : Sp} (F : FunD K x x (defArgs st) (defBody st) (defScope st) [] [] f fd) (S : FnScope N ps (defScope st)) (len : ∀ vs H Q E, sp vs H Q E → vs.length = ps.length) (body : BodyH P w K mg base x st N k sp) :
    FnOk P w K mg base CX0 (k + 1) f fd ps sp := F.ok S len fun cdv A outer s H vs Q E hr h => let ⟨t, ht, hq⟩ := body f cdv A outer s H vs Q E hr h; ⟨t, ht.nox, hq⟩
theorem ok_law {f : Addr} {fd : FuncData} (F : FunD K "law" "law" (defArgs (top 56)) (defBody (top 56)) (defScope (top 56)) [] [] f fd) (c : Calls P w K mg base C CN) : FnOk P w K mg base CX0 16 f fd ["_law_script"] (spLaw K) := by
  refine okH F sc56 (fun vs H Q E h => ?_) fun f cdv A outer s H vs Q E hr h => ?_
  · obtain ⟨a, cells, rfl, _⟩ := h
    rfl
  obtain ⟨a, cells, rfl, ha, q⟩ := h
  have g := c.glo
  obtain ⟨fI, fdI, mkI, bI, GI⟩ := c.init
  obtain ⟨fP, fdP, gP, kP, bP, GP⟩ := c.plan.ex
  refine ⟨_, pss_cons (ps_set (i := 1) sc56.nd rfl (.inl rfl) (pe_cal c.draws (hr.mono (by decide)) (by rfl) (pa_cons (pe_cal c.cell (hr.mono (by decide)) (by rfl) (pa_cons (pv 0) (pa_cons pe_int pa_nil))) (pa_cons pe_int pa_nil))))
    (pss_cons (ps_set (i := 2) sc56.nd rfl (.inl rfl) (pe_cal c.people (hr.mono (by decide)) (by rfl) (pa_cons (pe_cal c.cell (hr.mono (by decide)) (by rfl) (pa_cons (pv 0) (pa_cons pe_int pa_nil))) (pa_cons (pe_op op_add pe_int (pe_op op_mod (pe_callTy call_int1 (by rfl) g.int boot_int (pa_cons (pe_ix ix_list (pv 1) pe_int (fun _ _ => rfl)) pa_nil)) pe_int)) pa_nil))))
    (pss_cons (ps_set (i := 3) sc56.nd rfl (.inl rfl) (pe_cal c.barred (hr.mono (by decide)) (by rfl) (pa_cons (pe_cal c.cell (hr.mono (by decide)) (by rfl) (pa_cons (pv 0) (pa_cons pe_int pa_nil))) (pa_cons (pv 2) pa_nil))))
    (pss_cons (ps_set (i := 4) sc56.nd rfl (.inl rfl) (pe_make mkI GI (hr.mono (by decide)) (by rfl) c.txt.mgC bI .nil pass0 (pa_cons (pe_tupleOf (by rfl) g.tup (pv 2)) (pa_cons (pe_callTy call_list_of (by rfl) g.lst boot_list (pa_cons (pv 3) pa_nil)) pa_nil))))
    (pss_cons (ps_set (i := 5) sc56.nd rfl (.inl rfl) (pe_cal c.rows (hr.mono (by decide)) (by rfl) (pa_cons (pv 2) (pa_cons (pv 3) (pa_cons (pe_lst pa_nil) pa_nil)))))
    (pss_cons (ps_set (i := 6) sc56.nd rfl (.inl rfl) (pe_cal c.most (hr.mono (by decide)) (by rfl) (pa_cons (pv 4) pa_nil)))
    (pss_cons (ps_if (PW.pt (pw_or (pt_not (pt_val (pe_isi g.isi g.int boot_int (pv 6)))) (pw_or (pt_val (pe_isi g.isi g.bool boot_bool (pv 6))) (pw_or1 (pt_not (pt_chain op_le op_lt pe_int (pv 6) (pe_callB call_len_seq (by rfl) g.len PySem.boot_len (pa_cons (pv 2) pa_nil)))))))) pss_never pss_nil)
    (pss_cons (ps_for PassesOwn.never rfl (pi_list (pe_op op_cat (pe_listRg rfl (by rfl) g.lst (prg_1 (by rfl) g.rng (pe_callB (call_min2 rfl) (by rfl) g.min boot_min (pa_cons pe_int (pa_cons (pe_op op_add (pe_callB call_len_seq (by rfl) g.len PySem.boot_len (pa_cons (pv 2) pa_nil)) pe_int) pa_nil))))) (pe_lst (pa_cons (pe_op op_add pe_int (pe_op op_mod (pe_callTy call_int1 (by rfl) g.int boot_int (pa_cons (pe_ix ix_list (pv 1) pe_int (fun _ _ => rfl)) pa_nil)) pe_int)) pa_nil)))) (pg_name (i := 7) sc56.nd rfl (.inl rfl))
      (pss_cons (ps_set (i := 8) sc56.nd rfl (.inl rfl) (pe_cal c.lawPlan hr (by rfl) (pa_cons (pv 4) (pa_cons (pv 7) pa_nil))))
      (pss_cons (ps_set (i := 9) sc56.nd rfl (.inl rfl) (pe_cal c.bar (hr.mono (by decide)) (by rfl) (pa_cons (pv 4) (pa_cons (pv 7) pa_nil))))
      (pss_one (ps_if (pt_cmpR op_le (pv 7) (pv 6) (nomark _))
        (pss_cons (ps_if (PW.pt (pw_or (pt_cmpR op_ne (pe_ix ix_tup (pv 8) pe_int (fun _ _ => rfl)) pe_str (nomark _)) (pw_or (pt_not (pt_val (pe_cal c.isPlan (hr.mono (by decide)) (by rfl) (pa_cons (pe_ix ix_tup (pv 8) pe_int (fun _ _ => rfl)) (pa_cons (pv 2) (pa_cons (pv 5) (pa_cons (pv 7) pa_nil))))))) (pw_or1 (pt_cmp (pc_notN (pv 9))))))) pss_never pss_nil)
        (pss_cons (ps_if (pt_not (pt_val (pe_cal c.eqS (hr.mono (by decide)) (by rfl) (pa_cons (pe_cal c.planFault (hr.mono (by decide)) (by rfl) (pa_cons (pv 4) (pa_cons (pe_ix ix_tup (pv 8) pe_int (fun _ _ => rfl)) pa_nil))) (pa_cons pe_non pa_nil))))) pss_never pss_nil)
        (pss_cons (ps_expr (pe_bm0 PySem.F.plainAttrs_list PySem.F.slot_list_clear PySem.F.type_list_clear mt_clear (pe_ix ix_tup (pv 8) pe_int (fun _ _ => rfl))))
        (pss_one (ps_if (pt_not (pt_val (pe_cal c.isPlan (hr.mono (by decide)) (by rfl) (pa_cons (pe_callS (E := fun _ _ _ _ => False) GP (hr.mono (by decide)) (by rfl) gP kP bP (fun σ => passAt takes0 σ) (pa_cons (pv 4) (pa_cons (pv 7) pa_nil))) (pa_cons (pv 2) (pa_cons (pv 5) (pa_cons (pv 7) pa_nil))))))) pss_never pss_nil)))))
        (pss_cons (ps_if (PW.pt (pw_or (pt_not (pt_val (pe_cal c.eqT (hr.mono (by decide)) (by rfl) (pa_cons (pv 8) (pa_cons (pe_tup (pa_cons pe_str (pa_cons (pv 7) pa_nil))) pa_nil))))) (pw_or1 (pt_not (pt_val (pe_cal c.isBar (hr.mono (by decide)) (by rfl) (pa_cons (pv 9) (pa_cons (pv 2) (pa_cons (pv 5) (pa_cons (pv 7) pa_nil)))))))))) pss_never pss_nil)
        (pss_one (ps_if (pt_not (pt_val (pe_cal c.eqS (hr.mono (by decide)) (by rfl) (pa_cons (pe_cal c.barFault (hr.mono (by decide)) (by rfl) (pa_cons (pv 4) (pa_cons (pv 7) (pa_cons (pv 9) pa_nil)))) (pa_cons pe_non pa_nil))))) pss_never pss_nil))))))))
    (pss_one (ps_ret pe_bl))))))))), ?_⟩
  -- the head
  refine ⟨_, rfl, a, cells, 0, rfl, ha, by omega, fun v0 => ⟨v0, 2, rfl, by omega, fun H1 hl xs s1 _ ehl xl xb => ?_⟩⟩
  have l0 : 0 < xs.length := by omega
  have l1 : 1 < xs.length := by omega
  have b0 := xb _ (List.getElem_mem l0)
  have b1 := xb _ (List.getElem_mem l1)
  have g0 : (xs.map fun x : Nat => V.int (x : Int))[0]? = some (.int (xs[0] : Nat)) := by rw [List.getElem?_map, List.getElem?_eq_getElem l0]; rfl
  have g1 : (xs.map fun x : Nat => V.int (x : Int))[1]? = some (.int (xs[1] : Nat)) := by rw [List.getElem?_map, List.getElem?_eq_getElem l1]; rfl
  generalize xs[0] = d0 at b0 g0
  generalize xs[1] = d1 at b1 g1
  -- the people
  refine ⟨_, rfl, a, cells, 1, rfl, smL s1 ha, by omega, fun v1 => ⟨_, rfl, hl, _, 0, .int (d0 : Nat), rfl, rfl, lstL ehl, at_of (j := 0) rfl g0, .inl ⟨_, rfl, _, _, rfl, rfl, (by decide : (0 : Int) < 7), _, _, rfl, rfl, v1, 2 + d0 % 7, ?_, by omega, fun H2 pl ps s2 _ epl pn pnd pok => ?_⟩⟩⟩
  · exact congrArg (fun z => [V.int v1, V.int z]) (by show (2 : Int) + (d0 : Int) % 7 = _; omega)
  have s02 := s1.trans s2
  have h8 : ps.length ≤ 8 := by omega
  have h2 : 2 ≤ ps.length := by omega
  have hne : ps ≠ [] := fun e => by rw [e] at h2; exact absurd h2 (by decide)
  have pst : ∀ z ∈ ps, PyData.strOk z = true := fun z hz => (pok z hz).str
  -- the barred pairs
  refine ⟨_, rfl, a, cells, 2, rfl, smL s02 ha, by omega, fun v2 => ⟨_, rfl, v2, pl, ps, rfl, epl, by omega, h8, fun H3 bl rs s3 ebl rsA => ?_⟩⟩
  have s03 := s02.trans s3
  have epl3 := s3 _ _ epl
  -- the party
  refine ⟨_, rfl, .inl ⟨pl, svs ps, rfl, lstL epl3, fun t nt => ?_⟩⟩
  have s34 := same_new (o := .tup (svs ps)) nt
  refine ⟨_, rfl, bl, _, rfl, .inl (lstL (s34 _ _ ebl)), fun l2 nl2 => ?_⟩
  have s45 := same_new (o := .lst (rs.map fun r => V.ref r.1)) nl2
  have s35 := s34.trans s45
  intro p dx np ndx ndp
  have s6 : ∀ {b : Addr} {o : HO}, (upd (upd H3 t (.tup (svs ps))) l2 (.lst (rs.map fun r => V.ref r.1))) b = some o → (upd (upd (upd (upd H3 t (.tup (svs ps))) l2 (.lst (rs.map fun r => V.ref r.1))) dx (.own p)) p (.ins C dx [])) b = some o := fun {b o} e => by
    rw [upd_ne (ne_of_none e np), upd_ne (ne_of_none e ndx)]
    exact e
  refine ⟨p, dx, t, l2, ps, rs, rfl, upd_same, s6 (s45 _ _ upd_same), ⟨h2, h8, pok, pnd⟩, s6 upd_same, ⟨fun r hr => s6 (s35 _ _ (rsA.at_ r hr)), rsA.ok, rsA.few⟩, fun H4 pt k4 => ⟨rfl, ?_⟩⟩
  have s4 : Same H3 H4 := fun b o e => k4 b o (s6 (s35 _ _ e)) (ne_of_none (s35 _ _ e) np)
  have s04 := s03.trans s4
  have epl4 := s4 _ _ epl3
  have ebl4 := s4 _ _ ebl
  have rsA4 := rsA.same s4
  have ehl4 := (s2.trans (s3.trans s4)) _ _ ehl
  clear s6 k4 s35 s45 s34 s3 s03 s02 ha rsA ebl epl3
  generalize hbs : rs.map (·.2) = bs at pt
  -- the rows
  refine ⟨_, rfl, _, rfl, Nat.zero_le _, fun lk nlk => ?_⟩
  have s5 := same_new (o := .lst []) nlk
  refine ⟨pl, bl, lk, ps, rs, rfl, s5 _ _ epl4, s5 _ _ ebl4, upd_same, rsA4.same s5, pnd, h8, pst, fun H5 rd ar R s6 _ erd rl rr => ?_⟩
  have s45 := s5.trans s6
  have pt5 := pt.same s45
  have epl5 := s45 _ _ epl4
  have ehl5 := s45 _ _ ehl4
  rw [hbs] at rr
  have I0 := rows_inst pnd (rowsOf_rows (ps := ps) (bs := bs))
  have IR := rows_inst pnd rr
  clear s5 s6 s45 ehl4 epl4 ebl4 rsA4 pt nlk hbs s04 s4
  -- the most
  refine ⟨_, rfl, p, ps, bs, rfl, pt5, h8, pnd, hne, fun H6 m Cm Sm Tm s6 fm bm => ?_⟩
  have mlt : m < ps.length := fm.lt_length I0 (fun g hg hm => okp_ne (List.mem_filter.mp hm).2 rfl) hne
  have pt6 := pt5.same s6
  have epl6 := s6 _ _ epl5
  have ehl6 := s6 _ _ ehl5
  have erd6 := s6 _ _ erd
  have rl6 := rl.same s6
  clear pt5 epl5 ehl5 erd rl s6
  refine ⟨_, rfl, _, _, _, rfl, .base (.int _), by decide +kernel, true, rfl, iteF ?_⟩
  refine ⟨_, rfl, _, _, _, rfl, .base (.int _), by decide +kernel, false, rfl, iteF ?_⟩
  refine ⟨_, rfl, 0, (m : Int), rfl, rfl, true, congrArg V.bl (decide_eq_true (by omega)), iteT ⟨_, rfl, pl, _, rfl, .inl (lstL epl6), (m : Int), _, rfl, rfl, true, congrArg V.bl (decide_eq_true (by rw [List.length_map]; omega)), iteF ?_⟩⟩
  -- the years
  refine ⟨_, rfl, pl, _, rfl, .inl (lstL epl6), _, _, rfl, rfl, _, _, rfl, _, rfl, ?_, fun q1 nq1 => ?_⟩
  · rw [List.length_map]
    refine ⟨by decide, by decide, ?_, ?_, ?_⟩ <;> (split <;> omega)
  have t1 := same_new (o := .lst (rgV 0 (if ((svs ps).length : Int) + 3 < 11 then ((svs ps).length : Int) + 3 else 11))) nq1
  refine ⟨_, rfl, hl, _, 1, .int (d1 : Nat), rfl, rfl, lstL (t1 _ _ ehl6), at_of (j := 1) rfl g1, .inl ⟨_, rfl, _, _, rfl, rfl, (by decide : (0 : Int) < 14), _, _, rfl, rfl, small64 (by show 1 ≤ 1000; decide), fun q2 nq2 => ?_⟩⟩
  have t2 := same_new (o := .lst [.int (11 + (d1 : Int) % 14)]) nq2
  refine ⟨q1, q2, _, _, rfl, rfl, t2 _ _ upd_same, upd_same, ?_, fun q3 nq3 => ?_⟩
  · show (rgV 0 _).length + 1 ≤ sizeLine
    unfold rgV
    rw [List.length_map, List.length_range]
    refine small64 ?_
    split <;> omega
  have t3 := same_new (o := .lst (rgV 0 (if ((svs ps).length : Int) + 3 < 11 then ((svs ps).length : Int) + 3 else 11) ++ [.int (11 + (d1 : Int) % 14)])) nq3
  have ys := years_at (d := d1) (b := if ((svs ps).length : Int) + 3 < 11 then ((svs ps).length : Int) + 3 else 11) (by split <;> omega)
  have eL : (upd (upd (upd H6 q1 (.lst (rgV 0 (if ((svs ps).length : Int) + 3 < 11 then ((svs ps).length : Int) + 3 else 11)))) q2 (.lst [.int (11 + (d1 : Int) % 14)])) q3 (.lst (rgV 0 (if ((svs ps).length : Int) + 3 < 11 then ((svs ps).length : Int) + 3 else 11) ++ [.int (11 + (d1 : Int) % 14)]))) q3 = some (.lst (rgV 0 (if ((svs ps).length : Int) + 3 < 11 then ((svs ps).length : Int) + 3 else 11) ++ [.int (11 + (d1 : Int) % 14)])) := upd_same
  have t4 := (t1.trans t2).trans t3
  have pt7 := pt6.same t4
  have epl7 := t4 _ _ epl6
  have erd7 := t4 _ _ erd6
  have rl7 := rl6.same t4
  refine ⟨q3, rfl, ⟨_, lstL upd_same⟩, ?_⟩
  generalize (upd (upd (upd H6 q1 (.lst (rgV 0 (if ((svs ps).length : Int) + 3 < 11 then ((svs ps).length : Int) + 3 else 11)))) q2 (.lst [.int (11 + (d1 : Int) % 14)])) q3 (.lst (rgV 0 (if ((svs ps).length : Int) + 3 < 11 then ((svs ps).length : Int) + 3 else 11) ++ [.int (11 + (d1 : Int) % 14)]))) = H7 at eL pt7 epl7 erd7 rl7
  clear t1 t2 t3 t4 pt6 epl6 erd6 rl6 ehl6
  generalize rgV 0 (if ((svs ps).length : Int) + 3 < 11 then ((svs ps).length : Int) + 3 else 11) ++ [V.int (11 + (d1 : Int) % 14)] = L at ys eL
  refine for_it (walk_list (xs := L)) (fun i σ H' => ∃ y7 y8 y9, σ = [some (.ref a), some (.ref hl), some (.ref pl), some (.ref bl), some (.ref p), some (.ref rd), some (.int m), y7, y8, y9] ∧ Same H7 H') ⟨none, none, none, rfl, Same.refl _⟩ (fun i σ H' _ h => ?_) ?_ ?_
  · obtain ⟨_, _, _, _, s1⟩ := h
    exact lstL (s1 _ _ eL)
  · rintro i x σ Ha Hb hi ⟨y7, y8, y9, rfl, s1⟩ ⟨rfl, hx⟩
    obtain ⟨y, rfl, hy⟩ := ys i x hx
    have ptb := pt7.same s1
    refine ⟨_, rfl, _, rfl, p, y, m, ps, bs, Cm, Sm, Tm, rfl, hy, ptb, h8, pnd, hne, fm, bm, fun hle H8 T l qs s2 nl eT pa pln ql => ?_, fun hlt H8 T s2 eT => ?_⟩
    · have s12 := s1.trans s2
      have nl7 := s1.free nl
      refine ⟨_, rfl, _, rfl, p, y, ps, bs, rfl, hy, pt7.same s12, h8, pnd, fun H9 C2 s3 _ => ?_, fun H9 T2 a2 b2 S Tt s3 _ _ _ _ _ br => ?_⟩
      · have s13 := s12.trans s3
        have pa3 := pa.same s3
        have eT3 := s3 _ _ eT
        have y8' : y ≤ 8 := by omega
        have plR := plan_perm (rows_sym rr) pln
        refine ⟨_, rfl, _, rfl, _, _, rfl, rfl, true, congrArg V.bl (decide_eq_true (by omega)), iteT ?_⟩
        refine ⟨_, rfl, T, _, 0, .str "told", rfl, rfl, tupT eT3, rfl, rfl, false, by rw [decide_eq_true rfl]; rfl, iteF ?_⟩
        refine ⟨_, rfl, T, _, 1, .ref l, rfl, rfl, tupT eT3, rfl, _, rfl, _, rfl, _, rfl, l, pl, rd, y, ps, ar, R, qs, rfl, pa3, ql, y8', s13 _ _ epl7, s13 _ _ erd7, rl7.same s13, pnd, h8, plR, pst, IR.sub, fun H10 s4 => ⟨true, rfl, iteF ?_⟩⟩
        refine ⟨_, rfl, false, rfl, iteF ?_⟩
        have s14 := s13.trans s4
        have eT4 := s4 _ _ eT3
        refine ⟨_, rfl, _, rfl, T, _, 1, .ref l, rfl, rfl, tupT eT4, rfl, p, l, ps, bs, qs, rfl, pt7.same s14, h8, pnd, pa3.same s4, by omega, pln, fun H11 s5 => ⟨.non, rfl, .inl rfl, true, rfl, iteF ?_⟩⟩
        have s15 := s14.trans s5
        have eT5 := s5 _ _ eT4
        have pa5 := (pa3.same s4).same s5
        refine ⟨_, rfl, T, _, 1, .ref l, rfl, rfl, tupT eT5, rfl, .inl ⟨rfl, _, lstL pa5.at_⟩, l, _, rfl, rfl, pa5.at_, ?_⟩
        have s16 : Same H7 (upd H11 l (.lst [])) := same_upd s15 nl7
        refine ⟨_, rfl, _, rfl, p, y, m, ps, bs, Cm, Sm, Tm, rfl, hy, pt7.same s16, h8, pnd, hne, fm, bm, fun _ H12 l3 qs3 s7 _ pa7 pln7 ql7 => ?_, fun hlt => absurd hle (by omega)⟩
        have s17 := s16.trans s7
        refine ⟨_, rfl, _, rfl, _, rfl, l3, pl, rd, y, ps, ar, R, qs3, rfl, pa7, ql7, y8', s17 _ _ epl7, s17 _ _ erd7, rl7.same s17, pnd, h8, plan_perm (rows_sym rr) pln7, pst, IR.sub, fun H13 s8 => ⟨true, rfl, iteF ?_⟩⟩
        exact ⟨_, _, _, rfl, s17.trans s8⟩
      · have := br.not_full I0 fm
        omega
    · have s12 := s1.trans s2
      refine ⟨_, rfl, _, rfl, p, y, ps, bs, rfl, hy, pt7.same s12, h8, pnd, fun H9 C2 s3 f2 => ?_, fun H9 T2 a2 b2 S Tt s3 eT2 ea2 eb2 so1 so2 br => ?_⟩
      · have := bm.not_full I0 f2
        omega
      · have s13 := s12.trans s3
        have eT3 := s3 _ _ eT
        refine ⟨_, rfl, _, rfl, _, _, rfl, rfl, false, congrArg V.bl (decide_eq_false (by omega)), iteF ?_⟩
        refine ⟨_, rfl, _, rfl, small64 (by show 2 ≤ 1000; decide), fun T3 nT3 => ?_⟩
        have t1 := same_new (o := .tup [.str "NoPlan", .int (y : Int)]) nT3
        refine ⟨T, T3, "NoPlan", (y : Int), rfl, t1 _ _ eT3, upd_same, fun H10 s4 => ⟨true, rfl, iteF ?_⟩⟩
        have t2 := t1.trans s4
        have s14 := s13.trans t2
        refine ⟨_, rfl, _, rfl, _, rfl, _, rfl, T2, a2, b2, pl, rd, y, ps, S, Tt, ar, R, rfl, hy, t2 _ _ eT2, t2 _ _ ea2, t2 _ _ eb2, s14 _ _ epl7, s14 _ _ erd7, rl7.same s14, IR, h8, so1, so2, bar_perm (rows_sym rr) br, pst, fun H11 s5 => ⟨true, rfl, iteF ?_⟩⟩
        have t3 := t2.trans s5
        have s15 := s14.trans s5
        refine ⟨_, rfl, _, rfl, _, rfl, p, T2, a2, b2, y, ps, S, Tt, bs, rfl, hy, pt7.same s15, h8, pnd, pst, t3 _ _ eT2, t3 _ _ ea2, t3 _ _ eb2, so1, so2, br, fun H12 s6 => ⟨.non, rfl, .inl rfl, true, rfl, iteF ?_⟩⟩
        exact ⟨_, _, _, rfl, s15.trans s6⟩
  · rintro σ Ha ⟨y7, y8, y9, rfl, s1⟩
    exact q Ha
end
end K56
set_option Elab.async false
set_option linter.all false
set_option maxRecDepth 100000
set_option maxHeartbeats 0
/-! The head's Hook: the defs, and what is told of NoPlan. -/
namespace K56
open PySem PySem.Spec PyProof.Rows L2
def npC (K : PySem.W.Frag) : Addr := He.ga K "NoPlan"
def npF (K : PySem.W.Frag) : Addr := He.ma K (npC K) "__init__"
/-- the class over ValueError -/
def vexB (K : PySem.W.Frag) (C : Addr) : Bool := match K.lookup C with
  | some ⟨.type "type", _, .cls cd, sl⟩ => (match cd.mro, sl.toList with
    | .ref D :: bm, [_, _, _, _, some (.builtin n), _] => decide (D = C) && (decide (n = "ValueError.__new__") && (!cd.hasDel && (cd.hasDict && PySem.HandSPX.refsVE bm)))
    | _, _ => false)
  | _ => false
theorem vexB_ok {K : PySem.W.Frag} {C : Addr} (h : vexB K C = true) :
    ∃ nm q N bs bm sn sub ab col dd k0 k1 k2 k3 k5, K.lookup C = some (excClassObj nm q C N bs bm true sn sub ab col dd k0 k1 k2 k3 k5 "ValueError.__new__") ∧ PySem.HandSPX.refsVE bm = true := by
  unfold vexB at h
  split at h
  · rename_i dd cd sl ho
    split at h
    · rename_i D bm k0 k1 k2 k3 n k5 hm hs
      obtain ⟨h1, h⟩ := He.ba h
      obtain ⟨h2, h⟩ := He.ba h
      obtain ⟨h3, h⟩ := He.ba h
      obtain ⟨h4, h5⟩ := He.ba h
      have e1 : D = C := of_decide_eq_true h1
      have e2 : n = "ValueError.__new__" := of_decide_eq_true h2
      subst e1 e2
      have es : sl = #[k0, k1, k2, k3, some (.builtin "ValueError.__new__"), k5] := by
        cases sl
        simp at hs
        rw [hs]
      obtain ⟨nm, bs, mro, ns, qn, hd, sn, sb, ab, col, dl⟩ := cd
      dsimp only at hm h3 h4
      have h3' : dl = false := by
        cases dl
        · rfl
        · cases h3
      subst hm h4 h3' es
      exact ⟨_, _, _, _, _, _, _, _, _, _, _, _, _, _, _, ho, h5⟩
    · cases h
  · cases h
/-- a code object's file -/
def fileB (file : Str) (K : PySem.W.Frag) (a : Addr) : Bool := match K.lookup a with
  | some ⟨_, _, .fields vs, _⟩ => (match (vs[2]? : Option Value) with
    | some (.str fl _) => file == fl
    | _ => false)
  | _ => false
theorem fileB_ok {file : Str} {K : PySem.W.Frag} {a : Addr} (h : fileB file K a = true) : ∃ ccl cdd vs ccs fl tk, K.lookup a = some ⟨ccl, cdd, .fields vs, ccs⟩ ∧ vs[2]? = some (.str fl tk) ∧ (file == fl) = true := by
  unfold fileB at h
  split at h
  · rename_i ccl cdd vs ccs hda
    split at h
    · rename_i fl tk hvs
      exact ⟨_, _, _, _, _, _, hda, hvs, h⟩
    · cases h
  · cases h
/-- a cell that holds the object at C -/
def cellB (K : PySem.W.Frag) (C cc : Addr) : Bool := match K.lookup cc with
  | some ⟨_, _, .cell (some (.ref D)), _⟩ => decide (D = C)
  | _ => false
theorem cellB_ok {K : PySem.W.Frag} {C cc : Addr} (h : cellB K C cc = true) : ∃ cl cld csl, K.lookup cc = some ⟨cl, cld, .cell (some (.ref C)), csl⟩ := by
  unfold cellB at h
  split at h
  · rename_i cl cld D csl hcc
    have e : D = C := of_decide_eq_true h
    subst e
    exact ⟨_, _, _, hcc⟩
  · cases h
/-- the closure: __class__ alone -/
def closB (K : PySem.W.Frag) (C : Addr) : List (Str × Addr) → Bool
  | [(n, cc)] => decide (n = ("__class__" : Str)) && cellB K C cc
  | _ => false
theorem closB_ok {K : PySem.W.Frag} {C : Addr} {l : List (Str × Addr)} (h : closB K C l = true) : ∃ cc, l = [(("__class__" : Str), cc)] ∧ cellB K C cc = true := by
  match l, h with
  | [(n, cc)], h =>
    obtain ⟨h1, h2⟩ := He.ba (show (decide (n = ("__class__" : Str)) && cellB K C cc) = true from h)
    have e : n = ("__class__" : Str) := of_decide_eq_true h1
    rw [e]
    exact ⟨cc, rfl, h2⟩
def codB (file : Str) (K : PySem.W.Frag) : Value → Bool
  | .ref cda => PySem.W.codeIn K (.ref cda) "NoPlan.__init__" && fileB file K cda
  | _ => false
theorem codB_ok {file : Str} {K : PySem.W.Frag} {v : Value} (h : codB file K v = true) : ∃ cda, v = .ref cda ∧ PySem.W.codeIn K (.ref cda) "NoPlan.__init__" = true ∧ fileB file K cda = true := by
  match v, h with
  | .ref cda, h =>
    obtain ⟨h1, h2⟩ := He.ba (show (PySem.W.codeIn K (.ref cda) "NoPlan.__init__" && fileB file K cda) = true from h)
    exact ⟨cda, rfl, h1, h2⟩
def nonB : Value → Bool
  | .none => true
  | _ => false
theorem nonB_ok {v : Value} (h : nonB v = true) : v = .none := by
  match v, h with
  | .none, _ => rfl
/-- the function's code, its cell -/
def npFnB (file : Str) (K : PySem.W.Frag) : Bool := match K.lookup (npF K) with
  | some ⟨_, _, .func fd, _⟩ => codB file K fd.code && (closB K (npC K) fd.closure && nonB fd.defaults)
  | _ => false
abbrev NpV : Type := Option (Str × Str × Arguments × FuncBody × Scope × Addr × Addr)
def npObs (K : PySem.W.Frag) : NpV := match K.lookup (npF K) with
  | some ⟨_, _, .func fd, _⟩ => some (fd.name, fd.qualname, fd.params, fd.body, fd.scope, fd.globals, fd.builtins)
  | _ => none
def npVal : NpV := some ("__init__", "NoPlan.__init__", defArgs stNP, .stmts (defBody stNP), defScope stNP, mainGlobals, builtinsNs)
def npB (file : Str) (K : PySem.W.Frag) : Bool :=
  (He.eqO (PySem.W.nsIn K mainGlobals "NoPlan") (some (some (.ref (npC K)))) && (vexB K (npC K) && (He.eqO (PySem.W.findIn K (.ref (npC K)) "__setattr__") (some (some (.builtin "object.__setattr__"))) && (decide (PySem.W.subIn K (.ref (npC K)) (.type "BaseException") = some true) && (decide (PySem.W.typeIn K (.ref (npC K)) = some (.type "type")) && (PySem.W.keepIn K (.ref (npC K)) && xfB K (npC K))))))) &&
  ((He.eqO (PySem.W.findIn K (.ref (npC K)) "years") (some none) && (He.eqO (PySem.W.findIn K (.ref (npC K)) "__init__") (some (some (.ref (npF K)))) && (decide (PySem.W.typeIn K (.ref (npF K)) = some (.type "function")) && (decide (PySem.W.exmOne K (.ref (npC K)) (.ref (npC K)) = some true) && He.eqO (PySem.W.ks_superIn K (npC K) (npC K) "__init__") (some (some (.builtin "ValueError.__init__"))))))) &&
  (decide (PySem.W.subIn K (.ref (npC K)) (.type "ValueError") = some true) && (decide (PySem.W.mroIn K (npC K) (.ref (npC K)) = some true) && (He.eqO (PySem.W.nsIn K cStatics "thirdparty.any") (some none) && npFnB file K))))
theorem np_bind {fd : FuncData} {K : PySem.W.Frag} {kV doc pm ct : Value} {an : Option Addr} {cda cc : Addr} (e : fd = PySem.W.ksFn "__init__" "NoPlan.__init__" (defArgs stNP) (defBody stNP) (defScope stNP) .none kV doc pm an (.ref cda) ct cc) : Binds K fd ["self", "years"] [] := by
  subst e
  exact Binds.all fun us hl => match us, hl with | [_, _], _ => rfl
theorem npB_ok {P : Program} {K : PySem.W.Frag} (h : npB P.main.file K = true) (e : npObs K = npVal) (hs : (P.main.scope.names.lookup ("super" : Str)).isSome = false) : ∃ fd, NpTxt P K (npC K) (npF K) fd ∧ Binds K fd ["self", "years"] [] ∧ PySem.W.nsIn K mainGlobals "NoPlan" = some (some (.ref (npC K))) := by
  obtain ⟨h1, h⟩ := He.ba h
  obtain ⟨h2, h3⟩ := He.ba h
  obtain ⟨a1, h1⟩ := He.ba h1
  obtain ⟨a2, h1⟩ := He.ba h1
  obtain ⟨a3, h1⟩ := He.ba h1
  obtain ⟨a4, h1⟩ := He.ba h1
  obtain ⟨a5, h1⟩ := He.ba h1
  obtain ⟨a6, a7⟩ := He.ba h1
  obtain ⟨b1, h2⟩ := He.ba h2
  obtain ⟨b2, h2⟩ := He.ba h2
  obtain ⟨b3, h2⟩ := He.ba h2
  obtain ⟨b4, b5⟩ := He.ba h2
  obtain ⟨c1, h3⟩ := He.ba h3
  obtain ⟨c2, h3⟩ := He.ba h3
  obtain ⟨c3, c4⟩ := He.ba h3
  unfold npObs at e
  unfold npFnB at c4
  cases q : K.lookup (npF K) with
  | none => rw [q] at e; cases e
  | some o =>
    obtain ⟨oc, od, dt, osl⟩ := o
    rw [q] at e c4
    cases dt with
    | func fd =>
      dsimp only at e c4
      obtain ⟨d1, d2⟩ := He.ba c4
      obtain ⟨d4, d3⟩ := He.ba d2
      clear d2 c4
      obtain ⟨p1, p2, p3, p4, p5, p6, p7, p8, p9, p10, p11, p12, p13, p14, p15⟩ := fd
      dsimp only at e d1 d4 d3
      have e2 : (some (p1, p2, p3, p4, p5, p6, p15) : NpV) = npVal := e
      unfold npVal at e2
      simp only [Option.some.injEq, Prod.mk.injEq] at e2
      obtain ⟨e1, e2, e3, e4, e5, e6, e7⟩ := e2
      subst e1 e2 e3 e4 e5 e6 e7
      obtain ⟨cda, rfl, f1, f2⟩ := codB_ok d1
      obtain ⟨cc, rfl, f3⟩ := closB_ok d4
      have e8 := nonB_ok d3
      subst e8
      obtain ⟨ccl, cdd, vs, ccs, fl, tk, hda, hvs, f4⟩ := fileB_ok f2
      exact ⟨_, ⟨⟨vexB_ok a2, He.eqO_ok a3, of_decide_eq_true a4, of_decide_eq_true a5, a6⟩, xfB_ok a7, He.eqO_ok b1, He.eqO_ok b2, of_decide_eq_true b3, of_decide_eq_true b4, He.eqO_ok b5, of_decide_eq_true c1, of_decide_eq_true c2, He.eqO_ok c3, hs,
        oc, od, .none, p9, p10, p11, p12, cda, cc, p14, osl, rfl, q, f1, cellB_ok f3, ccl, cdd, vs, ccs, fl, tk, hda, hvs, f4⟩, np_bind rfl, He.eqO_ok a1⟩
    | _ => cases e
structure SaysN (file : Str) (fa : List He.Fa) (fn : List He.DefD) (K : PySem.W.Frag) : Prop where
  t : He.SaysD fa fn K
  more : npB file K = true
  obs : npObs K = npVal
def asN (g : Addr → Option Obj) : Nat → List Addr
  | 0 => [mainGlobals, cStatics]
  | n + 1 => He.growD g (asN g n)
abbrev AlN : Type := (Bool × NpV) × He.AlD
def obsN (file : Str) (n : Nat) (fa : List He.Fa) (fn : List He.DefD) (g : Addr → Option Obj) : AlN := ((npB file (He.frG g (asN g n)), npObs (He.frG g (asN g n))), He.obsD fa fn (He.frG g (asN g n)))
def valN (fn : List He.DefD) : AlN := ((true, npVal), He.valD fn)
theorem saysN_of {file : Str} {n : Nat} {fa : List He.Fa} {fn : List He.DefD} {h : Heap} (e : obsN file n fa fn h.get? = valN fn) : SaysN file fa fn (He.frG h.get? (asN h.get? n)) :=
  ⟨congrArg (fun z : AlN => z.2) e, congrArg (fun z : AlN => z.1.1) e, congrArg (fun z : AlN => z.1.2) e⟩
def hookN (file : Str) (n : Nat) (fa : List He.Fa) (fn : List He.DefD) : PySem.W.Hook where
  α := AlN
  obs := fun s => obsN file n fa fn s.heap.get?
  val := fun _ => valN fn
  says := fun _ h => ∃ K : PySem.W.Frag, K.In h ∧ SaysN file fa fn K
  of := fun _ _ e => ⟨_, He.frG_in, saysN_of e⟩
  keeps := fun _ _ _ ⟨K, hK, c⟩ k => ⟨K, PySem.W.Frag.In.keeps hK k, c⟩
theorem obsN_eq {file : Str} {n : Nat} {fa : List He.Fa} {fn : List He.DefD} {g : Addr → Option Obj} {s : Shared} (h : ∀ a, g a = s.heap.get? a) : obsN file n fa fn g = (hookN file n fa fn).obs s := by
  have e : g = s.heap.get? := funext h
  rw [e] <;> rfl
end K56
set_option Elab.async false
set_option linter.all false
set_option maxRecDepth 100000
set_option maxHeartbeats 0
/-! The head's run. -/
namespace K56
open PySem PySem.Spec PyProof.Rows L2
def dd (i : Nat) (x : Str) : He.DefD := ⟨(x, none), x, x, defArgs (top i), defBody (top i), defScope (top i), [], []⟩
def dm (j : Nat) (m q : Str) : He.DefD := ⟨("Party", some m), m, q, defArgs (inClass (top 22) j), defBody (inClass (top 22) j), defScope (inClass (top 22) j), [], []⟩
def fn : List He.DefD := [dd 9 "seek", dd 10 "paired", dd 15 "is_name", dd 16 "is_person", dd 17 "are_different", dd 18 "is_pair", dd 19 "check_people", dd 20 "check_pairs", dd 21 "check_name",
  dm 0 "__init__" "Party.__init__", dm 1 "people" "Party.people", dm 3 "may" "Party.may", dm 7 "__contains__" "Party.__contains__", dm 8 "__len__" "Party.__len__",
  dd 23 "is_drawing", dd 25 "is_integer", dd 28 "party_rows", dd 29 "plan_fault", dd 30 "flow_way", dd 31 "push", dd 32 "spread", dd 33 "no_choice", dd 34 "most_of", dd 35 "taken_apart", dd 36 "plan_of", dd 37 "check_years", dd 38 "most_years", dd 39 "plan", dd 40 "bar",
  dd 41 "is_sorted_lot", dd 42 "bar_fault", dd 44 "_law_cell", dd 45 "_law_draws", dd 46 "_law_people", dd 47 "_law_barred", dd 49 "_law_rows", dd 50 "_law_is_drawing", dd 51 "_law_equal", dd 52 "_law_plan", dd 53 "_law_is_plan", dd 54 "_law_is_lot", dd 55 "_law_is_bar", dd 56 "law"]
def fa : List He.Fa := [.cls "Party", .noat "Party" "_people", .noat "Party" "_closed", .mkr "Party", .meth "Party" "people", .meth "Party" "may", .meth "Party" "__contains__", .meth "Party" "__len__",
  .int "MOST_PEOPLE" 24, .int "MOST_BARRED" 600, .int "MOST_YEARS" 24, .str "LETTERS" "abcdefghijklmnopqrstuvwxyz",
  .free "isinstance", .free "len", .free "enumerate", .free "sorted", .free "list", .free "tuple", .free "range", .free "int", .free "str", .free "dict", .free "bool", .free "min", .free "all", .free "super",
  .glo "Party", .glo "seek", .glo "paired", .glo "is_name", .glo "is_person", .glo "are_different", .glo "is_pair", .glo "check_people", .glo "check_pairs", .glo "check_name", .glo "is_drawing", .glo "is_integer", .glo "party_rows", .glo "plan_fault", .glo "flow_way", .glo "push", .glo "spread",
  .glo "no_choice", .glo "most_of", .glo "taken_apart", .glo "plan_of", .glo "check_years", .glo "most_years", .glo "plan", .glo "bar", .glo "is_sorted_lot", .glo "bar_fault", .glo "_law_cell", .glo "_law_draws", .glo "_law_people", .glo "_law_barred", .glo "_law_rows", .glo "_law_is_drawing",
  .glo "_law_equal", .glo "_law_plan", .glo "_law_is_plan", .glo "_law_is_lot", .glo "_law_is_bar", .glo "law"]
abbrev R : PySem.W.OpenRow := PySem.W.OpenLaw.row PySem.Challenge.rw_giftrings_k56_whole_plan_or_bar
abbrev fl : Str := PySem.Challenge.pw_giftrings_k56_whole_plan_or_bar.main.file
abbrev hk : PySem.W.Hook := hookN fl 6 fa fn
def ob (s : PySem.W.SharedT) : AlN := obsN fl 6 fa fn (HandSHeadRun.getT s)
theorem ob_eq (s : PySem.W.SharedT) : ob s = hk.obs s.abs := obsN_eq (HandSHeadRun.getT_eq s)
def names1 : List PySem.Str := ["_wall", "GiftError", "BadPeople", "BadPair", "BadNumber", "NoName", "NoPlan", "seek", "paired", "LETTERS", "MOST_PEOPLE", "MOST_BARRED", "is_name", "is_person", "are_different", "is_pair", "check_people", "check_pairs", "check_name", "Party", "is_drawing", "is_integer", "MOST_YEARS"]
def names2 : List PySem.Str := ["party_rows", "plan_fault", "flow_way", "push", "spread", "no_choice", "most_of", "taken_apart", "plan_of", "check_years", "most_years", "plan", "bar", "is_sorted_lot", "bar_fault", "_law_cell", "_law_draws", "_law_people", "_law_barred", "_law_lets", "_law_rows", "_law_is_drawing", "_law_equal", "_law_plan", "_law_is_plan", "_law_is_lot", "_law_is_bar"]
def names : List PySem.Str := names1 ++ names2
theorem run (w : World) : HandSHeadRun.RunEq R (PySem.W.view R.prog [56]) hk ob 4000 names w := by
  intro os
  kernel_rfl
end K56
set_option Elab.async false
set_option linter.all false
set_option maxRecDepth 100000
set_option maxHeartbeats 0
/-! What the head tells, put together. -/
namespace K56
open PySem PySem.Spec PyProof.Rows L2 Gift
section
variable {P : Program} {w : World} {K : PySem.W.Frag} {h base : Heap} {mg : Str → Option Value}
abbrev Sn (K : PySem.W.Frag) : Prop := SaysN fl fa fn K
abbrev cP (K : PySem.W.Frag) : Addr := He.ga K "Party"
theorem glo_n (X : K.In h) (G : h.Ns mainGlobals mg) (c : Sn K) : Glo mg where
  isi := He.free_ok X G (c.t.fact 12 (f := .free "isinstance") rfl)
  len := He.free_ok X G (c.t.fact 13 (f := .free "len") rfl)
  enu := He.free_ok X G (c.t.fact 14 (f := .free "enumerate") rfl)
  srt := He.free_ok X G (c.t.fact 15 (f := .free "sorted") rfl)
  lst := He.free_ok X G (c.t.fact 16 (f := .free "list") rfl)
  tup := He.free_ok X G (c.t.fact 17 (f := .free "tuple") rfl)
  rng := He.free_ok X G (c.t.fact 18 (f := .free "range") rfl)
  int := He.free_ok X G (c.t.fact 19 (f := .free "int") rfl)
  str := He.free_ok X G (c.t.fact 20 (f := .free "str") rfl)
  dct := He.free_ok X G (c.t.fact 21 (f := .free "dict") rfl)
  bool := He.free_ok X G (c.t.fact 22 (f := .free "bool") rfl)
  min := He.free_ok X G (c.t.fact 23 (f := .free "min") rfl)
  all := He.free_ok X G (c.t.fact 24 (f := .free "all") rfl)
theorem d_seek (X : K.In h) (G : h.Ns mainGlobals mg) (c : Sn K) : Def K mg "seek" (top 9) := by
  obtain ⟨fd, F⟩ := c.t.def_ 0 (d := dd 9 "seek") rfl
  exact ⟨_, fd, F, He.glo_ok X G (c.t.fact 27 (f := .glo "seek") rfl)⟩
theorem d_paired (X : K.In h) (G : h.Ns mainGlobals mg) (c : Sn K) : Def K mg "paired" (top 10) := by
  obtain ⟨fd, F⟩ := c.t.def_ 1 (d := dd 10 "paired") rfl
  exact ⟨_, fd, F, He.glo_ok X G (c.t.fact 28 (f := .glo "paired") rfl)⟩
theorem d_is_name (X : K.In h) (G : h.Ns mainGlobals mg) (c : Sn K) : Def K mg "is_name" (top 15) := by
  obtain ⟨fd, F⟩ := c.t.def_ 2 (d := dd 15 "is_name") rfl
  exact ⟨_, fd, F, He.glo_ok X G (c.t.fact 29 (f := .glo "is_name") rfl)⟩
theorem d_is_person (X : K.In h) (G : h.Ns mainGlobals mg) (c : Sn K) : Def K mg "is_person" (top 16) := by
  obtain ⟨fd, F⟩ := c.t.def_ 3 (d := dd 16 "is_person") rfl
  exact ⟨_, fd, F, He.glo_ok X G (c.t.fact 30 (f := .glo "is_person") rfl)⟩
theorem d_are_different (X : K.In h) (G : h.Ns mainGlobals mg) (c : Sn K) : Def K mg "are_different" (top 17) := by
  obtain ⟨fd, F⟩ := c.t.def_ 4 (d := dd 17 "are_different") rfl
  exact ⟨_, fd, F, He.glo_ok X G (c.t.fact 31 (f := .glo "are_different") rfl)⟩
theorem d_is_pair (X : K.In h) (G : h.Ns mainGlobals mg) (c : Sn K) : Def K mg "is_pair" (top 18) := by
  obtain ⟨fd, F⟩ := c.t.def_ 5 (d := dd 18 "is_pair") rfl
  exact ⟨_, fd, F, He.glo_ok X G (c.t.fact 32 (f := .glo "is_pair") rfl)⟩
theorem d_check_people (X : K.In h) (G : h.Ns mainGlobals mg) (c : Sn K) : Def K mg "check_people" (top 19) := by
  obtain ⟨fd, F⟩ := c.t.def_ 6 (d := dd 19 "check_people") rfl
  exact ⟨_, fd, F, He.glo_ok X G (c.t.fact 33 (f := .glo "check_people") rfl)⟩
theorem d_check_pairs (X : K.In h) (G : h.Ns mainGlobals mg) (c : Sn K) : Def K mg "check_pairs" (top 20) := by
  obtain ⟨fd, F⟩ := c.t.def_ 7 (d := dd 20 "check_pairs") rfl
  exact ⟨_, fd, F, He.glo_ok X G (c.t.fact 34 (f := .glo "check_pairs") rfl)⟩
theorem d_check_name (X : K.In h) (G : h.Ns mainGlobals mg) (c : Sn K) : Def K mg "check_name" (top 21) := by
  obtain ⟨fd, F⟩ := c.t.def_ 8 (d := dd 21 "check_name") rfl
  exact ⟨_, fd, F, He.glo_ok X G (c.t.fact 35 (f := .glo "check_name") rfl)⟩
theorem m_init (c : Sn K) : MDef K (cP K) "__init__" "Party.__init__" (pm 0) := by
  obtain ⟨fd, F⟩ := c.t.def_ 9 (d := dm 0 "__init__" "Party.__init__") rfl
  have M := He.mkr_ok (c.t.fact 3 (f := .mkr "Party") rfl)
  exact ⟨_, fd, F, M.init, M.fn, F.kp⟩
theorem m_people (c : Sn K) : MDef K (cP K) "people" "Party.people" (pm 1) := by
  obtain ⟨fd, F⟩ := c.t.def_ 10 (d := dm 1 "people" "Party.people") rfl
  exact ⟨_, fd, F, He.meth_ok (c.t.fact 4 (f := .meth "Party" "people") rfl)⟩
theorem m_may (c : Sn K) : MDef K (cP K) "may" "Party.may" (pm 3) := by
  obtain ⟨fd, F⟩ := c.t.def_ 11 (d := dm 3 "may" "Party.may") rfl
  exact ⟨_, fd, F, He.meth_ok (c.t.fact 5 (f := .meth "Party" "may") rfl)⟩
theorem m_contains (c : Sn K) : MDef K (cP K) "__contains__" "Party.__contains__" (pm 7) := by
  obtain ⟨fd, F⟩ := c.t.def_ 12 (d := dm 7 "__contains__" "Party.__contains__") rfl
  exact ⟨_, fd, F, He.meth_ok (c.t.fact 6 (f := .meth "Party" "__contains__") rfl)⟩
theorem m_len (c : Sn K) : MDef K (cP K) "__len__" "Party.__len__" (pm 8) := by
  obtain ⟨fd, F⟩ := c.t.def_ 13 (d := dm 8 "__len__" "Party.__len__") rfl
  exact ⟨_, fd, F, He.meth_ok (c.t.fact 7 (f := .meth "Party" "__len__") rfl)⟩
theorem d_is_drawing (X : K.In h) (G : h.Ns mainGlobals mg) (c : Sn K) : Def K mg "is_drawing" (top 23) := by
  obtain ⟨fd, F⟩ := c.t.def_ 14 (d := dd 23 "is_drawing") rfl
  exact ⟨_, fd, F, He.glo_ok X G (c.t.fact 36 (f := .glo "is_drawing") rfl)⟩
theorem d_is_integer (X : K.In h) (G : h.Ns mainGlobals mg) (c : Sn K) : Def K mg "is_integer" (top 25) := by
  obtain ⟨fd, F⟩ := c.t.def_ 15 (d := dd 25 "is_integer") rfl
  exact ⟨_, fd, F, He.glo_ok X G (c.t.fact 37 (f := .glo "is_integer") rfl)⟩
theorem d_party_rows (X : K.In h) (G : h.Ns mainGlobals mg) (c : Sn K) : Def K mg "party_rows" (top 28) := by
  obtain ⟨fd, F⟩ := c.t.def_ 16 (d := dd 28 "party_rows") rfl
  exact ⟨_, fd, F, He.glo_ok X G (c.t.fact 38 (f := .glo "party_rows") rfl)⟩
theorem d_plan_fault (X : K.In h) (G : h.Ns mainGlobals mg) (c : Sn K) : Def K mg "plan_fault" (top 29) := by
  obtain ⟨fd, F⟩ := c.t.def_ 17 (d := dd 29 "plan_fault") rfl
  exact ⟨_, fd, F, He.glo_ok X G (c.t.fact 39 (f := .glo "plan_fault") rfl)⟩
theorem d_flow_way (X : K.In h) (G : h.Ns mainGlobals mg) (c : Sn K) : Def K mg "flow_way" (top 30) := by
  obtain ⟨fd, F⟩ := c.t.def_ 18 (d := dd 30 "flow_way") rfl
  exact ⟨_, fd, F, He.glo_ok X G (c.t.fact 40 (f := .glo "flow_way") rfl)⟩
theorem d_push (X : K.In h) (G : h.Ns mainGlobals mg) (c : Sn K) : Def K mg "push" (top 31) := by
  obtain ⟨fd, F⟩ := c.t.def_ 19 (d := dd 31 "push") rfl
  exact ⟨_, fd, F, He.glo_ok X G (c.t.fact 41 (f := .glo "push") rfl)⟩
theorem d_spread (X : K.In h) (G : h.Ns mainGlobals mg) (c : Sn K) : Def K mg "spread" (top 32) := by
  obtain ⟨fd, F⟩ := c.t.def_ 20 (d := dd 32 "spread") rfl
  exact ⟨_, fd, F, He.glo_ok X G (c.t.fact 42 (f := .glo "spread") rfl)⟩
theorem d_no_choice (X : K.In h) (G : h.Ns mainGlobals mg) (c : Sn K) : Def K mg "no_choice" (top 33) := by
  obtain ⟨fd, F⟩ := c.t.def_ 21 (d := dd 33 "no_choice") rfl
  exact ⟨_, fd, F, He.glo_ok X G (c.t.fact 43 (f := .glo "no_choice") rfl)⟩
theorem d_most_of (X : K.In h) (G : h.Ns mainGlobals mg) (c : Sn K) : Def K mg "most_of" (top 34) := by
  obtain ⟨fd, F⟩ := c.t.def_ 22 (d := dd 34 "most_of") rfl
  exact ⟨_, fd, F, He.glo_ok X G (c.t.fact 44 (f := .glo "most_of") rfl)⟩
theorem d_taken_apart (X : K.In h) (G : h.Ns mainGlobals mg) (c : Sn K) : Def K mg "taken_apart" (top 35) := by
  obtain ⟨fd, F⟩ := c.t.def_ 23 (d := dd 35 "taken_apart") rfl
  exact ⟨_, fd, F, He.glo_ok X G (c.t.fact 45 (f := .glo "taken_apart") rfl)⟩
theorem d_plan_of (X : K.In h) (G : h.Ns mainGlobals mg) (c : Sn K) : Def K mg "plan_of" (top 36) := by
  obtain ⟨fd, F⟩ := c.t.def_ 24 (d := dd 36 "plan_of") rfl
  exact ⟨_, fd, F, He.glo_ok X G (c.t.fact 46 (f := .glo "plan_of") rfl)⟩
theorem d_check_years (X : K.In h) (G : h.Ns mainGlobals mg) (c : Sn K) : Def K mg "check_years" (top 37) := by
  obtain ⟨fd, F⟩ := c.t.def_ 25 (d := dd 37 "check_years") rfl
  exact ⟨_, fd, F, He.glo_ok X G (c.t.fact 47 (f := .glo "check_years") rfl)⟩
theorem d_most_years (X : K.In h) (G : h.Ns mainGlobals mg) (c : Sn K) : Def K mg "most_years" (top 38) := by
  obtain ⟨fd, F⟩ := c.t.def_ 26 (d := dd 38 "most_years") rfl
  exact ⟨_, fd, F, He.glo_ok X G (c.t.fact 48 (f := .glo "most_years") rfl)⟩
theorem d_plan (X : K.In h) (G : h.Ns mainGlobals mg) (c : Sn K) : Def K mg "plan" (top 39) := by
  obtain ⟨fd, F⟩ := c.t.def_ 27 (d := dd 39 "plan") rfl
  exact ⟨_, fd, F, He.glo_ok X G (c.t.fact 49 (f := .glo "plan") rfl)⟩
theorem d_bar (X : K.In h) (G : h.Ns mainGlobals mg) (c : Sn K) : Def K mg "bar" (top 40) := by
  obtain ⟨fd, F⟩ := c.t.def_ 28 (d := dd 40 "bar") rfl
  exact ⟨_, fd, F, He.glo_ok X G (c.t.fact 50 (f := .glo "bar") rfl)⟩
theorem d_is_sorted_lot (X : K.In h) (G : h.Ns mainGlobals mg) (c : Sn K) : Def K mg "is_sorted_lot" (top 41) := by
  obtain ⟨fd, F⟩ := c.t.def_ 29 (d := dd 41 "is_sorted_lot") rfl
  exact ⟨_, fd, F, He.glo_ok X G (c.t.fact 51 (f := .glo "is_sorted_lot") rfl)⟩
theorem d_bar_fault (X : K.In h) (G : h.Ns mainGlobals mg) (c : Sn K) : Def K mg "bar_fault" (top 42) := by
  obtain ⟨fd, F⟩ := c.t.def_ 30 (d := dd 42 "bar_fault") rfl
  exact ⟨_, fd, F, He.glo_ok X G (c.t.fact 52 (f := .glo "bar_fault") rfl)⟩
theorem d_law_cell (X : K.In h) (G : h.Ns mainGlobals mg) (c : Sn K) : Def K mg "_law_cell" (top 44) := by
  obtain ⟨fd, F⟩ := c.t.def_ 31 (d := dd 44 "_law_cell") rfl
  exact ⟨_, fd, F, He.glo_ok X G (c.t.fact 53 (f := .glo "_law_cell") rfl)⟩
theorem d_law_draws (X : K.In h) (G : h.Ns mainGlobals mg) (c : Sn K) : Def K mg "_law_draws" (top 45) := by
  obtain ⟨fd, F⟩ := c.t.def_ 32 (d := dd 45 "_law_draws") rfl
  exact ⟨_, fd, F, He.glo_ok X G (c.t.fact 54 (f := .glo "_law_draws") rfl)⟩
theorem d_law_people (X : K.In h) (G : h.Ns mainGlobals mg) (c : Sn K) : Def K mg "_law_people" (top 46) := by
  obtain ⟨fd, F⟩ := c.t.def_ 33 (d := dd 46 "_law_people") rfl
  exact ⟨_, fd, F, He.glo_ok X G (c.t.fact 55 (f := .glo "_law_people") rfl)⟩
theorem d_law_barred (X : K.In h) (G : h.Ns mainGlobals mg) (c : Sn K) : Def K mg "_law_barred" (top 47) := by
  obtain ⟨fd, F⟩ := c.t.def_ 34 (d := dd 47 "_law_barred") rfl
  exact ⟨_, fd, F, He.glo_ok X G (c.t.fact 56 (f := .glo "_law_barred") rfl)⟩
theorem d_law_rows (X : K.In h) (G : h.Ns mainGlobals mg) (c : Sn K) : Def K mg "_law_rows" (top 49) := by
  obtain ⟨fd, F⟩ := c.t.def_ 35 (d := dd 49 "_law_rows") rfl
  exact ⟨_, fd, F, He.glo_ok X G (c.t.fact 57 (f := .glo "_law_rows") rfl)⟩
theorem d_law_is_drawing (X : K.In h) (G : h.Ns mainGlobals mg) (c : Sn K) : Def K mg "_law_is_drawing" (top 50) := by
  obtain ⟨fd, F⟩ := c.t.def_ 36 (d := dd 50 "_law_is_drawing") rfl
  exact ⟨_, fd, F, He.glo_ok X G (c.t.fact 58 (f := .glo "_law_is_drawing") rfl)⟩
theorem d_law_equal (X : K.In h) (G : h.Ns mainGlobals mg) (c : Sn K) : Def K mg "_law_equal" (top 51) := by
  obtain ⟨fd, F⟩ := c.t.def_ 37 (d := dd 51 "_law_equal") rfl
  exact ⟨_, fd, F, He.glo_ok X G (c.t.fact 59 (f := .glo "_law_equal") rfl)⟩
theorem d_law_plan (X : K.In h) (G : h.Ns mainGlobals mg) (c : Sn K) : Def K mg "_law_plan" (top 52) := by
  obtain ⟨fd, F⟩ := c.t.def_ 38 (d := dd 52 "_law_plan") rfl
  exact ⟨_, fd, F, He.glo_ok X G (c.t.fact 60 (f := .glo "_law_plan") rfl)⟩
theorem d_law_is_plan (X : K.In h) (G : h.Ns mainGlobals mg) (c : Sn K) : Def K mg "_law_is_plan" (top 53) := by
  obtain ⟨fd, F⟩ := c.t.def_ 39 (d := dd 53 "_law_is_plan") rfl
  exact ⟨_, fd, F, He.glo_ok X G (c.t.fact 61 (f := .glo "_law_is_plan") rfl)⟩
theorem d_law_is_lot (X : K.In h) (G : h.Ns mainGlobals mg) (c : Sn K) : Def K mg "_law_is_lot" (top 54) := by
  obtain ⟨fd, F⟩ := c.t.def_ 40 (d := dd 54 "_law_is_lot") rfl
  exact ⟨_, fd, F, He.glo_ok X G (c.t.fact 62 (f := .glo "_law_is_lot") rfl)⟩
theorem d_law_is_bar (X : K.In h) (G : h.Ns mainGlobals mg) (c : Sn K) : Def K mg "_law_is_bar" (top 55) := by
  obtain ⟨fd, F⟩ := c.t.def_ 41 (d := dd 55 "_law_is_bar") rfl
  exact ⟨_, fd, F, He.glo_ok X G (c.t.fact 63 (f := .glo "_law_is_bar") rfl)⟩
theorem d_law (X : K.In h) (G : h.Ns mainGlobals mg) (c : Sn K) : Def K mg "law" (top 56) := by
  obtain ⟨fd, F⟩ := c.t.def_ 42 (d := dd 56 "law") rfl
  exact ⟨_, fd, F, He.glo_ok X G (c.t.fact 64 (f := .glo "law") rfl)⟩
theorem ptxt_n (X : K.In h) (G : h.Ns mainGlobals mg) (c : Sn K) : PTxt K mg (cP K) where
  cl := He.cls_ok (c.t.fact 0 (f := .cls "Party") rfl)
  nP := He.noat_ok (c.t.fact 1 (f := .noat "Party" "_people") rfl)
  nC := He.noat_ok (c.t.fact 2 (f := .noat "Party" "_closed") rfl)
  mgC := He.glo_ok X G (c.t.fact 26 (f := .glo "Party") rfl)
theorem facts_n (X : K.In h) (G : h.Ns mainGlobals mg) (c : Sn K) (hf : P.main.file = fl) (hs : (P.main.scope.names.lookup ("super" : Str)).isSome = false) : ∃ fN fdN, NpTxt P K (npC K) fN fdN ∧ Binds K fdN ["self", "years"] [] ∧ mg "NoPlan" = some (.ref (npC K)) := by
  have h1 := c.more
  rw [← hf] at h1
  obtain ⟨fd, T, b, e⟩ := npB_ok h1 c.obs hs
  exact ⟨_, fd, T, b, PySem.W.mg_of X G e⟩
theorem calls_n (X : K.In h) (G : h.Ns mainGlobals mg) (c : Sn K) (hf : P.main.file = fl) (hs : (P.main.scope.names.lookup ("super" : Str)).isSome = false) : Calls P w K mg base (cP K) (npC K) := by
  obtain ⟨fN, fdN, TN, bN, gN⟩ := facts_n (P := P) X G c hf hs
  have gs : mg "super" = none := He.free_ok X G (c.t.fact 25 (f := .free "super") rfl)
  have g := glo_n X G c
  have T := ptxt_n X G c
  have gPe : ∃ t, mg "MOST_PEOPLE" = some (.int 24 t) := He.int_ok X G (c.t.fact 8 (f := .int "MOST_PEOPLE" 24) rfl)
  have gBa : ∃ t, mg "MOST_BARRED" = some (.int 600 t) := He.int_ok X G (c.t.fact 9 (f := .int "MOST_BARRED" 600) rfl)
  have gYe : ∃ t, mg "MOST_YEARS" = some (.int 24 t) := He.int_ok X G (c.t.fact 10 (f := .int "MOST_YEARS" 24) rfl)
  have gLe : ∃ t, mg "LETTERS" = some (.str letters t) := He.str_ok X G (c.t.fact 11 (f := .str "LETTERS" "abcdefghijklmnopqrstuvwxyz") rfl)
  have isName := ok_is_name (P := P) (w := w) (base := base) (d_is_name X G c) g gLe
  have isPerson := ok_is_person (P := P) (w := w) (base := base) (d_is_person X G c) g
  have diff := ok_are_different (d_are_different X G c) g isPerson
  have isPair := ok_is_pair (d_is_pair X G c) g diff
  have cPeople := ok_check_people (d_check_people X G c) g gPe isName
  have cPairs := ok_check_pairs (d_check_pairs X G c) g gBa isPair
  have cName := ok_check_name (d_check_name X G c) isPerson
  have init := ok_pinit (m_init c) T cPeople cPairs
  have people := ok_people (P := P) (w := w) (mg := mg) (base := base) (m_people c) T
  have plen := ok_plen (P := P) (w := w) (base := base) (m_len c) T g
  have has := ok_has (m_contains c) T isPair
  have may := ok_may (m_may c) T g cName has
  have rows := ok_party_rows (d_party_rows X G c) T may people
  have noC := ok_no_choice (P := P) (w := w) (base := base) (d_no_choice X G c)
  have seek := ok_seek (P := P) (w := w) (base := base) (d_seek X G c)
  have paired := ok_paired (d_paired X G c) seek
  have flow := ok_flow_way (P := P) (w := w) (base := base) (d_flow_way X G c) g
  have push := ok_push (P := P) (w := w) (base := base) (d_push X G c)
  have spread := ok_spread (d_spread X G c) g flow push
  have most := ok_most_of (d_most_of X G c) noC spread
  have apart := ok_taken_apart (d_taken_apart X G c) g paired
  have planOf := ok_plan_of (d_plan_of X G c) noC spread apart
  have isInt := ok_is_integer (P := P) (w := w) (base := base) (d_is_integer X G c) g
  have cYears := ok_check_years (d_check_years X G c) gYe isInt
  have mostY := ok_most_years (d_most_years X G c) rows most
  have bar := ok_bar (d_bar X G c) cYears rows noC spread
  have lot := ok_is_sorted_lot (d_is_sorted_lot X G c) g T people diff
  have isDr := ok_is_drawing (d_is_drawing X G c) g T people plen has
  have planF := ok_plan_fault (d_plan_fault X G c) g isDr
  have barF := ok_bar_fault (d_bar_fault X G c) g cYears lot plen has
  have plan := ok_plan (d_plan X G c) TN gN gs cYears rows most planOf bN
  have lawPlan := ok_law_plan (d_law_plan X G c) TN gN plan
  have lawRows := ok_law_rows (P := P) (w := w) (base := base) (d_law_rows X G c) g
  have lawDr := ok_law_is_drawing (P := P) (w := w) (base := base) (d_law_is_drawing X G c) g
  have lawPl := ok_law_is_plan (d_law_is_plan X G c) g lawDr
  have lawLot := ok_law_is_lot (P := P) (w := w) (base := base) (d_law_is_lot X G c) g
  have lawBar := ok_law_is_bar (d_law_is_bar X G c) g lawLot
  have eqS := ok_law_equal (P := P) (w := w) (base := base) (d_law_equal X G c) g
  have eqT := ok_law_equalT (d_law_equal X G c) g eqS
  have cell := ok_law_cell (P := P) (w := w) (base := base) (d_law_cell X G c) g
  have draws := ok_law_draws (P := P) (w := w) (base := base) (d_law_draws X G c) g
  have lPeople := ok_law_people (d_law_people X G c) g draws
  have lBarred := ok_law_barred (d_law_barred X G c) g draws
  obtain ⟨fI, fdI, mI, bI, GI⟩ := init.ex
  have M := He.mkr_ok (c.t.fact 3 (f := .mkr "Party") rfl)
  exact ⟨g, T, cell, draws, lPeople, lBarred, ⟨fI, fdI, ⟨M.makes, mI.at_, mI.fn, M.kp⟩, bI, GI⟩, lawRows, mostY, lawPlan, bar, lawPl, lawBar, eqS, eqT, planF, barF, plan⟩
theorem law_n {f : Addr} (X : K.In h) (G : h.Ns mainGlobals mg) (hfa : mg ("law" : Str) = some (.ref f)) (c : Sn K) (hf : P.main.file = fl) (hs : (P.main.scope.names.lookup ("super" : Str)).isSome = false) :
    ∃ fd : FuncData, (∀ (s : Shared) (v : Value), BindsTo s fd ⟨[v], []⟩ [("_law_script", v)]) ∧ ∀ base : Heap, K.In base → base.Ns mainGlobals mg → FnOk P w K mg base CX0 16 f fd ["_law_script"] (spLaw K) := by
  obtain ⟨f', fd, F, gf⟩ := d_law X G c
  have e := hfa.symm.trans gf
  cases e
  have b := FunD.bindsA (ps := ["_law_script"]) F fun _ _ _ _ _ _ us hl => match us, hl with | [_], _ => rfl
  exact ⟨fd, fun s v => b s [v] rfl, fun base _ _ => ok_law F (calls_n X G c hf hs)⟩
end
end K56
open PySem PySem.W PySem.Calls PyProof.Rows
theorem PySem.Challenge.cw_giftrings_k56_whole_plan_or_bar_holds : PySem.Challenge.rw_giftrings_k56_whole_plan_or_bar.Holds := by
  w_on; o_law
  refine HandSHeadRun.head_any (r := OpenLaw.row PySem.Challenge.rw_giftrings_k56_whole_plan_or_bar) (q := view (OpenLaw.row PySem.Challenge.rw_giftrings_k56_whole_plan_or_bar).prog [56]) (H := K56.hk) (ob := K56.ob) (M := 4000) (loose := K56.names) (d := HandSHeadRun.topDef (OpenLaw.row PySem.Challenge.rw_giftrings_k56_whole_plan_or_bar).prog 56) (kwd := []) K56.ob_eq
    (by kernel_rfl) (fun s => by kernel_rfl) K56.run (by kernel_rfl) (by kernel_rfl) (by kernel_rfl) (by rfl) (by first | assumption | decide +kernel) (by decide +kernel) ⟨rfl, rfl, rfl, rfl, rfl, by decide +kernel⟩ ?hw ?hc
  case hw => w_witness2
  case hc =>
    refine L2.walk_ofE (l := PySem.Challenge.rw_giftrings_k56_whole_plan_or_bar) (n := 63) (k := 16) (x := "_law_script") (CX := L2.CX0) rfl (by decide) (by kernel_rfl) ⟨rfl, by decide, by decide⟩ ?F (fun _ _ _ _ z => z)
    intro w mg fa h Y G hmg0
    obtain ⟨K, KX, c⟩ := Y
    have hmg : mg ("law" : PySem.Str) = some (.ref fa) := by
      have e : (HandSHeadRun.topDef (OpenLaw.row PySem.Challenge.rw_giftrings_k56_whole_plan_or_bar).prog 56).name = ("law" : PySem.Str) := by kernel_rfl
      rw [← e]
      exact hmg0
    obtain ⟨fd, hb, hF⟩ := K56.law_n (P := (PySem.Challenge.rw_giftrings_k56_whole_plan_or_bar).prog) (w := w) KX G hmg c rfl (by decide +kernel)
    exact ⟨K, fd, K56.spLaw K, KX, hb, fun H a ns hl _ hS => ⟨a, ns, rfl, hS, fun _ => rfl⟩, hF⟩
