import PyProof.Rows.All
import Wide.All
import OpenK.AllK
import Wide.FinOn
import HandS.ForMost
import HandS.ForExc
import HandS.More
import HandS.Conv
import HandS.Deep
import HandS.Walk
import HandS.DictComp
import HandS.Wide
import HandS.IsInst
import HandS.Set
import HandS.SetFor
import HandS.Strs
import KE.LtData
import KE.DatumOrd
import HandS.ExcInit
import HandS.ExcField
import HandS.WordsExc
import HandS.Style
import HandS.WordsDict
import HandS.NoneIn
import KE.KSortKey
import HandS.SortOrd
import HandS.Lambda
import HandS.Keys
import HandS.TryMany
import PyProof.NeData
import HandS.ListItems
import KE.KDictZip
import KE.KItemsList
import HandS.Finally
import KE.KDictList
import PyProof.DictUpdate
import PyProof.DictValues
import KE.KStateDown
import HandS.Head0
import HandS.Head1
import HandS.Head2
import HandS.HeadEnd
import HandS.HeadHook1
import HandS.HeadHook2
import HandS.HeadHook3
import HandS.HeadHook4
import HandS.HeadWalk
import HandS.EndTab
import PySem.Challenge.RW_linklines_k52_whole_numbers_and_lines
set_option Elab.async false
set_option linter.all false
/-! plain lists: ascending lists, rows, ranks -/
namespace WM
section
variable {α : Type} [DecidableEq α]

/-- a strict total order -/
structure Lin (lt : α → α → Bool) : Prop where
  irr : ∀ a, lt a a = false
  tr : ∀ a b c, lt a b = true → lt b c = true → lt a c = true
  tot : ∀ a b, a ≠ b → lt a b = true ∨ lt b a = true

variable {lt : α → α → Bool}
theorem Lin.asy (O : Lin lt) {a b : α} (h : lt a b = true) : lt b a = false := by
  cases e : lt b a with
  | false => rfl
  | true => have := O.tr _ _ _ h e; rw [O.irr] at this; cases this
theorem Lin.ne (O : Lin lt) {a b : α} (h : lt a b = true) : a ≠ b := by
  rintro rfl; rw [O.irr] at h; cases h
theorem Lin.eq_of (O : Lin lt) {a b : α} (h1 : lt a b = false) (h2 : lt b a = false) : a = b := by
  by_cases e : a = b
  · exact e
  · rcases O.tot a b e with h | h
    · rw [h] at h1; cases h1
    · rw [h] at h2; cases h2

def Asc (lt : α → α → Bool) (l : List α) : Prop := l.Pairwise fun a b => lt a b = true
theorem Asc.nodup (O : Lin lt) {l : List α} (h : Asc lt l) : l.Nodup := List.Pairwise.imp (fun {a b} h => O.ne h) h
theorem Asc.filter {l : List α} (p : α → Bool) (h : Asc lt l) : Asc lt (l.filter p) := List.Pairwise.filter p h
theorem asc_ext (O : Lin lt) : ∀ {l m : List α}, Asc lt l → Asc lt m → (∀ x, x ∈ l ↔ x ∈ m) → l = m
  | [], [], _, _, _ => rfl
  | [], b :: m, _, _, h => absurd ((h b).2 List.mem_cons_self) (by simp)
  | a :: l, [], _, _, h => absurd ((h a).1 List.mem_cons_self) (by simp)
  | a :: l, b :: m, hl, hm, h => by
    obtain ⟨l1, l2⟩ := List.pairwise_cons.mp hl
    obtain ⟨m1, m2⟩ := List.pairwise_cons.mp hm
    have e : a = b := by
      rcases List.mem_cons.mp ((h a).1 List.mem_cons_self) with e | e
      · exact e
      · rcases List.mem_cons.mp ((h b).2 List.mem_cons_self) with e' | e'
        · exact e'.symm
        · have p1 := l1 b e'
          have p2 := m1 a e
          have := O.asy p1
          rw [p2] at this; cases this
    subst e
    refine congrArg (a :: ·) (asc_ext O l2 m2 fun x => ?_)
    constructor
    · intro hx
      rcases List.mem_cons.mp ((h x).1 (List.mem_cons_of_mem _ hx)) with e | e
      · subst e; exact absurd (l1 x hx) (by rw [O.irr]; simp)
      · exact e
    · intro hx
      rcases List.mem_cons.mp ((h x).2 (List.mem_cons_of_mem _ hx)) with e | e
      · subst e; exact absurd (m1 x hx) (by rw [O.irr]; simp)
      · exact e
theorem asc_perm (O : Lin lt) {l m : List α} (hl : Asc lt l) (hm : Asc lt m) (p : l.Perm m) : l = m := asc_ext O hl hm fun x => p.mem_iff
/-- a weakly ascending list without twins -/
theorem asc_of_weak (O : Lin lt) {l : List α} (h : l.Pairwise fun a b => lt b a = false) (n : l.Nodup) : Asc lt l := by
  refine List.Pairwise.imp₂ ?_ h n
  intro a b h1 h2
  rcases O.tot a b h2 with h | h
  · exact h
  · rw [h] at h1; cases h1

/-! ### sort -/
def ins (lt : α → α → Bool) (x : α) : List α → List α
  | [] => [x]
  | y :: l => if lt x y = true then x :: y :: l else y :: ins lt x l
def srt (lt : α → α → Bool) (l : List α) : List α := l.foldr (ins lt) []
theorem ins_perm (x : α) : ∀ l : List α, (ins lt x l).Perm (x :: l)
  | [] => List.Perm.refl _
  | y :: l => by
    unfold ins
    split
    · exact List.Perm.refl _
    · exact (List.Perm.cons y (ins_perm x l)).trans (List.Perm.swap x y l)
theorem srt_perm : ∀ l : List α, (srt lt l).Perm l
  | [] => List.Perm.refl _
  | x :: l => (ins_perm x _).trans (List.Perm.cons x (srt_perm l))
theorem ins_weak (O : Lin lt) (x : α) : ∀ {l : List α}, l.Pairwise (fun a b => lt b a = false) → (ins lt x l).Pairwise fun a b => lt b a = false
  | [], _ => List.pairwise_singleton _ _
  | y :: l, h => by
    obtain ⟨h1, h2⟩ := List.pairwise_cons.mp h
    unfold ins
    split
    · rename_i hxy
      refine List.pairwise_cons.mpr ⟨fun z hz => ?_, h⟩
      rcases List.mem_cons.mp hz with e | e
      · subst e; exact O.asy hxy
      · have hyz := h1 z e
        cases hzx : lt z x with
        | false => rfl
        | true => have := O.tr _ _ _ hzx hxy; rw [this] at hyz; cases hyz
    · rename_i hxy
      refine List.pairwise_cons.mpr ⟨fun z hz => ?_, ins_weak O x h2⟩
      rcases List.mem_cons.mp ((ins_perm x l).mem_iff.mp hz) with e | e
      · subst e; simpa using hxy
      · exact h1 z e
theorem srt_weak (O : Lin lt) : ∀ l : List α, (srt lt l).Pairwise fun a b => lt b a = false
  | [] => List.Pairwise.nil
  | x :: l => ins_weak O x (srt_weak O l)
theorem srt_asc (O : Lin lt) {l : List α} (n : l.Nodup) : Asc lt (srt lt l) := asc_of_weak O (srt_weak O l) ((srt_perm l).nodup_iff.mpr n)
theorem eq_srt (O : Lin lt) {l m : List α} (n : m.Nodup) (p : l.Perm m) (h : l.Pairwise fun a b => lt b a = false) : l = srt lt m :=
  asc_perm O (asc_of_weak O h (p.nodup_iff.mpr n)) (srt_asc O n) (p.trans (srt_perm m).symm)
end
end WM

namespace WM
section
variable {α : Type} [DecidableEq α] {lt : α → α → Bool}
/-! ### lists in the order of their first unlike items -/
def llt (lt : α → α → Bool) : List α → List α → Bool
  | [], [] => false
  | [], _ :: _ => true
  | _ :: _, [] => false
  | a :: l, b :: m => if a = b then llt lt l m else lt a b
theorem llt_cons (a : α) (l m : List α) : llt lt (a :: l) (a :: m) = llt lt l m := by simp [llt]
theorem llt_pre : ∀ (r l m : List α), llt lt (r ++ l) (r ++ m) = llt lt l m
  | [], _, _ => rfl
  | a :: r, l, m => by
    rw [List.cons_append, List.cons_append, llt_cons, llt_pre r l m]
theorem llt_head (O : Lin lt) {a b : α} {l m : List α} (h : lt a b = true) : llt lt (a :: l) (b :: m) = true := by
  simp [llt, O.ne h, h]
theorem llt_lin (O : Lin lt) : Lin (llt lt) where
  irr := fun l => by
    induction l with
    | nil => rfl
    | cons a l ih => rw [llt_cons]; exact ih
  tr := fun l => by
    induction l with
    | nil =>
      intro m k h1 h2
      cases k with
      | nil =>
        cases m with
        | nil => exact h1
        | cons _ _ => cases h2
      | cons _ _ => rfl
    | cons a l ih =>
      intro m k h1 h2
      cases m with
      | nil => cases h1
      | cons b m =>
        cases k with
        | nil => cases h2
        | cons c k =>
          by_cases e1 : a = b
          · subst e1
            rw [llt_cons] at h1
            by_cases e2 : a = c
            · subst e2
              rw [llt_cons] at h2 ⊢
              exact ih m k h1 h2
            · simp only [llt, if_neg e2] at h2 ⊢
              exact h2
          · simp only [llt, if_neg e1] at h1
            by_cases e2 : b = c
            · subst e2
              simp only [llt, if_neg e1]
              exact h1
            · simp only [llt, if_neg e2] at h2
              exact llt_head O (O.tr _ _ _ h1 h2)
  tot := fun l => by
    induction l with
    | nil =>
      intro m h
      cases m with
      | nil => exact absurd rfl h
      | cons _ _ => exact .inl rfl
    | cons a l ih =>
      intro m h
      cases m with
      | nil => exact .inr rfl
      | cons b m =>
        by_cases e : a = b
        · subst e
          rw [llt_cons, llt_cons]
          exact ih m fun z => h (by rw [z])
        · rcases O.tot a b e with z | z
          · exact .inl (llt_head O z)
          · exact .inr (llt_head O z)
/-- the least of an ascending list with a property -/
theorem find_least (O : Lin lt) {p : α → Bool} : ∀ {L : List α} {m : α}, Asc lt L → m ∈ L → p m = true → (∀ x ∈ L, p x = true → lt x m = false) → L.find? p = some m
  | a :: L, m, h, hm, pm, hl => by
    obtain ⟨h1, h2⟩ := List.pairwise_cons.mp h
    by_cases pa : p a = true
    · rw [List.find?_cons_of_pos pa]
      rcases List.mem_cons.mp hm with e | e
      · rw [e]
      · have := hl a List.mem_cons_self pa
        rw [h1 m e] at this; cases this
    · rw [List.find?_cons_of_neg pa]
      rcases List.mem_cons.mp hm with e | e
      · rw [e] at pm; exact absurd pm pa
      · exact find_least O h2 e pm fun x hx => hl x (List.mem_cons_of_mem _ hx)

/-! ### rows -/
def more (S row : List α) : List (List α) := (S.filter fun w => decide (w ∉ row)).map fun w => row ++ [w]
def rowsT (S : List α) : Nat → List (List α)
  | 0 => [[]]
  | k + 1 => (rowsT S k).flatMap (more S)
theorem mem_more {S row r : List α} : r ∈ more S row ↔ ∃ w, w ∈ S ∧ w ∉ row ∧ r = row ++ [w] := by
  unfold more
  rw [List.mem_map]
  constructor
  · rintro ⟨w, hw, e⟩
    obtain ⟨h1, h2⟩ := List.mem_filter.mp hw
    exact ⟨w, h1, of_decide_eq_true h2, e.symm⟩
  · rintro ⟨w, h1, h2, e⟩
    exact ⟨w, List.mem_filter.mpr ⟨h1, decide_eq_true h2⟩, e.symm⟩
theorem mem_rows {S : List α} : ∀ {k : Nat} {r : List α}, r ∈ rowsT S k ↔ r.length = k ∧ r.Nodup ∧ ∀ x ∈ r, x ∈ S
  | 0, r => by
    unfold rowsT
    rw [List.mem_singleton]
    constructor
    · rintro rfl
      exact ⟨rfl, List.nodup_nil, fun x hx => absurd hx (by simp)⟩
    · rintro ⟨h, _, _⟩
      exact List.eq_nil_of_length_eq_zero h
  | k + 1, r => by
    unfold rowsT
    rw [List.mem_flatMap]
    constructor
    · rintro ⟨row, h1, h2⟩
      obtain ⟨w, hw, hn, rfl⟩ := mem_more.mp h2
      obtain ⟨a, b, c⟩ := mem_rows.mp h1
      refine ⟨by simp [a], ?_, fun x hx => ?_⟩
      · rw [List.nodup_append]
        refine ⟨b, by simp, ?_⟩
        intro x hx y hy e
        rw [List.mem_singleton] at hy
        subst hy; subst e
        exact hn hx
      · rcases List.mem_append.mp hx with hx | hx
        · exact c x hx
        · rw [List.mem_singleton.mp hx]; exact hw
    · rintro ⟨a, b, c⟩
      rcases List.eq_nil_or_concat r with e | ⟨row, w, e⟩
      · subst e; simp at a
      · rw [List.concat_eq_append] at e
        subst e
        obtain ⟨b1, b2, b3⟩ := List.nodup_append.mp b
        refine ⟨row, mem_rows.mpr ⟨by simpa using a, b1, fun x hx => c x (List.mem_append_left _ hx)⟩, mem_more.mpr ⟨w, c w (by simp), fun hw => b3 w hw w (by simp) rfl, rfl⟩⟩
theorem more_asc (O : Lin lt) {S row : List α} (h : Asc lt S) : Asc (llt lt) (more S row) := by
  unfold more
  unfold Asc
  rw [List.pairwise_map]
  refine List.Pairwise.imp (fun {a b} z => ?_) (Asc.filter _ h)
  rw [llt_pre]
  exact llt_head O z
theorem llt_len (O : Lin lt) : ∀ {l m : List α}, l.length = m.length → llt lt l m = true → ∀ a b, llt lt (l ++ a) (m ++ b) = true
  | [], [], _, h, _, _ => by cases h
  | x :: l, y :: m, e, h, a, b => by
    by_cases q : x = y
    · subst q
      rw [llt_cons] at h
      rw [List.cons_append, List.cons_append, llt_cons]
      exact llt_len O (by simpa using e) h a b
    · simp only [llt, if_neg q] at h
      exact llt_head O h
theorem rows_asc (O : Lin lt) {S : List α} (h : Asc lt S) : ∀ k, Asc (llt lt) (rowsT S k)
  | 0 => List.pairwise_singleton _ _
  | k + 1 => by
    have ih := rows_asc O h k
    have hl : ∀ r ∈ rowsT S k, r.length = k := fun r hr => (mem_rows.mp hr).1
    unfold rowsT
    revert ih hl
    generalize rowsT S k = L
    intro ih hl
    induction L with
    | nil => exact List.Pairwise.nil
    | cons r L ih2 =>
      obtain ⟨h1, h2⟩ := List.pairwise_cons.mp ih
      rw [List.flatMap_cons]
      unfold Asc
      rw [List.pairwise_append]
      refine ⟨more_asc O h, ih2 h2 fun r hr => hl r (List.mem_cons_of_mem _ hr), fun x hx y hy => ?_⟩
      obtain ⟨r', hr', hy'⟩ := List.mem_flatMap.mp hy
      obtain ⟨a, _, _, rfl⟩ := mem_more.mp hx
      obtain ⟨b, _, _, rfl⟩ := mem_more.mp hy'
      exact llt_len O ((hl r List.mem_cons_self).trans (hl r' (List.mem_cons_of_mem _ hr')).symm) (h1 r' hr') _ _

/-! ### the least line in which t stands ahead of o -/
/-- o put right behind t -/
def behindT (o t : α) : List α → List α
  | [] => [o]
  | x :: l => if x = t then t :: o :: l else x :: behindT o t l
/-- t stands ahead of o -/
def Ahead (t o : α) (l : List α) : Prop := ∃ A B C, l = A ++ t :: (B ++ o :: C)
theorem asc_least (O : Lin lt) : ∀ {S l : List α}, Asc lt S → l.Perm S → llt lt l S = false
  | [], l, _, p => by rw [p.eq_nil]; rfl
  | s :: S, l, h, p => by
    obtain ⟨h1, h2⟩ := List.pairwise_cons.mp h
    cases l with
    | nil => exact absurd p.symm.eq_nil (by simp)
    | cons x l =>
      by_cases e : x = s
      · subst e
        rw [llt_cons]
        exact asc_least O h2 (List.Perm.cons_inv p)
      · have hx : x ∈ s :: S := p.mem_iff.mp List.mem_cons_self
        rcases List.mem_cons.mp hx with q | q
        · exact absurd q e
        · simp only [llt, if_neg e]
          exact O.asy (h1 x q)
theorem Ahead.tail {t o x : α} {l : List α} (h : Ahead t o (x :: l)) (hx : x ≠ t) : Ahead t o l := by
  obtain ⟨A, B, C, e⟩ := h
  cases A with
  | nil => simp at e; exact absurd e.1 hx
  | cons a A => simp at e; exact ⟨A, B, C, e.2⟩
theorem Ahead.head {t o x : α} {l : List α} (h : Ahead t o (x :: l)) (n : (x :: l).Nodup) : x ≠ o := by
  rintro rfl
  obtain ⟨A, B, C, e⟩ := h
  cases A with
  | nil =>
    simp only [List.nil_append, List.cons.injEq] at e
    rw [e.2] at n
    exact (List.nodup_cons.mp n).1 (by simp)
  | cons a A =>
    simp only [List.cons_append, List.cons.injEq] at e
    rw [e.2] at n
    exact (List.nodup_cons.mp n).1 (by simp)
/-- o put behind t in an ascending list that lacks o: the least of all with t ahead of o -/
theorem behindT_least (O : Lin lt) {o t : α} (hot : o ≠ t) : ∀ {S l : List α}, Asc lt S → (∀ x ∈ S, lt o x = true) → l.Perm (o :: S) → Ahead t o l → l.Nodup → llt lt l (behindT o t S) = false
  | [], l, _, _, p, ha, _ => by
    obtain ⟨A, B, C, e⟩ := ha
    have : t ∈ l := by rw [e]; simp
    have := p.mem_iff.mp this
    rw [List.mem_singleton] at this
    exact absurd this.symm hot
  | s :: S, l, h, ho, p, ha, n => by
    obtain ⟨h1, h2⟩ := List.pairwise_cons.mp h
    cases l with
    | nil => exact absurd p.symm.eq_nil (by simp)
    | cons x l =>
      have xo : x ≠ o := ha.head n
      have hx : x ∈ s :: S := (List.mem_cons.mp (p.mem_iff.mp List.mem_cons_self)).resolve_left xo
      unfold behindT
      by_cases e : x = s
      · subst e
        have p2 : l.Perm (o :: S) := by
          have q : (x :: l).Perm (x :: o :: S) := p.trans (List.Perm.swap x o S)
          exact List.Perm.cons_inv q
        by_cases et : x = t
        · rw [if_pos et, ← et, llt_cons]
          have hasc : Asc lt (o :: S) := List.pairwise_cons.mpr ⟨fun y hy => ho y (List.mem_cons_of_mem _ hy), h2⟩
          exact asc_least O hasc p2
        · rw [if_neg et, llt_cons]
          exact behindT_least O hot h2 (fun y hy => ho y (List.mem_cons_of_mem _ hy)) p2 (ha.tail et) (List.nodup_cons.mp n).2
      · have hx2 : x ∈ S := (List.mem_cons.mp hx).resolve_left e
        have z : lt x s = false := O.asy (h1 x hx2)
        split
        · rename_i q
          have e2 : x ≠ t := fun w => e (w.trans q.symm)
          simp only [llt, if_neg e2]
          rw [← q]; exact z
        · simp only [llt, if_neg e]
          exact z
/-- the line that is told for a pair o, t of one number, o < t -/
def lineOf (o t : α) (S : List α) : List α := behindT o t (S.filter fun w => decide (w ≠ o))
theorem filter_out {o : α} : ∀ {S : List α}, o ∉ S → (S.filter fun w => decide (w ≠ o)) = S := fun {S} h => by
  rw [List.filter_eq_self]
  intro x hx
  exact decide_eq_true fun e => h (e ▸ hx)
theorem lineOf_least (O : Lin lt) {o t : α} (hot : lt o t = true) : ∀ {S l : List α}, Asc lt S → o ∈ S → l.Perm S → Ahead t o l → llt lt l (lineOf o t S) = false
  | s :: S, l, h, ho, p, ha => by
    obtain ⟨h1, h2⟩ := List.pairwise_cons.mp h
    have n : l.Nodup := p.nodup_iff.mpr (Asc.nodup O h)
    unfold lineOf
    by_cases e : s = o
    · subst e
      have hn : s ∉ S := fun z => by have := h1 s z; rw [O.irr] at this; cases this
      rw [List.filter_cons_of_neg (by simp), filter_out hn]
      exact behindT_least O (O.ne hot) h2 h1 p ha n
    · rw [List.filter_cons_of_pos (by simpa using e)]
      have ho2 : o ∈ S := (List.mem_cons.mp ho).resolve_left fun z => e z.symm
      have st : s ≠ t := fun z => by
        subst z
        have := O.asy (h1 o ho2); rw [hot] at this; cases this
      unfold behindT
      rw [if_neg st]
      cases l with
      | nil => exact absurd p.symm.eq_nil (by simp)
      | cons x l =>
        by_cases ex : x = s
        · subst ex
          rw [llt_cons]
          exact lineOf_least O hot h2 ho2 (List.Perm.cons_inv p) (ha.tail st)
        · have hx : x ∈ S := (List.mem_cons.mp (p.mem_iff.mp List.mem_cons_self)).resolve_left ex
          simp only [llt, if_neg ex]
          exact O.asy (h1 x hx)
theorem behindT_perm {o t : α} : ∀ {S : List α}, (behindT o t S).Perm (o :: S)
  | [] => List.Perm.refl _
  | x :: S => by
    unfold behindT
    split
    · rename_i e; subst e; exact List.Perm.swap o x S
    · exact (List.Perm.cons x behindT_perm).trans (List.Perm.swap o x S)
theorem behindT_ahead {o t : α} : ∀ {S : List α}, t ∈ S → Ahead t o (behindT o t S)
  | x :: S, h => by
    unfold behindT
    by_cases e : x = t
    · rw [if_pos e]; exact ⟨[], [], S, rfl⟩
    · rw [if_neg e]
      obtain ⟨A, B, C, q⟩ := behindT_ahead (o := o) ((List.mem_cons.mp h).resolve_left fun z => e z.symm)
      exact ⟨x :: A, B, C, by rw [q]; rfl⟩
theorem filter_perm {o : α} : ∀ {S : List α}, S.Nodup → o ∈ S → (o :: S.filter fun w => decide (w ≠ o)).Perm S
  | s :: S, n, h => by
    obtain ⟨n1, n2⟩ := List.nodup_cons.mp n
    by_cases e : s = o
    · subst e
      rw [List.filter_cons_of_neg (by simp), filter_out n1]
    · rw [List.filter_cons_of_pos (by simpa using e)]
      exact (List.Perm.swap s o _).trans (List.Perm.cons s (filter_perm n2 ((List.mem_cons.mp h).resolve_left fun z => e z.symm)))
theorem lineOf_perm {o t : α} {S : List α} (n : S.Nodup) (ho : o ∈ S) : (lineOf o t S).Perm S := behindT_perm.trans (filter_perm n ho)
theorem lineOf_ahead {o t : α} {S : List α} (ht : t ∈ S) (h : o ≠ t) : Ahead t o (lineOf o t S) :=
  behindT_ahead (List.mem_filter.mpr ⟨ht, decide_eq_true fun e => h e.symm⟩)
end
end WM

namespace WM
/-! ### the greatest of 0 and some numbers -/
def mx0 : List Int → Int
  | [] => 0
  | a :: l => max a (mx0 l)
theorem mx0_nn : ∀ l : List Int, 0 ≤ mx0 l
  | [] => by simp [mx0]
  | a :: l => by have := mx0_nn l; simp only [mx0]; omega
theorem mx0_ge : ∀ {l : List Int} {x : Int}, x ∈ l → x ≤ mx0 l
  | a :: l, x, h => by
    simp only [mx0]
    rcases List.mem_cons.mp h with e | e
    · omega
    · have := mx0_ge e; omega
theorem mx0_mem : ∀ (l : List Int), mx0 l = 0 ∨ mx0 l ∈ l
  | [] => .inl rfl
  | a :: l => by
    simp only [mx0]
    rcases Int.le_total a (mx0 l) with h | h
    · rw [Int.max_eq_right h]
      rcases mx0_mem l with e | e
      · exact .inl e
      · exact .inr (List.mem_cons_of_mem _ e)
    · rw [Int.max_eq_left h]; exact .inr List.mem_cons_self
theorem mx0_le {l : List Int} {b : Int} (h0 : 0 ≤ b) (h : ∀ x ∈ l, x ≤ b) : mx0 l ≤ b := by
  rcases mx0_mem l with e | e
  · omega
  · exact h _ e
theorem mx0_eq {l : List Int} {m : Int} (hm : m ∈ (0 : Int) :: l) (h : ∀ x ∈ (0 : Int) :: l, x ≤ m) : m = mx0 l := by
  have h0 : 0 ≤ m := h 0 List.mem_cons_self
  have h1 := mx0_le h0 fun x hx => h x (List.mem_cons_of_mem _ hx)
  rcases List.mem_cons.mp hm with e | e
  · have := mx0_nn l; omega
  · have := mx0_ge e; omega
theorem mx0_congr {l m : List Int} (h : ∀ x, x ∈ l ↔ x ∈ m) : mx0 l = mx0 m := by
  have a := mx0_le (mx0_nn m) fun x hx => mx0_ge ((h x).1 hx)
  have b := mx0_le (mx0_nn l) fun x hx => mx0_ge ((h x).2 hx)
  omega
section
variable {α : Type} [DecidableEq α] {lt : α → α → Bool}
/-! ### numbers that grow along pairs -/
def preds (P : List (α × α)) (w : α) : List α := (P.filter fun p => decide (p.2 = w)).map (·.1)
theorem mem_preds {P : List (α × α)} {w o : α} : o ∈ preds P w ↔ (o, w) ∈ P := by
  unfold preds
  rw [List.mem_map]
  constructor
  · rintro ⟨p, hp, rfl⟩
    obtain ⟨h1, h2⟩ := List.mem_filter.mp hp
    have e := of_decide_eq_true h2
    rw [← e]; exact h1
  · intro h
    exact ⟨(o, w), List.mem_filter.mpr ⟨h, decide_eq_true rfl⟩, rfl⟩
/-- k rounds of: one more than the greatest ahead -/
def Lf (P : List (α × α)) : Nat → α → Int
  | 0, _ => 0
  | k + 1, w => mx0 ((preds P w).map fun o => Lf P k o + 1)
/-- pairs that climb, below n -/
def Ranked (P : List (α × α)) (n : Nat) (rk : α → Nat) : Prop := ∀ p ∈ P, rk p.1 < rk p.2 ∧ rk p.2 < n
theorem Lf_nn (P : List (α × α)) : ∀ k w, 0 ≤ Lf P k w
  | 0, _ => Int.le_refl _
  | _ + 1, _ => mx0_nn _
theorem map_congr_mem {β : Type} {l : List α} {f g : α → β} (h : ∀ x ∈ l, f x = g x) : l.map f = l.map g := List.map_congr_left h
theorem Lf_step {P : List (α × α)} {n : Nat} {rk : α → Nat} (R : Ranked P n rk) : ∀ k w, rk w ≤ k → Lf P (k + 1) w = Lf P k w
  | 0, w, h => by
    have e : preds P w = [] := by
      refine List.eq_nil_iff_forall_not_mem.mpr fun o ho => ?_
      have := (R _ (mem_preds.mp ho)).1
      simp only at this; omega
    simp [Lf, e, mx0]
  | k + 1, w, h => by
    show mx0 _ = mx0 _
    congr 1
    refine map_congr_mem fun o ho => ?_
    have := (R _ (mem_preds.mp ho)).1
    simp only at this
    rw [Lf_step R k o (by omega)]
theorem Lf_fix {P : List (α × α)} {n : Nat} {rk : α → Nat} (R : Ranked P n rk) (w : α) : Lf P n w = mx0 ((preds P w).map fun o => Lf P n o + 1) := by
  by_cases h : ∃ o, (o, w) ∈ P
  · obtain ⟨o, ho⟩ := h
    have := (R _ ho).2
    simp only at this
    exact (Lf_step R n w (by omega)).symm
  · have e : preds P w = [] := List.eq_nil_iff_forall_not_mem.mpr fun o ho => h ⟨o, mem_preds.mp ho⟩
    cases n with
    | zero => simp [Lf, e, mx0]
    | succ n => simp [Lf, e, mx0]
theorem Lf_lt {P : List (α × α)} {n : Nat} {rk : α → Nat} (R : Ranked P n rk) {a b : α} (h : (a, b) ∈ P) : Lf P n a + 1 ≤ Lf P n b := by
  rw [Lf_fix R b]
  exact mx0_ge (List.mem_map.mpr ⟨a, mem_preds.mpr h, rfl⟩)
theorem Lf_pred {P : List (α × α)} {n : Nat} {rk : α → Nat} (R : Ranked P n rk) {b : α} (h : 0 < Lf P n b) : ∃ a, (a, b) ∈ P ∧ Lf P n b = Lf P n a + 1 := by
  have e := Lf_fix R b
  rcases mx0_mem ((preds P b).map fun o => Lf P n o + 1) with z | z
  · omega
  · rw [← e] at z
    obtain ⟨a, ha, q⟩ := List.mem_map.mp z
    exact ⟨a, mem_preds.mp ha, q.symm⟩
theorem Lf_le {P : List (α × α)} {n : Nat} {rk : α → Nat} (R : Ranked P n rk) : ∀ (k : Nat) (w : α), rk w ≤ k → Lf P n w ≤ (rk w : Int) := by
  intro k
  induction k with
  | zero =>
    intro w h
    rw [Lf_fix R w]
    refine mx0_le (by omega) fun x hx => ?_
    obtain ⟨o, ho, rfl⟩ := List.mem_map.mp hx
    have := (R _ (mem_preds.mp ho)).1
    simp only at this; omega
  | succ k ih =>
    intro w h
    rw [Lf_fix R w]
    refine mx0_le (by omega) fun x hx => ?_
    obtain ⟨o, ho, rfl⟩ := List.mem_map.mp hx
    have q := (R _ (mem_preds.mp ho)).1
    simp only at q
    have := ih o (by omega)
    omega

/-! ### lifting as often as there are words -/
def bfStep (f : α → Int) (p : α × α) : α → Int := fun x => if x = p.2 then max (f p.2) (f p.1 + 1) else f x
def bfRound (P : List (α × α)) (f : α → Int) : α → Int := P.foldl bfStep f
def bfIter (P : List (α × α)) : Nat → α → Int
  | 0 => fun _ => 0
  | k + 1 => bfRound P (bfIter P k)
theorem bfStep_ge (f : α → Int) (p : α × α) (x : α) : f x ≤ bfStep f p x := by
  unfold bfStep
  split
  · rename_i e; subst e; omega
  · exact Int.le_refl _
theorem bfRound_ge : ∀ (P : List (α × α)) (f : α → Int) (x : α), f x ≤ bfRound P f x
  | [], _, _ => Int.le_refl _
  | p :: P, f, x => Int.le_trans (bfStep_ge f p x) (bfRound_ge P (bfStep f p) x)
theorem bfRound_pair : ∀ (P : List (α × α)) (f : α → Int) (p : α × α), p ∈ P → f p.1 + 1 ≤ bfRound P f p.2
  | q :: P, f, p, h => by
    show f p.1 + 1 ≤ bfRound P (bfStep f q) p.2
    rcases List.mem_cons.mp h with e | e
    · subst e
      refine Int.le_trans ?_ (bfRound_ge P _ _)
      unfold bfStep
      rw [if_pos rfl]
      omega
    · have h1 := bfRound_pair P (bfStep f q) p e
      have h2 := bfStep_ge f q p.1
      omega
theorem bfRound_le {g : α → Int} : ∀ (P : List (α × α)) (f : α → Int), (∀ p ∈ P, g p.1 + 1 ≤ g p.2) → (∀ x, f x ≤ g x) → ∀ x, bfRound P f x ≤ g x
  | [], _, _, h => h
  | p :: P, f, hg, h => by
    refine bfRound_le P (bfStep f p) (fun q hq => hg q (List.mem_cons_of_mem _ hq)) fun x => ?_
    unfold bfStep
    split
    · rename_i e
      subst e
      have h1 := hg p List.mem_cons_self
      have h2 := h p.1
      have h3 := h p.2
      omega
    · exact h x
theorem bf_le {P : List (α × α)} {n : Nat} {rk : α → Nat} (R : Ranked P n rk) : ∀ k x, bfIter P k x ≤ Lf P n x
  | 0, x => Lf_nn P n x
  | k + 1, x => bfRound_le P _ (fun p hp => Lf_lt R (a := p.1) (b := p.2) hp) (bf_le R k) x
theorem bf_ge {P : List (α × α)} {n : Nat} {rk : α → Nat} (R : Ranked P n rk) : ∀ k x, rk x ≤ k → Lf P n x ≤ bfIter P k x := by
  have nn : ∀ k x, (0 : Int) ≤ bfIter P k x := by
    intro k
    induction k with
    | zero => intro x; exact Int.le_refl _
    | succ k ih => intro x; exact Int.le_trans (ih x) (bfRound_ge P _ x)
  intro k
  induction k with
  | zero =>
    intro x h
    have := Lf_le R 0 x h
    have e : rk x = 0 := by omega
    rw [e] at this
    exact this
  | succ k ih =>
    intro x h
    rw [Lf_fix R x]
    refine mx0_le (nn _ _) fun y hy => ?_
    obtain ⟨o, ho, rfl⟩ := List.mem_map.mp hy
    have q := (R _ (mem_preds.mp ho)).1
    simp only at q
    have h1 := ih o (by omega)
    have h2 := bfRound_pair P (bfIter P k) (o, x) (mem_preds.mp ho)
    show _ ≤ bfRound P (bfIter P k) x
    simp only at h2
    omega
theorem bf_eq {P : List (α × α)} {n : Nat} {rk : α → Nat} (R : Ranked P n rk) (x : α) : bfIter P n x = Lf P n x := by
  by_cases h : ∃ o, (o, x) ∈ P
  · obtain ⟨o, ho⟩ := h
    have q := (R _ ho).2
    simp only at q
    have h1 := bf_le R n x
    have h2 := bf_ge R n x (by omega)
    omega
  · have e : preds P x = [] := List.eq_nil_iff_forall_not_mem.mpr fun o ho => h ⟨o, mem_preds.mp ho⟩
    have h1 := bf_le R n x
    have h3 : Lf P n x = 0 := by rw [Lf_fix R x, e]; rfl
    have nn : (0 : Int) ≤ bfIter P n x := by
      clear h1 h3 e h R
      induction n with
      | zero => exact Int.le_refl _
      | succ k ih => exact Int.le_trans ih (bfRound_ge P _ x)
    omega
end
end WM

namespace WM
section
variable {α : Type} [DecidableEq α] {lt : α → α → Bool}
def bh (S : List α) (P : List (α × α)) (w : α) : List α := S.filter fun o => decide ((w, o) ∈ P)
theorem mem_bh {S : List α} {P : List (α × α)} {w o : α} : o ∈ bh S P w ↔ o ∈ S ∧ (w, o) ∈ P := by
  unfold bh
  rw [List.mem_filter, decide_eq_true_eq]
/-- words, ascending; wishes along a rank -/
structure Ok (lt : α → α → Bool) (S : List α) (P : List (α × α)) (rk : α → Nat) : Prop where
  lin : Lin lt
  asc : Asc lt S
  mem : ∀ p ∈ P, p.1 ∈ S ∧ p.2 ∈ S
  rank : Ranked P S.length rk
def swp (p : α × α) : α × α := (p.2, p.1)
def Hf (P : List (α × α)) (n : Nat) (w : α) : Int := Lf (P.map swp) n w
theorem mem_swp {P : List (α × α)} {a b : α} : (a, b) ∈ P.map swp ↔ (b, a) ∈ P := by
  rw [List.mem_map]
  constructor
  · rintro ⟨p, hp, e⟩
    unfold swp at e
    cases e
    exact hp
  · intro h
    exact ⟨(b, a), h, rfl⟩
theorem ranked_swp {P : List (α × α)} {n : Nat} {rk : α → Nat} (R : Ranked P n rk) : Ranked (P.map swp) n fun w => n - 1 - rk w := by
  intro p hp
  obtain ⟨q, hq, rfl⟩ := List.mem_map.mp hp
  have := R q hq
  unfold swp
  simp only
  omega
theorem Hf_nn (P : List (α × α)) (n : Nat) (w : α) : 0 ≤ Hf P n w := Lf_nn _ _ _
section
variable {S : List α} {P : List (α × α)} {rk : α → Nat}
theorem Hf_fix (K : Ok lt S P rk) (w : α) : Hf P S.length w = mx0 ((bh S P w).map fun o => Hf P S.length o + 1) := by
  unfold Hf
  rw [Lf_fix (ranked_swp K.rank) w]
  refine mx0_congr fun x => ?_
  rw [List.mem_map, List.mem_map]
  constructor
  · rintro ⟨o, ho, e⟩
    have h := mem_swp.mp (mem_preds.mp ho)
    exact ⟨o, mem_bh.mpr ⟨(K.mem _ h).2, h⟩, e⟩
  · rintro ⟨o, ho, e⟩
    exact ⟨o, mem_preds.mpr (mem_swp.mpr (mem_bh.mp ho).2), e⟩
theorem Hf_lt (K : Ok lt S P rk) {a b : α} (h : (a, b) ∈ P) : Hf P S.length b + 1 ≤ Hf P S.length a := by
  rw [Hf_fix K a]
  exact mx0_ge (List.mem_map.mpr ⟨b, mem_bh.mpr ⟨(K.mem _ h).2, h⟩, rfl⟩)

/-! ### chains -/
def isCh (P : List (α × α)) : List α → Bool
  | [] => true
  | [_] => true
  | a :: b :: r => decide ((a, b) ∈ P) && isCh P (b :: r)
theorem isCh_len (K : Ok lt S P rk) : ∀ {r : List α} {a : α}, isCh P (a :: r) = true → (r.length : Int) ≤ Hf P S.length a
  | [], a, _ => Hf_nn _ _ _
  | b :: r, a, h => by
    simp only [isCh, Bool.and_eq_true, decide_eq_true_eq] at h
    have h1 := isCh_len K h.2
    have h2 := Hf_lt K h.1
    simp only [List.length_cons]
    omega
theorem isCh_rank (K : Ok lt S P rk) : ∀ {r : List α} {a : α}, isCh P (a :: r) = true → ∀ x ∈ r, rk a < rk x
  | [], _, _, x, hx => absurd hx (by simp)
  | b :: r, a, h, x, hx => by
    simp only [isCh, Bool.and_eq_true, decide_eq_true_eq] at h
    have h2 := (K.rank _ h.1).1
    simp only at h2
    rcases List.mem_cons.mp hx with e | e
    · subst e; exact h2
    · have := isCh_rank K h.2 x e
      omega
theorem isCh_nodup (K : Ok lt S P rk) : ∀ {r : List α}, isCh P r = true → r.Nodup
  | [], _ => List.nodup_nil
  | [a], _ => by simp
  | a :: b :: r, h => by
    refine List.nodup_cons.mpr ⟨fun z => ?_, ?_⟩
    · have := isCh_rank K h a z
      omega
    · simp only [isCh, Bool.and_eq_true, decide_eq_true_eq] at h
      exact isCh_nodup K h.2
theorem isCh_mem (K : Ok lt S P rk) : ∀ {r : List α} {a : α}, isCh P (a :: r) = true → a ∈ S → ∀ x ∈ a :: r, x ∈ S
  | [], a, _, ha, x, hx => by rw [List.mem_singleton.mp hx]; exact ha
  | b :: r, a, h, ha, x, hx => by
    simp only [isCh, Bool.and_eq_true, decide_eq_true_eq] at h
    rcases List.mem_cons.mp hx with e | e
    · rw [e]; exact ha
    · exact isCh_mem K h.2 (K.mem _ h.1).2 x e
/-- the greatest height among some words -/
def best (P : List (α × α)) (n : Nat) (F : List α) : Int := mx0 (F.map (Hf P n))
def chainT (S : List α) (P : List (α × α)) : Nat → List α → List α
  | 0, _ => []
  | k + 1, F => match F.filter fun w => decide (Hf P S.length w = best P S.length F) with
    | [] => []
    | c :: _ => c :: chainT S P k (bh S P c)
theorem best_mem {n : Nat} {F : List α} (h : F ≠ []) : ∃ c ∈ F, Hf P n c = best P n F := by
  unfold best
  rcases mx0_mem (F.map (Hf P n)) with e | e
  · cases F with
    | nil => exact absurd rfl h
    | cons c F =>
      refine ⟨c, List.mem_cons_self, ?_⟩
      have h1 : Hf P n c ≤ mx0 ((c :: F).map (Hf P n)) := mx0_ge (List.mem_map.mpr ⟨c, List.mem_cons_self, rfl⟩)
      have h2 := Hf_nn P n c
      omega
  · obtain ⟨c, hc, q⟩ := List.mem_map.mp e
    exact ⟨c, hc, q⟩
theorem best_ge {n : Nat} {F : List α} {c : α} (h : c ∈ F) : Hf P n c ≤ best P n F := mx0_ge (List.mem_map.mpr ⟨c, h, rfl⟩)
/-- the first of the greatest height -/
theorem first_best {n : Nat} {F : List α} (h : F ≠ []) (hF : Asc lt F) : ∃ c r, (F.filter fun w => decide (Hf P n w = best P n F)) = c :: r ∧ c ∈ F ∧ Hf P n c = best P n F ∧ ∀ x ∈ F, Hf P n x = best P n F → x = c ∨ lt c x = true := by
  obtain ⟨c0, hc0, e0⟩ := best_mem (P := P) (n := n) h
  cases hf : F.filter fun w => decide (Hf P n w = best P n F) with
  | nil =>
    have : c0 ∈ F.filter fun w => decide (Hf P n w = best P n F) := List.mem_filter.mpr ⟨hc0, decide_eq_true e0⟩
    rw [hf] at this
    exact absurd this (by simp)
  | cons c r =>
    have hc : c ∈ F.filter fun w => decide (Hf P n w = best P n F) := by rw [hf]; exact List.mem_cons_self
    obtain ⟨h1, h2⟩ := List.mem_filter.mp hc
    refine ⟨c, r, rfl, h1, of_decide_eq_true h2, fun x hx ex => ?_⟩
    have hx2 : x ∈ c :: r := by rw [← hf]; exact List.mem_filter.mpr ⟨hx, decide_eq_true ex⟩
    have ha : Asc lt (c :: r) := by rw [← hf]; exact Asc.filter _ hF
    rcases List.mem_cons.mp hx2 with e | e
    · exact .inl e
    · exact .inr ((List.pairwise_cons.mp ha).1 x e)
theorem best_bh (K : Ok lt S P rk) {c : α} (h : bh S P c ≠ []) : best P S.length (bh S P c) + 1 = Hf P S.length c := by
  obtain ⟨o, ho, e⟩ := best_mem (P := P) (n := S.length) h
  have h1 := Hf_lt K (mem_bh.mp ho).2
  have h2 : Hf P S.length c ≤ best P S.length (bh S P c) + 1 := by
    rw [Hf_fix K c]
    refine mx0_le (by have := mx0_nn ((bh S P c).map (Hf P S.length)); unfold best; omega) fun x hx => ?_
    obtain ⟨o, ho, rfl⟩ := List.mem_map.mp hx
    have := best_ge (P := P) (n := S.length) ho
    omega
  omega
theorem bh_nil (K : Ok lt S P rk) {c : α} (h : Hf P S.length c = 0) : bh S P c = [] := by
  refine List.eq_nil_iff_forall_not_mem.mpr fun o ho => ?_
  have := Hf_lt K (mem_bh.mp ho).2
  have := Hf_nn P S.length o
  omega
theorem chainT_nil (k : Nat) : chainT S P k [] = [] := by cases k <;> rfl
theorem bh_asc (K : Ok lt S P rk) (c : α) : Asc lt (bh S P c) := Asc.filter _ K.asc
/-- the chain that the program takes -/
theorem chainT_spec (K : Ok lt S P rk) : ∀ (k : Nat) (F : List α), F ≠ [] → Asc lt F → best P S.length F < (k : Int) →
    ∃ c r, chainT S P k F = c :: r ∧ c ∈ F ∧ isCh P (c :: r) = true ∧ (r.length : Int) = best P S.length F ∧
      ∀ a l, a ∈ F → isCh P (a :: l) = true → (l.length : Int) = best P S.length F → llt lt (a :: l) (c :: r) = false
  | 0, F, _, _, hk => by
    have := mx0_nn (F.map (Hf P S.length))
    unfold best at hk
    omega
  | k + 1, F, hF, ha, hk => by
    obtain ⟨c, r0, ef, hc, ec, first⟩ := first_best (P := P) (n := S.length) hF ha
    have e1 : chainT S P (k + 1) F = c :: chainT S P k (bh S P c) := by
      simp only [chainT, ef]
    by_cases hb : bh S P c = []
    · refine ⟨c, [], by rw [e1, hb, chainT_nil], hc, rfl, ?_, fun a l haF hch hl => ?_⟩
      · have e2 := Hf_fix K c
        rw [hb] at e2
        simp only [List.map_nil, mx0] at e2
        rw [← ec, e2]; rfl
      · have e2 := Hf_fix K c
        rw [hb] at e2
        simp only [List.map_nil, mx0] at e2
        have : l = [] := by
          rw [← ec, e2] at hl
          exact List.eq_nil_of_length_eq_zero (by omega)
        subst this
        have h3 := best_ge (P := P) (n := S.length) haF
        have h4 := Hf_nn P S.length a
        rcases first a haF (by omega) with e | e
        · subst e
          rw [llt_cons]; rfl
        · simp only [llt]
          rw [if_neg (fun z => by rw [z, K.lin.irr] at e; cases e)]
          exact K.lin.asy e
    · have h1 := best_bh K hb
      obtain ⟨c', r, e2, hc', hch, hlen, least⟩ := chainT_spec K k (bh S P c) hb (bh_asc K c) (by omega)
      refine ⟨c, c' :: r, by rw [e1, e2], hc, ?_, ?_, fun a l haF hch2 hl => ?_⟩
      · simp only [isCh, Bool.and_eq_true, decide_eq_true_eq]
        exact ⟨(mem_bh.mp hc').2, hch⟩
      · simp only [List.length_cons]
        omega
      · have h3 := best_ge (P := P) (n := S.length) haF
        have h4 := isCh_len K hch2
        rcases first a haF (by omega) with e | e
        · subst e
          rw [llt_cons]
          cases l with
          | nil =>
            exfalso
            simp only [List.length_nil] at hl
            have := Hf_lt K (mem_bh.mp hc').2
            have := Hf_nn P S.length c'
            omega
          | cons b l =>
            have hch3 := hch2
            simp only [isCh, Bool.and_eq_true, decide_eq_true_eq] at hch3
            refine least b l (mem_bh.mpr ⟨(K.mem _ hch3.1).2, hch3.1⟩) hch3.2 ?_
            simp only [List.length_cons] at hl
            omega
        · simp only [llt]
          rw [if_neg (fun z => by rw [z, K.lin.irr] at e; cases e)]
          exact K.lin.asy e
def chainDue (S : List α) (P : List (α × α)) : Nat → List α
  | 0 => []
  | k + 1 => match (rowsT S (k + 1)).find? (isCh P) with
    | some r => r
    | none => chainDue S P k
theorem Hf_bound (K : Ok lt S P rk) (w : α) (hw : w ∈ S) : Hf P S.length w < (S.length : Int) := by
  have hp : 0 < S.length := List.length_pos_of_mem hw
  by_cases h : ∃ o, (w, o) ∈ P
  · obtain ⟨o, ho⟩ := h
    have q := K.rank _ ho
    simp only at q
    have := Lf_le (ranked_swp K.rank) S.length w (by omega)
    unfold Hf
    omega
  · have e : bh S P w = [] := List.eq_nil_iff_forall_not_mem.mpr fun o ho => h ⟨o, (mem_bh.mp ho).2⟩
    rw [Hf_fix K w, e]
    simp only [List.map_nil, mx0]
    omega
theorem nodup_len : ∀ {r S : List α}, r.Nodup → (∀ x ∈ r, x ∈ S) → r.length ≤ S.length
  | [], _, _, _ => Nat.zero_le _
  | x :: r, S, n, h => by
    obtain ⟨n1, n2⟩ := List.nodup_cons.mp n
    have hx := h x List.mem_cons_self
    have := nodup_len (S := S.erase x) n2 fun y hy => (List.mem_erase_of_ne fun (e : y = x) => n1 (by rw [← e]; exact hy)).2 (h y (List.mem_cons_of_mem _ hy))
    have e := List.length_erase_of_mem hx
    have hp := List.length_pos_of_mem hx
    rw [List.length_cons]
    omega
/-- the law's chain is the program's -/
theorem chain_eq (K : Ok lt S P rk) : chainDue S P S.length = chainT S P S.length S := by
  by_cases hS : S = []
  · subst hS; rfl
  · have hb : best P S.length S < (S.length : Int) := by
      obtain ⟨c, hc, e⟩ := best_mem (P := P) (n := S.length) hS
      rw [← e]; exact Hf_bound K c hc
    obtain ⟨c, r, e, hc, hch, hlen, least⟩ := chainT_spec K S.length S hS K.asc hb
    rw [e]
    have hm : (c :: r).length = r.length + 1 := rfl
    have key : ∀ k, r.length + 1 ≤ k → chainDue S P k = c :: r := by
      intro k
      induction k with
      | zero => intro h; omega
      | succ k ih =>
        intro h
        unfold chainDue
        by_cases q : k = r.length
        · subst q
          have : (rowsT S (r.length + 1)).find? (isCh P) = some (c :: r) := by
            refine find_least (llt_lin K.lin) (rows_asc K.lin K.asc _) (mem_rows.mpr ⟨rfl, isCh_nodup K hch, isCh_mem K hch hc⟩) hch fun x hx px => ?_
            obtain ⟨l1, l2, l3⟩ := mem_rows.mp hx
            cases x with
            | nil => simp at l1
            | cons a l => exact least a l (l3 a List.mem_cons_self) px (by simp only [List.length_cons] at l1; omega)
          rw [this]
        · have : (rowsT S (k + 1)).find? (isCh P) = none := by
            refine List.find?_eq_none.mpr fun x hx px => ?_
            obtain ⟨l1, l2, l3⟩ := mem_rows.mp hx
            cases x with
            | nil => simp at l1
            | cons a l =>
              have h1 := isCh_len K px
              have h2 := best_ge (P := P) (n := S.length) (l3 a List.mem_cons_self)
              simp only [List.length_cons] at l1
              omega
          rw [this]
          exact ih (by omega)
    refine key _ ?_
    have := nodup_len (isCh_nodup K hch) (isCh_mem K hch hc)
    simpa using this

/-! ### as many unlike least numbers as the chain has words -/
theorem chain_up (K : Ok lt S P rk) : ∀ (k : Nat) (w : α), Lf P S.length w = (k : Int) → ∀ l, isCh P (w :: l) = true → w ∈ S → ∃ a r, a ∈ S ∧ isCh P (a :: r) = true ∧ r.length = k + l.length
  | 0, w, _, l, h, hw => ⟨w, l, hw, h, by omega⟩
  | k + 1, w, e, l, h, hw => by
    obtain ⟨a, ha, q⟩ := Lf_pred K.rank (b := w) (by omega)
    obtain ⟨b, r, h1, h2, h3⟩ := chain_up K k a (by omega) (w :: l) (by simp only [isCh, Bool.and_eq_true, decide_eq_true_eq]; exact ⟨ha, h⟩) (K.mem _ ha).1
    exact ⟨b, r, h1, h2, by rw [h3]; simp; omega⟩
theorem chain_down (K : Ok lt S P rk) : ∀ (l : List α) (a : α), isCh P (a :: l) = true → a ∈ S → ∃ w ∈ S, Lf P S.length a + (l.length : Int) ≤ Lf P S.length w
  | [], a, _, ha => ⟨a, ha, by simp⟩
  | b :: l, a, h, ha => by
    simp only [isCh, Bool.and_eq_true, decide_eq_true_eq] at h
    obtain ⟨w, hw, q⟩ := chain_down K l b h.2 (K.mem _ h.1).2
    have := Lf_lt K.rank h.1
    exact ⟨w, hw, by simp only [List.length_cons]; omega⟩
theorem vals_down (K : Ok lt S P rk) : ∀ (k : Nat) (w : α), w ∈ S → Lf P S.length w = (k : Int) → ∀ j : Nat, j ≤ k → ∃ v ∈ S, Lf P S.length v = (j : Int)
  | 0, w, hw, e, j, hj => ⟨w, hw, by
      have q : j = 0 := by omega
      rw [q]
      exact e⟩
  | k + 1, w, hw, e, j, hj => by
    by_cases q : j = k + 1
    · subst q; exact ⟨w, hw, e⟩
    · obtain ⟨a, ha, z⟩ := Lf_pred K.rank (b := w) (by omega)
      exact vals_down K k a (K.mem _ ha).1 (by omega) j (by omega)
/-- ascending ints, just 0 .. m - 1 -/
theorem asc_ints : ∀ (ys : List Int) (b m : Nat), ys.Pairwise (· < ·) → (∀ k : Int, k ∈ ys ↔ (b : Int) ≤ k ∧ k < (b : Int) + m) → ys.length = m
  | [], b, 0, _, _ => rfl
  | [], b, m + 1, _, h => absurd ((h b).2 ⟨by omega, by omega⟩) (by simp)
  | y :: ys, b, 0, _, h => by have := (h y).1 List.mem_cons_self; omega
  | y :: ys, b, m + 1, p, h => by
    obtain ⟨p1, p2⟩ := List.pairwise_cons.mp p
    have hy := (h y).1 List.mem_cons_self
    have e : y = (b : Int) := by
      rcases List.mem_cons.mp ((h b).2 ⟨by omega, by omega⟩) with q | q
      · exact q.symm
      · have := p1 _ q; omega
    have := asc_ints ys (b + 1) m p2 fun k => by
      constructor
      · intro hk
        have h1 := p1 k hk
        have h2 := (h k).1 (List.mem_cons_of_mem _ hk)
        omega
      · intro hk
        rcases List.mem_cons.mp ((h k).2 ⟨by omega, by omega⟩) with q | q
        · omega
        · exact q
    simp [this]
theorem vals_count (K : Ok lt S P rk) {ys : List Int} (p : ys.Pairwise (· < ·)) (h : ∀ k : Int, k ∈ ys ↔ ∃ w ∈ S, Lf P S.length w = k) : ys.length = (chainT S P S.length S).length := by
  by_cases hS : S = []
  · subst hS
    have : ys = [] := List.eq_nil_iff_forall_not_mem.mpr fun k hk => by
      obtain ⟨w, hw, _⟩ := (h k).1 hk
      exact absurd hw (by simp)
    rw [this]; rfl
  · have hb : best P S.length S < (S.length : Int) := by
      obtain ⟨c, hc, e⟩ := best_mem (P := P) (n := S.length) hS
      rw [← e]; exact Hf_bound K c hc
    obtain ⟨c, r, e, hc, hch, hlen, _⟩ := chainT_spec K S.length S hS K.asc hb
    rw [e]
    refine asc_ints ys 0 (c :: r).length p fun k => ?_
    rw [h k]
    simp only [List.length_cons]
    constructor
    · rintro ⟨w, hw, rfl⟩
      refine ⟨Lf_nn _ _ _, ?_⟩
      have nn := Lf_nn P S.length w
      obtain ⟨a, l, ha, h1, h2⟩ := chain_up K (Lf P S.length w).toNat w (by omega) [] rfl hw
      have h3 := isCh_len K h1
      have h4 := best_ge (P := P) (n := S.length) ha
      simp only [List.length_nil] at h2
      omega
    · rintro ⟨h1, h2⟩
      obtain ⟨w, hw, q⟩ := chain_down K r c hch hc
      have nn := Lf_nn P S.length c
      obtain ⟨v, hv, ev⟩ := vals_down K (Lf P S.length w).toNat w hw (by omega) k.toNat (by omega)
      exact ⟨v, hv, by omega⟩
end
end
end WM

namespace WM
section
variable {α : Type} [DecidableEq α] {lt : α → α → Bool}
/-! ### the first order -/
def free (P : List (α × α)) (left : List α) : List α := left.filter fun w => !(left.any fun o => decide ((o, w) ∈ P))
def ordT (P : List (α × α)) : Nat → List α → List α
  | 0, _ => []
  | k + 1, left => match free P left with
    | [] => []
    | f :: _ => f :: ordT P k (left.erase f)
theorem mem_free {P : List (α × α)} {left : List α} {w : α} : w ∈ free P left ↔ w ∈ left ∧ ∀ o ∈ left, (o, w) ∉ P := by
  unfold free
  rw [List.mem_filter]
  simp
theorem least_rank (rk : α → Nat) : ∀ (left : List α), left ≠ [] → ∃ w ∈ left, ∀ o ∈ left, rk w ≤ rk o
  | [], h => absurd rfl h
  | [a], _ => ⟨a, by simp, by simp⟩
  | a :: b :: l, _ => by
    obtain ⟨w, hw, h⟩ := least_rank rk (b :: l) (by simp)
    by_cases q : rk a ≤ rk w
    · refine ⟨a, by simp, fun o ho => ?_⟩
      rcases List.mem_cons.mp ho with e | e
      · rw [e]; exact Nat.le_refl _
      · exact Nat.le_trans q (h o e)
    · refine ⟨w, List.mem_cons_of_mem _ hw, fun o ho => ?_⟩
      rcases List.mem_cons.mp ho with e | e
      · rw [e]; omega
      · exact h o e
theorem free_ne {P : List (α × α)} {n : Nat} {rk : α → Nat} (R : Ranked P n rk) {left : List α} (h : left ≠ []) : free P left ≠ [] := by
  obtain ⟨w, hw, hl⟩ := least_rank rk left h
  intro e
  have : w ∈ free P left := mem_free.mpr ⟨hw, fun o ho hp => by
    have h1 := (R _ hp).1
    have h2 := hl o ho
    simp only at h1
    omega⟩
  rw [e] at this
  exact absurd this (by simp)
theorem ord_perm {P : List (α × α)} {n : Nat} {rk : α → Nat} (R : Ranked P n rk) : ∀ (k : Nat) (left : List α), left.length = k → (ordT P k left).Perm left
  | 0, left, h => by rw [List.eq_nil_of_length_eq_zero h]; exact List.Perm.refl _
  | k + 1, left, h => by
    have hne : left ≠ [] := fun e => by rw [e] at h; simp at h
    unfold ordT
    cases hf : free P left with
    | nil => exact absurd hf (free_ne R hne)
    | cons f r =>
      have hm : f ∈ left := (mem_free.mp (by rw [hf]; exact List.mem_cons_self)).1
      have e := List.length_erase_of_mem hm
      exact (List.Perm.cons f (ord_perm R k _ (by omega))).trans (List.perm_cons_erase hm).symm
theorem ord_topo {P : List (α × α)} {n : Nat} {rk : α → Nat} (R : Ranked P n rk) : ∀ (k : Nat) (left : List α), left.length = k → ∀ A w B, ordT P k left = A ++ w :: B → ∀ o, (o, w) ∈ P → o ∈ left → o ∈ A
  | 0, left, h, A, w, B, e, o, _, _ => by
    have e' : ([] : List α) = A ++ w :: B := e
    simp at e'
  | k + 1, left, h, A, w, B, e, o, hp, ho => by
    have hne : left ≠ [] := fun e => by rw [e] at h; simp at h
    unfold ordT at e
    cases hf : free P left with
    | nil => exact absurd hf (free_ne R hne)
    | cons f r =>
      rw [hf] at e
      simp only at e
      obtain ⟨hm, hfr⟩ := mem_free.mp (show f ∈ free P left by rw [hf]; exact List.mem_cons_self)
      have el := List.length_erase_of_mem hm
      cases A with
      | nil =>
        simp only [List.nil_append, List.cons.injEq] at e
        rw [← e.1] at hp
        exact absurd hp (hfr o ho)
      | cons a A =>
        simp only [List.cons_append, List.cons.injEq] at e
        by_cases q : o = f
        · rw [q, e.1]; exact List.mem_cons_self
        · exact List.mem_cons_of_mem _ (ord_topo R k _ (by omega) A w B e.2 o hp ((List.mem_erase_of_ne q).2 ho))
theorem ord_back {P : List (α × α)} {n : Nat} {rk : α → Nat} (R : Ranked P n rk) {left : List α} (hn : left.Nodup) {A B : List α} {w : α} (e : ordT P left.length left = A ++ w :: B) {o : α} (hp : (w, o) ∈ P) (ho : o ∈ left) : o ∈ B := by
  have pm := ord_perm R left.length left rfl
  have hnd : (ordT P left.length left).Nodup := pm.nodup_iff.mpr hn
  have hm : o ∈ A ++ w :: B := by rw [← e]; exact pm.mem_iff.mpr ho
  have hwo : w ≠ o := fun q => by
    subst q
    have := (R _ hp).1
    simp only at this
    omega
  rcases List.mem_append.mp hm with h | h
  · obtain ⟨A1, A2, rfl⟩ := List.append_of_mem h
    have hw : w ∈ left := pm.mem_iff.mp (by rw [e]; simp)
    have := ord_topo R left.length left rfl A1 o (A2 ++ w :: B) (by rw [e]; simp) w hp hw
    rw [e] at hnd
    obtain ⟨_, _, h3⟩ := List.nodup_append.mp hnd
    exact absurd rfl (h3 w (List.mem_append_left _ this) w List.mem_cons_self)
  · rcases List.mem_cons.mp h with q | q
    · exact absurd q.symm hwo
    · exact q

/-! ### rings -/
def rgIn (row : List α) (st : List α × List (List α)) (o : α) : List α × List (List α) :=
  if o ∈ st.1 then st else (st.1 ++ [o], st.2 ++ [row ++ [o]])
def lastD (w : α) (row : List α) : α := row.getLast?.getD w
def rgRow (B : α → List α) (w : α) : List (List α) → List α × List (List α) → List α ⊕ (List α × List (List α))
  | [], st => .inr st
  | row :: rows, st => if w ∈ B (lastD w row) then .inl row else rgRow B w rows ((B (lastD w row)).foldl (rgIn row) st)
def rgLoop (B : α → List α) (w : α) : Nat → List (List α) → List α → Option (Option (List α))
  | 0, level, _ => if level = [] then some none else none
  | n + 1, level, met => if level = [] then some none else
    match rgRow B w level (met, []) with
    | .inl row => some (some row)
    | .inr (met', later) => rgLoop B w n later met'
/-- rows of the level: not empty, their last word with a rank from k on -/
def RowK (S : List α) (rk : α → Nat) (k : Nat) (row : List α) : Prop := ∃ r z, row = r ++ [z] ∧ z ∈ S ∧ k ≤ rk z
theorem lastD_snoc (w z : α) (r : List α) : lastD w (r ++ [z]) = z := by simp [lastD]
theorem rgIn_rows {S : List α} {rk : α → Nat} {k : Nat} {row : List α} : ∀ {os : List α} {st : List α × List (List α)}, (∀ o ∈ os, o ∈ S ∧ k ≤ rk o) → (∀ r ∈ st.2, RowK S rk k r) → ∀ r ∈ (os.foldl (rgIn row) st).2, RowK S rk k r
  | [], _, _, h => h
  | o :: os, st, ho, h => by
    refine rgIn_rows (os := os) (st := rgIn row st o) (fun x hx => ho x (List.mem_cons_of_mem _ hx)) ?_
    unfold rgIn
    split
    · exact h
    · intro r hr
      rcases List.mem_append.mp hr with e | e
      · exact h r e
      · rw [List.mem_singleton] at e
        exact ⟨row, o, e, ho o List.mem_cons_self⟩
section
variable {S : List α} {P : List (α × α)} {rk : α → Nat}
theorem rgRow_ok (K : Ok lt S P rk) (w : α) (k : Nat) (hk : rk w ≤ k) : ∀ (rows : List (List α)) (st : List α × List (List α)), (∀ r ∈ rows, RowK S rk k r) → (∀ r ∈ st.2, RowK S rk (k + 1) r) →
    ∃ st', rgRow (bh S P) w rows st = .inr st' ∧ ∀ r ∈ st'.2, RowK S rk (k + 1) r
  | [], st, _, h => ⟨st, rfl, h⟩
  | row :: rows, st, hr, h => by
    obtain ⟨r, z, rfl, hz, hkz⟩ := hr row List.mem_cons_self
    have hn : w ∉ bh S P (lastD w (r ++ [z])) := fun q => by
      rw [lastD_snoc] at q
      have := (K.rank _ (mem_bh.mp q).2).1
      simp only at this
      omega
    unfold rgRow
    rw [if_neg hn]
    refine rgRow_ok K w k hk rows _ (fun r hr' => hr r (List.mem_cons_of_mem _ hr')) (rgIn_rows (fun o ho => ?_) h)
    rw [lastD_snoc] at ho
    have := (K.rank _ (mem_bh.mp ho).2).1
    simp only at this
    exact ⟨(mem_bh.mp ho).1, by omega⟩
theorem rgLoop_ok (K : Ok lt S P rk) (hS : ∀ z ∈ S, rk z < S.length) (w : α) : ∀ (n k : Nat) (level : List (List α)) (met : List α), rk w ≤ k → S.length ≤ n + k → (∀ r ∈ level, RowK S rk k r) → rgLoop (bh S P) w n level met = some none
  | 0, k, level, met, hk, hn, h => by
    cases level with
    | nil => rfl
    | cons r l =>
      obtain ⟨r', z, _, hz, hkz⟩ := h r List.mem_cons_self
      have := hS z hz
      omega
  | n + 1, k, level, met, hk, hn, h => by
    unfold rgLoop
    by_cases e : level = []
    · rw [if_pos e]
    · rw [if_neg e]
      obtain ⟨st', e1, h1⟩ := rgRow_ok K w k hk level (met, []) h (fun r hr => absurd hr (by simp))
      rw [e1]
      exact rgLoop_ok K hS w n (k + 1) _ _ (by omega) (by omega) h1
theorem ring_none (K : Ok lt S P rk) (hS : ∀ z ∈ S, rk z < S.length) {w : α} (hw : w ∈ S) : rgLoop (bh S P) w S.length [[w]] [w] = some none :=
  rgLoop_ok K hS w S.length (rk w) _ _ (Nat.le_refl _) (by omega) fun r hr => by
    rw [List.mem_singleton] at hr
    exact ⟨[], w, hr, hw, Nat.le_refl _⟩
end
def bestStep (best r : Option (List α)) : Option (List α) := match r with
  | none => best
  | some ring => match best with
    | none => some ring
    | some b => if ring.length < b.length then some ring else some b
def wishRing (f : α → Option (List α)) (S : List α) : Option (List α) := S.foldl (fun best w => bestStep best (f w)) none
theorem wishRing_none {f : α → Option (List α)} : ∀ {S : List α}, (∀ w ∈ S, f w = none) → wishRing f S = none := by
  have : ∀ (S : List α) (b : Option (List α)), (∀ w ∈ S, f w = none) → S.foldl (fun best w => bestStep best (f w)) b = b := by
    intro S
    induction S with
    | nil => intro b _; rfl
    | cons a S ih =>
      intro b h
      rw [List.foldl_cons, h a List.mem_cons_self]
      exact ih _ fun w hw => h w (List.mem_cons_of_mem _ hw)
  intro S h
  exact this S none h

/-! ### breaking lines -/
/-- what the program tells of a pair -/
def brk1 (lt : α → α → Bool) (N : α → Int) (S : List α) (p : α × α) : Option (List α) :=
  if N p.1 > N p.2 ∨ (N p.1 = N p.2 ∧ lt p.2 p.1 = true) then some S
  else if N p.1 = N p.2 then some (lineOf p.1 p.2 S) else none
/-- the place of a word in a line -/
def ix (l : List α) (w : α) : Nat := l.idxOf w
theorem ix_self (x : α) (l : List α) : (x :: l).idxOf x = 0 := by simp [List.idxOf_cons]
theorem ix_ne {x y : α} (l : List α) (h : x ≠ y) : (x :: l).idxOf y = l.idxOf y + 1 := by
  have e : (x == y) = false := by simpa using h
  rw [List.idxOf_cons, e]
  rfl
theorem ix_app {y : α} : ∀ {A : List α} (l : List α), y ∉ A → (A ++ l).idxOf y = l.idxOf y + A.length
  | [], l, _ => rfl
  | a :: A, l, h => by
    rw [List.cons_append, ix_ne _ (fun e => h (by simp [e])), ix_app l (fun e => h (List.mem_cons_of_mem _ e))]
    simp only [List.length_cons]
    omega
/-- by numbers a line stands so that a pair is not kept -/
def broken (N : α → Int) (P : List (α × α)) (l : List α) : Bool := P.any fun p => decide (N p.2 < N p.1 ∨ (N p.1 = N p.2 ∧ ix l p.2 ≤ ix l p.1))
theorem ix_ahead {l : List α} {t o : α} (n : l.Nodup) (h : Ahead t o l) : ix l t < ix l o := by
  obtain ⟨A, B, C, rfl⟩ := h
  obtain ⟨_, n2, n3⟩ := List.nodup_append.mp n
  obtain ⟨n4, n5⟩ := List.nodup_cons.mp n2
  have ht : t ∉ A := fun z => n3 t z t List.mem_cons_self rfl
  have ho : o ∉ A := fun z => n3 o z o (by simp) rfl
  have hto : o ≠ t := fun z => n4 (by simp [z])
  unfold ix
  rw [ix_app _ ht, ix_app _ ho, ix_self, ix_ne _ (Ne.symm hto)]
  omega
theorem ahead_ix : ∀ {l : List α} {t o : α}, t ∈ l → o ∈ l → t ≠ o → ix l t ≤ ix l o → Ahead t o l
  | x :: l, t, o, ht, ho, hne, h => by
    by_cases e : x = t
    · subst e
      have ho2 : o ∈ l := (List.mem_cons.mp ho).resolve_left fun z => hne z.symm
      obtain ⟨B, C, rfl⟩ := List.append_of_mem ho2
      exact ⟨[], B, C, rfl⟩
    · have ht2 : t ∈ l := (List.mem_cons.mp ht).resolve_left fun z => e z.symm
      by_cases e2 : x = o
      · subst e2
        unfold ix at h
        rw [ix_self, ix_ne _ e] at h
        omega
      · have ho2 : o ∈ l := (List.mem_cons.mp ho).resolve_left fun z => e2 z.symm
        unfold ix at h
        rw [ix_ne _ e, ix_ne _ e2] at h
        obtain ⟨A, B, C, q⟩ := ahead_ix ht2 ho2 hne (show ix l t ≤ ix l o by unfold ix; omega)
        exact ⟨x :: A, B, C, by rw [q]; rfl⟩
section
variable {S : List α} {P : List (α × α)} {N : α → Int}
theorem asc_ahead (O : Lin lt) : ∀ {S : List α} {t o : α}, Asc lt S → t ∈ S → o ∈ S → lt t o = true → Ahead t o S
  | x :: S, t, o, h, ht, ho, hl => by
    obtain ⟨h1, h2⟩ := List.pairwise_cons.mp h
    by_cases e : x = t
    · subst e
      have ho2 : o ∈ S := (List.mem_cons.mp ho).resolve_left fun z => by rw [z, O.irr] at hl; cases hl
      obtain ⟨B, C, rfl⟩ := List.append_of_mem ho2
      exact ⟨[], B, C, rfl⟩
    · have ht2 : t ∈ S := (List.mem_cons.mp ht).resolve_left fun z => e z.symm
      have ho2 : o ∈ S := (List.mem_cons.mp ho).resolve_left fun z => by
        subst z
        have := O.asy (h1 t ht2)
        rw [this] at hl; cases hl
      obtain ⟨A, B, C, q⟩ := asc_ahead O h2 ht2 ho2 hl
      exact ⟨x :: A, B, C, by rw [q]; rfl⟩
/-- what is told breaks -/
theorem brk1_broken (O : Lin lt) (hS : Asc lt S) {p : α × α} (hp : p ∈ P) (h1 : p.1 ∈ S) (h2 : p.2 ∈ S) (hne : p.1 ≠ p.2) {l : List α} (h : brk1 lt N S p = some l) : l.Perm S ∧ broken N P l = true := by
  have n := Asc.nodup O hS
  unfold brk1 at h
  split at h
  · rename_i c
    cases h
    refine ⟨List.Perm.refl _, List.any_eq_true.mpr ⟨p, hp, decide_eq_true ?_⟩⟩
    rcases c with c | ⟨c1, c2⟩
    · exact .inl c
    · exact .inr ⟨c1, Nat.le_of_lt (ix_ahead n (asc_ahead O hS h2 h1 c2))⟩
  · split at h
    · rename_i c
      cases h
      have pm := lineOf_perm (o := p.1) (t := p.2) n h1
      refine ⟨pm, List.any_eq_true.mpr ⟨p, hp, decide_eq_true (.inr ⟨c, Nat.le_of_lt (ix_ahead (pm.nodup_iff.mpr n) (lineOf_ahead h2 hne))⟩)⟩⟩
    · cases h
/-- a line that breaks is not ahead of what is told -/
theorem broken_brk1 (O : Lin lt) (hS : Asc lt S) (hP : ∀ p ∈ P, p.1 ∈ S ∧ p.2 ∈ S ∧ p.1 ≠ p.2) {l : List α} (pm : l.Perm S) (h : broken N P l = true) : ∃ p ∈ P, ∃ m, brk1 lt N S p = some m ∧ llt lt l m = false := by
  obtain ⟨p, hp, hd⟩ := List.any_eq_true.mp h
  have hd := of_decide_eq_true hd
  obtain ⟨h1, h2, hne⟩ := hP p hp
  refine ⟨p, hp, ?_⟩
  unfold brk1
  by_cases c : N p.1 > N p.2 ∨ (N p.1 = N p.2 ∧ lt p.2 p.1 = true)
  · rw [if_pos c]
    exact ⟨S, rfl, asc_least O hS pm⟩
  · rw [if_neg c]
    rcases hd with z | ⟨z1, z2⟩
    · exact absurd (.inl z) c
    · rw [if_pos z1]
      refine ⟨_, rfl, lineOf_least O ?_ hS h1 pm (ahead_ix (pm.mem_iff.mpr h2) (pm.mem_iff.mpr h1) (Ne.symm hne) z2)⟩
      rcases O.tot _ _ hne with w | w
      · exact w
      · exact absurd (.inr ⟨z1, w⟩) c
theorem perm_rows {l : List α} (n : S.Nodup) : l ∈ rowsT S S.length ↔ l.Perm S := by
  rw [mem_rows]
  constructor
  · rintro ⟨h1, h2, h3⟩
    exact perm_of_nodup_len h2 n h3 h1
  · intro h
    exact ⟨h.length_eq, h.nodup_iff.mpr n, fun x hx => h.mem_iff.mp hx⟩
where
  perm_of_nodup_len : ∀ {l S : List α}, l.Nodup → S.Nodup → (∀ x ∈ l, x ∈ S) → l.length = S.length → l.Perm S
  | [], S, _, _, _, h => by rw [List.eq_nil_of_length_eq_zero h.symm]
  | x :: l, S, n, m, hs, h => by
    obtain ⟨n1, n2⟩ := List.nodup_cons.mp n
    have hx := hs x List.mem_cons_self
    have e := List.length_erase_of_mem hx
    simp only [List.length_cons] at h
    have := perm_of_nodup_len (S := S.erase x) n2 (m.erase x) (fun y hy => (List.mem_erase_of_ne fun (e : y = x) => n1 (by rw [← e]; exact hy)).2 (hs y (List.mem_cons_of_mem _ hy))) (by omega)
    exact (List.Perm.cons x this).trans (List.perm_cons_erase hx).symm
/-- the program's lines -/
def told (lt : α → α → Bool) (N : α → Int) (S : List α) (P : List (α × α)) : List (List α) := P.filterMap (brk1 lt N S)
theorem line_none (O : Lin lt) (hS : Asc lt S) (hP : ∀ p ∈ P, p.1 ∈ S ∧ p.2 ∈ S ∧ p.1 ≠ p.2) (h : told lt N S P = []) : (rowsT S S.length).find? (broken N P) = none := by
  refine List.find?_eq_none.mpr fun l hl hb => ?_
  obtain ⟨p, hp, m, hm, _⟩ := broken_brk1 O hS hP ((perm_rows (Asc.nodup O hS)).mp hl) hb
  have : m ∈ told lt N S P := List.mem_filterMap.mpr ⟨p, hp, hm⟩
  rw [h] at this
  exact absurd this (by simp)
theorem line_some (O : Lin lt) (hS : Asc lt S) (hP : ∀ p ∈ P, p.1 ∈ S ∧ p.2 ∈ S ∧ p.1 ≠ p.2) {m : List α} (hm : m ∈ told lt N S P) (hl : ∀ x ∈ told lt N S P, llt lt x m = false) : (rowsT S S.length).find? (broken N P) = some m := by
  have n := Asc.nodup O hS
  obtain ⟨p, hp, e⟩ := List.mem_filterMap.mp hm
  obtain ⟨h1, h2, h3⟩ := hP p hp
  obtain ⟨pm, hb⟩ := brk1_broken O hS hp h1 h2 h3 e
  refine find_least (llt_lin O) (rows_asc O hS _) ((perm_rows n).mpr pm) hb fun x hx hbx => ?_
  obtain ⟨q, hq, y, hy, hxy⟩ := broken_brk1 O hS hP ((perm_rows n).mp hx) hbx
  have h4 := hl y (List.mem_filterMap.mpr ⟨q, hq, hy⟩)
  cases c : llt lt x m with
  | false => rfl
  | true =>
    exfalso
    rcases Decidable.em (m = y) with z | z
    · rw [z, hxy] at c; cases c
    · rcases (llt_lin O).tot m y z with w | w
      · have := (llt_lin O).tr _ _ _ c w
        rw [hxy] at this; cases this
      · rw [h4] at w; cases w
theorem told_nil (hP : ∀ p ∈ P, p.1 ∈ S ∧ p.2 ∈ S ∧ p.1 ≠ p.2) : told lt N S P = [] ↔ ∀ p ∈ P, N p.1 < N p.2 := by
  constructor
  · intro h p hp
    have h2 : brk1 lt N S p = none := by
      cases e : brk1 lt N S p with
      | none => rfl
      | some m =>
        have : m ∈ told lt N S P := List.mem_filterMap.mpr ⟨p, hp, e⟩
        rw [h] at this
        exact absurd this (by simp)
    unfold brk1 at h2
    split at h2
    · cases h2
    · rename_i c1
      split at h2
      · cases h2
      · rename_i c2
        have : ¬ N p.1 > N p.2 := fun z => c1 (.inl z)
        omega
  · intro h
    refine List.eq_nil_iff_forall_not_mem.mpr fun m hm => ?_
    obtain ⟨p, hp, e⟩ := List.mem_filterMap.mp hm
    have := h p hp
    unfold brk1 at e
    rw [if_neg (by rintro (z | ⟨z, _⟩) <;> omega), if_neg (by omega)] at e
    cases e
/-- cut behind its place -/
theorem behindT_cut {o t : α} : ∀ {l : List α}, t ∈ l → behindT o t l = l.take (l.idxOf t + 1) ++ o :: l.drop (l.idxOf t + 1)
  | x :: l, h => by
    unfold behindT
    by_cases e : x = t
    · rw [if_pos e, ← e, ix_self]
      rfl
    · rw [if_neg e, ix_ne _ e, behindT_cut ((List.mem_cons.mp h).resolve_left fun z => e z.symm)]
      rfl
end
end
end WM

set_option Elab.async false
set_option linter.all false
set_option maxRecDepth 100000
set_option maxHeartbeats 4000000
namespace Lk
open PySem PySem.Spec PyProof.Rows L2

/-! ### texts in their order -/
def slt (a b : Str) : Bool := decide (a.cps.toList < b.cps.toList)
theorem str_ext {a b : Str} (h : a.cps.toList = b.cps.toList) : a = b := by
  have hc : a.cps = b.cps := Array.toList_inj.mp h
  cases a
  cases b
  simp only [Str.mk.injEq]
  exact hc
theorem slt_lin : WM.Lin slt where
  irr := fun a => decide_eq_false (List.lt_irrefl a.cps.toList)
  tr := fun a b c h1 h2 => decide_eq_true (List.lt_trans (of_decide_eq_true h1) (of_decide_eq_true h2))
  tot := fun a b h => by
    have hn : a.cps.toList ≠ b.cps.toList := fun e => h (str_ext e)
    rcases Classical.em (a.cps.toList < b.cps.toList) with q | q
    · exact .inl (decide_eq_true q)
    · rcases Classical.em (b.cps.toList < a.cps.toList) with z | z
      · exact .inr (decide_eq_true z)
      · exact absurd (List.le_antisymm z q) hn
theorem rising_weak : ∀ (p : Str) (l : List Str), risingS p l = true → (∀ x ∈ p :: l, slt x p = false) ∧ (p :: l).Pairwise fun a b => slt b a = false
  | p, [], _ => ⟨fun x hx => by rw [List.mem_singleton.mp hx]; exact slt_lin.irr p, List.pairwise_singleton _ _⟩
  | p, x :: r, h => by
    simp only [risingS, Bool.and_eq_true, Bool.not_eq_true'] at h
    obtain ⟨h1, h2⟩ := rising_weak x r h.2
    have hxp : slt x p = false := by
      unfold slt
      rw [← ltCps_eq]
      exact h.1
    have all : ∀ y ∈ x :: r, slt y p = false := fun y hy => by
      have hyx := h1 y hy
      cases e : slt y p with
      | false => rfl
      | true =>
        by_cases q : x = p
        · rw [q, e] at hyx; cases hyx
        · rcases slt_lin.tot x p q with z | z
          · rw [z] at hxp; cases hxp
          · have := slt_lin.tr _ _ _ e z
            rw [this] at hyx; cases hyx
    refine ⟨fun y hy => ?_, List.pairwise_cons.mpr ⟨all, h2⟩⟩
    rcases List.mem_cons.mp hy with e | e
    · rw [e]; exact slt_lin.irr p
    · exact all y e
theorem sortedS_weak {l : List Str} (h : sortedS l = true) : l.Pairwise fun a b => slt b a = false := by
  cases l with
  | nil => exact List.Pairwise.nil
  | cons p l => exact (rising_weak p l h).2
abbrev srtS (W : List Str) : List Str := WM.srt slt W
theorem srtS_eq {ys W : List Str} (n : W.Nodup) (p : ys.Perm W) (h : sortedS ys = true) : ys = srtS W := WM.eq_srt slt_lin n p (sortedS_weak h)
theorem srtS_asc {W : List Str} (n : W.Nodup) : WM.Asc slt (srtS W) := WM.srt_asc slt_lin n
theorem srtS_perm (W : List Str) : (srtS W).Perm W := WM.srt_perm W

/-! ### dicts from words -/
abbrev kS (w : Str) : Key := Sum.inr w
def dct (S : List Str) (g : Str → V) : List (Key × V) := S.map fun w => (kS w, g w)
theorem dct_val {g : Str → V} {w : Str} : ∀ {S : List Str}, valV (dct S g) (kS w) = if w ∈ S then some (g w) else none
  | [] => by simp [dct, valV]
  | x :: S => by
    show valV ((kS x, g x) :: dct S g) (kS w) = _
    by_cases e : x = w
    · subst e
      rw [valV_pos rfl, if_pos List.mem_cons_self]
    · rw [valV_neg (p := (kS x, g x)) (fun q : kS x = kS w => e (Sum.inr.inj q)), dct_val (S := S)]
      by_cases h : w ∈ S
      · rw [if_pos h, if_pos (List.mem_cons_of_mem _ h)]
      · rw [if_neg h, if_neg (fun z => (List.mem_cons.mp z).elim (fun q => e q.symm) h)]
theorem dct_in {S : List Str} {g : Str → V} {w : Str} (h : w ∈ S) : valV (dct S g) (kS w) = some (g w) := by rw [dct_val, if_pos h]
theorem dct_out {S : List Str} {g : Str → V} {w : Str} (h : w ∉ S) : valV (dct S g) (kS w) = none := by rw [dct_val, if_neg h]
theorem dct_len (S : List Str) (g : Str → V) : (dct S g).length = S.length := by unfold dct; rw [List.length_map]
theorem dct_congr {S : List Str} {g g' : Str → V} (h : ∀ w ∈ S, g w = g' w) : dct S g = dct S g' := by
  unfold dct
  exact List.map_congr_left fun w hw => by rw [h w hw]
theorem dct_new {S : List Str} {g : Str → V} {w : Str} (h : w ∉ S) (v : V) (hg : g w = v) : putK (dct S g) (kS w) v = dct (S ++ [w]) g := by
  rw [putK_new v (dct_out h), ← hg]
  unfold dct
  rw [List.map_append]
  rfl
theorem putK_old {kvs : List (Key × V)} {k : Key} {v v0 : V} (h : valV kvs k = some v0) : putK kvs k v = kvs.map fun kv => if kv.1 = k then (kv.1, v) else kv := by
  unfold putK
  have : (kvs.any fun kv => decide (kv.1 = k)) = true := by rw [valV_any, h]; rfl
  first | rw [if_pos this] | simp [this]
theorem dct_put {S : List Str} {g : Str → V} {w : Str} (h : w ∈ S) (v : V) : putK (dct S g) (kS w) v = dct S fun x => if x = w then v else g x := by
  rw [putK_old (dct_in h)]
  unfold dct
  rw [List.map_map]
  refine List.map_congr_left fun x _ => ?_
  show (if kS x = kS w then (kS x, v) else (kS x, g x)) = (kS x, if x = w then v else g x)
  by_cases e : x = w
  · rw [if_pos (by rw [e]), if_pos e]
  · rw [if_neg (fun q : kS x = kS w => e (Sum.inr.inj q)), if_neg e]
theorem dct_keys (S : List Str) (g : Str → V) : (dct S g).map (·.1) = S.map Sum.inr := by
  unfold dct
  rw [List.map_map]
  rfl

/-! ### heaps -/
/-- all but a is as it was -/
def Sm (a : Addr) (H H' : Hp) : Prop := ∀ b o, b ≠ a → H b = some o → H' b = some o
theorem Sm.refl (a : Addr) (H : Hp) : Sm a H H := fun _ _ _ h => h
theorem Sm.trans {a : Addr} {H H1 H2 : Hp} (x : Sm a H H1) (y : Sm a H1 H2) : Sm a H H2 := fun b o n h => y b o n (x b o n h)
theorem Sm.of {a : Addr} {H H' : Hp} (x : Same H H') : Sm a H H' := fun b o _ h => x b o h
theorem Sm.put {a : Addr} {H H' : Hp} (x : Sm a H H') (o : HO) : Sm a H (L2.upd H' a o) := fun b u n h => by
  rw [upd_ne n]; exact x b u n h
theorem _root_.L2.Same.new {H H' : Hp} (x : Same H H') {p : Addr} (hp : H p = none) (o : HO) : Same H (upd H' p o) := fun b u h => by
  rw [upd_ne (ne_of_none h hp)]; exact x b u h
theorem Sm.new {a : Addr} {H H' : Hp} (x : Sm a H H') {p : Addr} (hp : H p = none) (o : HO) : Sm a H (upd H' p o) := fun b u n h => by
  rw [upd_ne (ne_of_none h hp)]; exact x b u n h
theorem Sm.free {a : Addr} {H H' : Hp} (x : Sm a H H') {l : Addr} (n : l ≠ a) (h : H' l = none) : H l = none := by
  cases q : H l with
  | none => rfl
  | some o => rw [x l o n q] at h; cases h
theorem some_ne {H : Hp} {a b : Addr} {o : HO} (h : H a = some o) (h' : H b = none) : b ≠ a := (ne_of_none h h').symm

/-! ### a def that may be called by its name -/
structure Cal (P : Program) (w : World) (K : PySem.W.Frag) (mg : Str → Option Value) (base : Heap) (CX : CXT) (k : Nat) (x : Str) (sp : Sp) : Prop where
  ex : ∃ (f : Addr) (fd : FuncData) (ps : List Str), FnOk P w K mg base CX k f fd ps sp ∧ mg x = some (.ref f) ∧ PySem.W.keepIn K (.ref f) = true ∧ Binds K fd ps []
theorem Cal.mono {P : Program} {w : World} {K : PySem.W.Frag} {mg : Str → Option Value} {base : Heap} {CX : CXT} {j k : Nat} {x : Str} {sp : Sp} (c : Cal P w K mg base CX j x sp) (h : j ≤ k) : Cal P w K mg base CX k x sp := by
  obtain ⟨f, fd, ps, F, r⟩ := c.ex
  exact ⟨f, fd, ps, F.mono h, r⟩
section
variable {X : Cx} {CX : CXT} {k j : Nat} {x : Str} {sp : Sp} {E : XK} {p pos : Pos} {e : Expr} {es : List Expr} {t : TA}
theorem pe_cc (c : Cal X.prog X.w X.K X.mg X.base CX j x sp) (hr : Room k X.A) (hj : j ≤ k) (hx : Passes CX X E) (ha : PA X (e :: es) t) (hg : Gl X x := by rfl)
    (he : starEach (e :: es) X.env = (false, eval e X.env) :: starEach es X.env := by rfl) (hpl : (backTo pos (starEach es X.env)).any (·.1) = false := by rfl) (hdb : (x == ("__debug__" : Str)) = false := by decide) :
    PE X (.Call (.Name x p) (e :: es) [] pos) (tCall sp [] E t) := by
  obtain ⟨f, fd, ps, F, hm, hk, hb⟩ := c.ex
  exact pe_call F (hr.mono hj) hg hm hk hb .nil hx ha hdb he hpl
end
/-- a def of the text as it stands behind the top -/
structure Def (K : PySem.W.Frag) (mg : Str → Option Value) (x : Str) (st : Stmt) : Prop where
  ex : ∃ (f : Addr) (fd : FuncData), Fun K x x st f fd ∧ mg x = some (.ref f)
section
variable {P : Program} {w : World} {K : PySem.W.Frag} {mg : Str → Option Value} {base : Heap}
theorem Def.cal {x : Str} {st : Stmt} {N ps : List Str} {k : Nat} {sp : Sp} (D : Def K mg x st) (S : FnScope N ps (defScope st)) (len : ∀ vs H Q E, sp vs H Q E → vs.length = ps.length)
    (hb : ∀ (kV doc pm : Value) (an : Option Addr) (cdv ct : Value) (us : List Value), us.length = ps.length → bindArgs (PySem.W.fnOf x x (defArgs st) (defBody st) (defScope st) .none kV doc pm an cdv ct) ⟨us, []⟩ = pure (ps.zip us))
    (hbody : ∀ (f : Addr) (cdv : Value) (A : Around) (outer : List Env) (s : Shared) (H : Hp) (vs : List V) (Q : VK) (E : XK), Room k (A.deeper (envOfC x (defScope st) s.heap.objs.size f cdv)) → sp vs H Q E →
      ∃ t, PSs (cxOf CX0 P w K mg base N x (defScope st) f cdv A outer s H E).nox (defBody st) t ∧ t { nx := fun _ H' => Q .non H', rt := Q } (start N vs) H) : Cal P w K mg base CX0 (k + 1) x sp := by
  obtain ⟨f, fd, F, hm⟩ := D.ex
  exact ⟨f, fd, ps, F.ok S len (fun cdv A outer s H vs Q E => hbody f cdv A outer s H vs Q E), hm, F.kp, F.binds hb⟩
theorem Def.calX {x : Str} {st : Stmt} {N ps : List Str} {k : Nat} {sp : Sp} (D : Def K mg x st) (S : FnScope N ps (defScope st)) (len : ∀ vs H Q E, sp vs H Q E → vs.length = ps.length)
    (hb : ∀ (kV doc pm : Value) (an : Option Addr) (cdv ct : Value) (us : List Value), us.length = ps.length → bindArgs (PySem.W.fnOf x x (defArgs st) (defBody st) (defScope st) .none kV doc pm an cdv ct) ⟨us, []⟩ = pure (ps.zip us))
    (hbody : ∀ (f : Addr) (cdv : Value) (A : Around) (outer : List Env) (s : Shared) (H : Hp) (vs : List V) (Q : VK) (E : XK), Room k (A.deeper (envOfC x (defScope st) s.heap.objs.size f cdv)) → sp vs H Q E →
      ∃ t, PSs (cxOf (L2.CX P w) P w K mg base N x (defScope st) f cdv A outer s H E) (defBody st) t ∧ t { nx := fun _ H' => Q .non H', rt := Q } (start N vs) H) : Cal P w K mg base (L2.CX P w) (k + 1) x sp := by
  obtain ⟨f, fd, F, hm⟩ := D.ex
  exact ⟨f, fd, ps, F.okX S len (fun cdv A outer s H vs Q E => hbody f cdv A outer s H vs Q E), hm, F.kp, F.binds hb⟩
end
def top (i : Nat) : Stmt := PySem.Challenge.pw_linklines_k52_whole_numbers_and_lines.main.body.getD i (.Pass ⟨0, 0, 0, 0⟩)
/-- the built-ins' names that the module leaves alone -/
structure Blt (mg : Str → Option Value) : Prop where
  isinstance : mg "isinstance" = none
  int : mg "int" = none
  bool : mg "bool" = none
  list : mg "list" = none
  tuple : mg "tuple" = none
  str : mg "str" = none
  dict : mg "dict" = none
  set : mg "set" = none
  len : mg "len" = none
  all : mg "all" = none
  any : mg "any" = none
  enumerate : mg "enumerate" = none
  sorted : mg "sorted" = none
  max : mg "max" = none
  min : mg "min" = none
  sum : mg "sum" = none
  abs : mg "abs" = none
  range : mg "range" = none
  zip : mg "zip" = none

/-! ### data -/
/-- a word of a program: 1 to 8 letters -/
def okw (w : Str) : Bool := PyData.strOk w && (decide (1 ≤ w.length) && (decide (w.length ≤ 8) && w.cps.toList.all fun c => decide (97 ≤ c) && decide (c ≤ 122)))
theorem okw_str {w : Str} (h : okw w = true) : PyData.strOk w = true := (Bool.and_eq_true_iff.mp h).1
def Wds (W : List Str) : Prop := ∀ w ∈ W, okw w = true
def scl : V → Bool
  | .str x => PyData.strOk x
  | .int _ => true
  | .bl _ => true
  | .non => true
  | _ => false
def datOf : V → PyData
  | .str x => .str x
  | .int i => .int i
  | .bl b => .bool b
  | _ => .none
theorem dp_scl {K : PySem.W.Frag} {H : Hp} : ∀ {x : V}, scl x = true → Dp K H x (datOf x)
  | .str x, _ => .str x
  | .int i, _ => .int i
  | .bl b, _ => .bl b
  | .non, _ => .non
theorem dp_all {K : PySem.W.Frag} {H : Hp} : ∀ {xs : List V}, xs.all scl = true → DpAll K H xs (xs.map datOf)
  | [], _ => .nil
  | x :: xs, h => by
    rw [List.all_cons, Bool.and_eq_true] at h
    exact .cons (dp_scl h.1) (dp_all h.2)
theorem dat_lay : ∀ {x : V}, scl x = true → (datOf x).canLay0 = true
  | .str _, h => by simp only [datOf, PyData.canLay0]; exact h
  | .int _, _ => by simp [datOf, PyData.canLay0]
  | .non, _ => by simp [datOf, PyData.canLay0]
  | .bl _, _ => by simp [datOf, PyData.canLay0]
theorem dat_depth : ∀ x : V, (datOf x).depth = 0
  | .str _ => by simp [datOf, PyData.depth]
  | .int _ => by simp [datOf, PyData.depth]
  | .non => by simp [datOf, PyData.depth]
  | .bl _ => by simp [datOf, PyData.depth]
  | .byt _ => by simp [datOf, PyData.depth]
  | .flt _ => by simp [datOf, PyData.depth]
  | .ref _ => by simp [datOf, PyData.depth]
  | .ty _ => by simp [datOf, PyData.depth]
theorem lay_all {α : Type} {f : α → PyData} : ∀ {xs : List α}, (∀ x ∈ xs, (f x).canLay0 = true) → PyData.canLayAll0 (xs.map f) = true
  | [], _ => by simp [PyData.canLayAll0]
  | x :: xs, h => by
    have h1 := h x List.mem_cons_self
    have h2 := lay_all (xs := xs) fun y hy => h y (List.mem_cons_of_mem _ hy)
    simp [PyData.canLayAll0, h1, h2]
theorem depth_all {α : Type} {f : α → PyData} {d : Nat} (h : ∀ x, (f x).depth ≤ d) : ∀ xs : List α, PyData.depthAll (xs.map f) ≤ d
  | [] => by simp [PyData.depthAll]
  | x :: xs => by
    have h1 := depth_all h xs
    have h2 := h x
    simp only [List.map_cons, PyData.depthAll]
    omega
theorem shp_list {α : Type} {f : α → PyData} {d : Nat} {xs : List α} (h1 : ∀ x ∈ xs, (f x).canLay0 = true) (h2 : ∀ x, (f x).depth ≤ d) (hd : d < 60) : SeqAt.shaped (.list (xs.map f)) = true := by
  have a := lay_all h1
  have b := depth_all h2 xs
  show (PyData.canLay0 (.list (xs.map f)) && decide (PyData.depth (.list (xs.map f)) ≤ 64)) = true
  rw [Bool.and_eq_true]
  refine ⟨by simp only [PyData.canLay0]; exact a, decide_eq_true ?_⟩
  simp only [PyData.depth]
  omega
theorem shp_tuple {α : Type} {f : α → PyData} {d : Nat} {xs : List α} (h1 : ∀ x ∈ xs, (f x).canLay0 = true) (h2 : ∀ x, (f x).depth ≤ d) (hd : d < 60) : SeqAt.shaped (.tuple (xs.map f)) = true := by
  have a := lay_all h1
  have b := depth_all h2 xs
  show (PyData.canLay0 (.tuple (xs.map f)) && decide (PyData.depth (.tuple (xs.map f)) ≤ 64)) = true
  rw [Bool.and_eq_true]
  refine ⟨by simp only [PyData.canLay0]; exact a, decide_eq_true ?_⟩
  simp only [PyData.depth]
  omega
theorem shp_dat {xs : List V} (h : xs.all scl = true) : SeqAt.shaped (.list (xs.map datOf)) = true := shp_list (fun x hx => dat_lay (List.all_eq_true.mp h x hx)) (fun x => Nat.le_of_eq (dat_depth x)) (by decide)
theorem shp_nil : SeqAt.shaped (.list []) = true := shp_dat (xs := []) rfl
theorem dp_list {K : PySem.W.Frag} {H : Hp} {a : Addr} {xs : List V} (h : H a = some (.lst xs)) (hs : xs.all scl = true) : Dp K H (.ref a) (.list (xs.map datOf)) := .lst (SqL.of h) (dp_all hs)
theorem eqv_nil {α : Type} {f : α → PyData} : ∀ xs : List α, PyData.eqv (.list (xs.map f)) (.list []) = xs.isEmpty
  | [] => by simp [PyData.eqv, PyData.eqvAll]
  | x :: xs => by simp [PyData.eqv, PyData.eqvAll]
theorem all_strs {ws : List Str} (h : Wds ws) : (ws.map V.str).all scl = true := by
  rw [List.all_map, List.all_eq_true]
  exact fun x hx => okw_str (h x hx)
theorem all_ints (ns : List Int) : (ns.map V.int).all scl = true := by
  rw [List.all_map, List.all_eq_true]
  exact fun _ _ => rfl
theorem eqvAll_strs : ∀ a b : List Str, PyData.eqvAll (a.map PyData.str) (b.map PyData.str) = decide (a = b)
  | [], [] => by simp [PyData.eqvAll]
  | [], _ :: _ => by simp [PyData.eqvAll]
  | _ :: _, [] => by simp [PyData.eqvAll]
  | x :: a, y :: b => by
    simp only [List.map_cons, PyData.eqvAll, PyData.eqv, eqvAll_strs a b]
    by_cases h : x = y
    · subst h; simp
    · simp [h]
theorem dat_strs (ws : List Str) : (ws.map V.str).map datOf = ws.map PyData.str := by
  rw [List.map_map]; rfl

/-! ### rules whose reading says K: for a comprehension's block -/
section
variable {X : Cx}
def rListOf (K : PySem.W.Frag) : List V → Hp → VK → Prop := fun xs H Q => ∃ p ys, xs = [.ref p] ∧ (SqL K H p ys ∨ SqT K H p ys) ∧ ∀ l, H l = none → Q (.ref l) (upd H l (.lst ys))
theorem kListOf (K : PySem.W.Frag) (hK : X.K = K := by rfl) : CallR X (.type "list") (rListOf K) := by
  subst hK
  exact call_list_of
theorem kIxL (K : PySem.W.Frag) (hK : X.K = K := by rfl) : IxR X (rIxL K) := by
  subst hK
  exact ix_list
theorem kIxT (K : PySem.W.Frag) (hK : X.K = K := by rfl) : IxR X (rIxT K) := by
  subst hK
  exact ix_tup
theorem kIn (K : PySem.W.Frag) (hK : X.K = K := by rfl) : OpR X (compareOp .In) (rIn K false) := by
  subst hK
  exact op_in_seq
theorem kNotIn (K : PySem.W.Frag) (hK : X.K = K := by rfl) : OpR X (compareOp .NotIn) (rIn K true) := by
  subst hK
  exact op_notIn_seq
theorem kAll (K : PySem.W.Frag) (hc : X.calm = true) (hK : X.K = K := by rfl) : CallR X (.builtin "all") (rAll K) := by
  subst hK
  exact cr_all hc
theorem kAny (K : PySem.W.Frag) (hc : X.calm = true) (hK : X.K = K := by rfl) : CallR X (.builtin "any") (rAny K) := by
  subst hK
  exact cr_any hc
end

/-! ### comprehensions that leave all as it is -/
theorem range_fm {α β : Type} {f : α → Option β} : ∀ {xs : List α}, (List.range xs.length).filterMap (fun i => xs[i]?.bind f) = xs.filterMap f
  | [] => rfl
  | x :: xs => by
    rw [List.length_cons, List.range_succ_eq_map, List.filterMap_cons, List.filterMap_map, List.filterMap_cons]
    have ih := range_fm (f := f) (xs := xs)
    have e : ((fun i => (x :: xs)[i]?.bind f) ∘ Nat.succ) = fun i => xs[i]?.bind f := by
      funext i
      simp
    rw [e, ih]
    rfl
section
variable {J : It} {n : Nat} {G : Hp → Prop} {Y : Nat → Hp → V → Hp → Prop}
theorem lc_fm (w : Walk J n G Y) (F : Nat → Option V) {g : TG} {tt : TT} {te : TE} {vs : List Nat} {σ : L2.St} {H1 : Hp} {D : Addr} {Qd : Hp → Prop} (hG : ∀ H, Same H1 H → G H) (hD : H1 D = none) (hn : n ≤ 1000)
    (hs : ∀ i x H H', i < n → Same H1 H → Y i H x H' → ∀ (N : V → Hp → Prop) (N0 : Hp → Prop), (∀ y H4, F i = some y → Same H H4 → N y H4) → (∀ H3, F i = none → Same H H3 → N0 H3) →
      g x (wipe σ vs) H' fun σ2 H2 => wipe σ2 vs = wipe σ vs ∧ tt σ2 H2 fun b H3 => if b = true then te σ2 H3 N else N0 H3)
    (hd : ∀ H, Same H1 H → H D = some (.lst ((List.range n).filterMap F)) → Qd H) :
    ∃ W : Nat → Nat → Hp → Prop, (∃ m, W 0 m (upd H1 D (.lst []))) ∧ ∀ i m H, W i m H →
      (J.stop i H ∧ Qd H) ∨ (J.go i H ∧ ∃ Nx : Hp → Prop, (∀ H', Nx H' → ∃ m', m' < m ∧ W (i + 1) m' H') ∧ ∀ x H', J.yld i H x H' → g x (wipe σ vs) H' fun σ2 H2 => wipe σ2 vs = wipe σ vs ∧ tt σ2 H2 fun b H3 =>
        if b = true then te σ2 H3 fun y H4 => ∃ acc, H4 D = some (.lst acc) ∧ acc.length < sizeLine ∧ Nx (upd H4 D (.lst (acc ++ [y]))) else Nx H3) := by
  refine lc_it w (fun i H => Same H1 H ∧ H D = some (.lst ((List.range i).filterMap F))) ⟨(Same.refl H1).new hD _, upd_same⟩ (fun i H _ h => hG H h.1) (fun i x H H' hi h y => ?_) fun H h => hd H h.1 h.2
  have hl : ((List.range i).filterMap F).length ≤ i := by
    have := List.length_filterMap_le F (List.range i)
    rwa [List.length_range] at this
  refine hs i x H H' hi h.1 y _ _ (fun z H4 e sm => ⟨_, sm _ _ h.2, small1000 (by omega), (h.1.trans sm).new hD _, ?_⟩) fun H3 e sm => ⟨h.1.trans sm, ?_⟩
  · rw [upd_same, List.range_succ, List.filterMap_append, List.filterMap_cons, e]
    rfl
  · rw [sm _ _ h.2, List.range_succ, List.filterMap_append, List.filterMap_cons, e]
    simp
/-- over a list -/
theorem lc_fml {K : PySem.W.Frag} {a : Addr} {xs : List V} (f : V → Option V) {g : TG} {tt : TT} {te : TE} {vs : List Nat} {σ : L2.St} {H1 : Hp} {D : Addr} {Qd : Hp → Prop} (hG : ∀ H, Same H1 H → SqL K H a xs) (hD : H1 D = none) (hn : xs.length ≤ 1000)
    (hs : ∀ (i : Nat) (x : V) (H : Hp), xs[i]? = some x → Same H1 H → ∀ (N : V → Hp → Prop) (N0 : Hp → Prop), (∀ y H4, f x = some y → Same H H4 → N y H4) → (∀ H3, f x = none → Same H H3 → N0 H3) →
      g x (wipe σ vs) H fun σ2 H2 => wipe σ2 vs = wipe σ vs ∧ tt σ2 H2 fun b H3 => if b = true then te σ2 H3 N else N0 H3)
    (hd : ∀ H, Same H1 H → H D = some (.lst (xs.filterMap f)) → Qd H) :
    ∃ W : Nat → Nat → Hp → Prop, (∃ m, W 0 m (upd H1 D (.lst []))) ∧ ∀ i m H, W i m H →
      ((Itl K a).stop i H ∧ Qd H) ∨ ((Itl K a).go i H ∧ ∃ Nx : Hp → Prop, (∀ H', Nx H' → ∃ m', m' < m ∧ W (i + 1) m' H') ∧ ∀ x H', (Itl K a).yld i H x H' → g x (wipe σ vs) H' fun σ2 H2 => wipe σ2 vs = wipe σ vs ∧ tt σ2 H2 fun b H3 =>
        if b = true then te σ2 H3 fun y H4 => ∃ acc, H4 D = some (.lst acc) ∧ acc.length < sizeLine ∧ Nx (upd H4 D (.lst (acc ++ [y]))) else Nx H3) := by
  refine lc_fm (n := xs.length) (walk_list (K := K) (a := a) (xs := xs)) (fun i => xs[i]?.bind f) hG hD hn (fun i x H H' hi s1 y N N0 hy h0 => ?_) fun H s1 h => hd H s1 (by rw [range_fm] at h; exact h)
  obtain ⟨rfl, hx⟩ := y
  exact hs i x _ hx s1 N N0 (fun z H4 e sm => hy z H4 (by rw [hx]; exact e) sm) fun H3 e sm => h0 H3 (by rw [hx]; exact e) sm
/-- over a tuple -/
theorem lc_fmt {K : PySem.W.Frag} {a : Addr} {xs : List V} (f : V → Option V) {g : TG} {tt : TT} {te : TE} {vs : List Nat} {σ : L2.St} {H1 : Hp} {D : Addr} {Qd : Hp → Prop} (hG : ∀ H, Same H1 H → SqT K H a xs) (hD : H1 D = none) (hn : xs.length ≤ 1000)
    (hs : ∀ (i : Nat) (x : V) (H : Hp), xs[i]? = some x → Same H1 H → ∀ (N : V → Hp → Prop) (N0 : Hp → Prop), (∀ y H4, f x = some y → Same H H4 → N y H4) → (∀ H3, f x = none → Same H H3 → N0 H3) →
      g x (wipe σ vs) H fun σ2 H2 => wipe σ2 vs = wipe σ vs ∧ tt σ2 H2 fun b H3 => if b = true then te σ2 H3 N else N0 H3)
    (hd : ∀ H, Same H1 H → H D = some (.lst (xs.filterMap f)) → Qd H) :
    ∃ W : Nat → Nat → Hp → Prop, (∃ m, W 0 m (upd H1 D (.lst []))) ∧ ∀ i m H, W i m H →
      ((Itt K a).stop i H ∧ Qd H) ∨ ((Itt K a).go i H ∧ ∃ Nx : Hp → Prop, (∀ H', Nx H' → ∃ m', m' < m ∧ W (i + 1) m' H') ∧ ∀ x H', (Itt K a).yld i H x H' → g x (wipe σ vs) H' fun σ2 H2 => wipe σ2 vs = wipe σ vs ∧ tt σ2 H2 fun b H3 =>
        if b = true then te σ2 H3 fun y H4 => ∃ acc, H4 D = some (.lst acc) ∧ acc.length < sizeLine ∧ Nx (upd H4 D (.lst (acc ++ [y]))) else Nx H3) := by
  refine lc_fm (n := xs.length) (walk_tup (K := K) (a := a) (xs := xs)) (fun i => xs[i]?.bind f) hG hD hn (fun i x H H' hi s1 y N N0 hy h0 => ?_) fun H s1 h => hd H s1 (by rw [range_fm] at h; exact h)
  obtain ⟨rfl, hx⟩ := y
  exact hs i x _ hx s1 N N0 (fun z H4 e sm => hy z H4 (by rw [hx]; exact e) sm) fun H3 e sm => h0 H3 (by rw [hx]; exact e) sm
/-- over a tuple of pairs -/
def Prs (H : Hp) (ps : List Addr) (P : List (Str × Str)) : Prop := Paired (fun (a : Addr) (p : Str × Str) => H a = some (.tup [.str p.1, .str p.2])) ps P
theorem Prs.same {H H' : Hp} {ps : List Addr} {P : List (Str × Str)} (h : Prs H ps P) (s : Same H H') : Prs H' ps P := Paired.mapP h fun a p e => s a _ e
theorem Prs.sm {x : Addr} {H H' : Hp} {ps : List Addr} {P : List (Str × Str)} (h : Prs H ps P) (s : Sm x H H') (hx : ∀ xs, H x ≠ some (.tup xs)) : Prs H' ps P := Paired.mapP h fun a p e => s a _ (fun q => hx _ (by rw [← q]; exact e)) e
theorem Prs.len {H : Hp} {ps : List Addr} {P : List (Str × Str)} (h : Prs H ps P) : ps.length = P.length := Paired.length h
theorem Paired.at {α β : Type} {R : α → β → Prop} : ∀ {l : List α} {m : List β}, Paired R l m → ∀ {i : Nat} {b : β}, m[i]? = some b → ∃ a, l[i]? = some a ∧ R a b
  | _, _, .nil, i, b, h => by simp at h
  | _, _, .cons r t, 0, b, h => by
    have e := Option.some.inj h
    subst e
    exact ⟨_, rfl, r⟩
  | _, _, .cons r t, i + 1, b, h => by
    obtain ⟨a, h1, h2⟩ := Paired.at t (i := i) (b := b) h
    exact ⟨a, h1, h2⟩
theorem Paired.at' {α β : Type} {R : α → β → Prop} : ∀ {l : List α} {m : List β}, Paired R l m → ∀ {i : Nat} {a : α}, l[i]? = some a → ∃ b, m[i]? = some b ∧ R a b
  | _, _, .nil, i, b, h => by simp at h
  | _, _, .cons r t, 0, b, h => by
    have e := Option.some.inj h
    subst e
    exact ⟨_, rfl, r⟩
  | _, _, .cons r t, i + 1, b, h => by
    obtain ⟨a, h1, h2⟩ := Paired.at' t (i := i) (a := b) h
    exact ⟨a, h1, h2⟩
theorem lc_fmp {K : PySem.W.Frag} {a : Addr} {ps : List Addr} {P : List (Str × Str)} (f : Str × Str → Option V) {g : TG} {tt : TT} {te : TE} {vs : List Nat} {σ : L2.St} {H1 : Hp} {D : Addr} {Qd : Hp → Prop} (hG : H1 a = some (.tup (ps.map V.ref))) (hP : Prs H1 ps P) (hD : H1 D = none) (hn : P.length ≤ 1000)
    (hs : ∀ p t H, p ∈ P → H t = some (.tup [.str p.1, .str p.2]) → Same H1 H → ∀ (N : V → Hp → Prop) (N0 : Hp → Prop), (∀ y H4, f p = some y → Same H H4 → N y H4) → (∀ H3, f p = none → Same H H3 → N0 H3) →
      g (.ref t) (wipe σ vs) H fun σ2 H2 => wipe σ2 vs = wipe σ vs ∧ tt σ2 H2 fun b H3 => if b = true then te σ2 H3 N else N0 H3)
    (hd : ∀ H, Same H1 H → H D = some (.lst (P.filterMap f)) → Qd H) :
    ∃ W : Nat → Nat → Hp → Prop, (∃ m, W 0 m (upd H1 D (.lst []))) ∧ ∀ i m H, W i m H →
      ((Itt K a).stop i H ∧ Qd H) ∨ ((Itt K a).go i H ∧ ∃ Nx : Hp → Prop, (∀ H', Nx H' → ∃ m', m' < m ∧ W (i + 1) m' H') ∧ ∀ x H', (Itt K a).yld i H x H' → g x (wipe σ vs) H' fun σ2 H2 => wipe σ2 vs = wipe σ vs ∧ tt σ2 H2 fun b H3 =>
        if b = true then te σ2 H3 fun y H4 => ∃ acc, H4 D = some (.lst acc) ∧ acc.length < sizeLine ∧ Nx (upd H4 D (.lst (acc ++ [y]))) else Nx H3) := by
  have hl : (ps.map V.ref).length = P.length := by rw [List.length_map]; exact hP.len
  refine lc_fm (n := (ps.map V.ref).length) (walk_tup (K := K) (a := a) (xs := ps.map V.ref)) (fun i => P[i]?.bind f) (fun H s => SqT.of (s _ _ hG)) hD (by omega) (fun i x H H' hi s1 y N N0 hy h0 => ?_) fun H s1 h => hd H s1 (by rw [hl, range_fm] at h; exact h)
  obtain ⟨rfl, hx⟩ := y
  rw [List.getElem?_map] at hx
  cases ht : ps[i]? with
  | none => rw [ht] at hx; cases hx
  | some t =>
    rw [ht] at hx
    have e : V.ref t = x := Option.some.inj hx
    subst e
    obtain ⟨p, hp, hr⟩ := Paired.at' hP ht
    exact hs p t _ (List.mem_of_getElem? hp) (s1 _ _ hr) s1 N N0 (fun z H4 e sm => hy z H4 (by rw [hp]; exact e) sm) fun H3 e sm => h0 H3 (by rw [hp]; exact e) sm
end
end Lk

set_option Elab.async false
set_option linter.all false
set_option maxRecDepth 100000
set_option maxHeartbeats 4000000
namespace Lk
open PySem PySem.Spec PyProof.Rows L2

abbrev sCell : Stmt := top 27
abbrev sPool : Stmt := top 28
abbrev sTake : Stmt := top 29
abbrev sOne : Stmt := top 30
abbrev sMixed : Stmt := top 31

/-- at a: a pool, three whole numbers -/
def PoolAt (H : Hp) (a : Addr) : Prop := ∃ x y z : Int, H a = some (.lst [.int x, .int y, .int z])
theorem PoolAt.some {H : Hp} {a : Addr} (h : PoolAt H a) : ∃ o, H a = some o := let ⟨_, _, _, e⟩ := h; ⟨_, e⟩

def spCell (K : PySem.W.Frag) : Sp := fun vs H Q _ => ∃ (a : Addr) (ns : List Int) (k : Int), vs = [.ref a, .int k] ∧ SqL K H a (ns.map V.int) ∧ 0 ≤ k ∧ k < 1000 ∧ ∀ H' z, Same H H' → Q (.int z) H'
def spPool (K : PySem.W.Frag) : Sp := fun vs H Q _ => ∃ (a : Addr) (ns : List Int) (k : Int), vs = [.ref a, .int k] ∧ SqL K H a (ns.map V.int) ∧ 0 ≤ k ∧ k < 1000 ∧ ∀ H' p, Same H H' → H p = none → PoolAt H' p → Q (.ref p) H'
def spTake : Sp := fun vs H Q _ => ∃ (a : Addr) (m : Int), vs = [.ref a, .int m] ∧ PoolAt H a ∧ 0 < m ∧ m < 1000 ∧ ∀ H' d, Sm a H H' → PoolAt H' a → 0 ≤ d → d < m → Q (.int d) H'
def spOne (K : PySem.W.Frag) : Sp := fun vs H Q _ => ∃ (a b : Addr) (xs : List V), vs = [.ref a, .ref b] ∧ PoolAt H a ∧ b ≠ a ∧ H b = some (.lst xs) ∧ xs ≠ [] ∧ xs.length < 1000 ∧ ∀ H' x, Sm a H H' → PoolAt H' a → x ∈ xs → Q x H'

section
variable {P : Program} {w : World} {K : PySem.W.Frag} {mg : Str → Option Value} {base : Heap}
theorem scCell : FnScope ["_law_script", "_law_k"] ["_law_script", "_law_k"] (defScope sCell) := ⟨rfl, rfl, rfl, by decide +kernel, rfl, by decide +kernel, by decide +kernel⟩
theorem cal_cell (B : Blt mg) (D : Def K mg "_law_cell" sCell) : Cal P w K mg base CX0 1 "_law_cell" (spCell K) := by
  refine D.cal scCell (fun vs H Q E h => ?_) (fun _ _ _ _ _ _ us hl => match us, hl with | [_, _], _ => rfl) (fun f cdv A outer s H vs Q E hr h => ?_)
  · obtain ⟨a, ns, k, rfl, _⟩ := h
    rfl
  · obtain ⟨a, ns, k, rfl, hS, h0, hk, q⟩ := h
    refine ⟨_, pss_one (ps_ret (pe_ifExp (pt_cmpR op_lt (pv 1) (pe_callB call_len_seq (by rfl) B.len PySem.boot_len (pa_cons (pv 0) pa_nil)) (nomark _)) (pe_ix ix_list (pv 0) (pv 1) (fun _ _ => rfl))
      (pe_op op_mod (pe_op op_add (pe_callB (cr_sum rfl) (by rfl) B.sum (by decide +kernel) (pa_cons (pe_slice sl_list (pv 0) po_none (po_some pe_int)) pa_nil)) (pe_op op_mul pe_int (pv 1))) pe_int))), ?_⟩
    refine ⟨_, rfl, _, rfl, a, _, rfl, .inl hS, _, _, rfl, rfl, _, rfl, ite2 (fun c => ?_) (fun c => ?_)⟩
    · have c := of_decide_eq_true c
      rw [List.length_map] at c
      obtain ⟨z, hz⟩ : ∃ z, ns[k.toNat]? = some z := ⟨_, List.getElem?_eq_getElem (by omega)⟩
      refine ⟨_, rfl, _, rfl, a, _, k, .int z, rfl, rfl, hS, at_of (j := k.toNat) (by omega) (by rw [List.getElem?_map, hz]; rfl), ?_⟩
      exact q H z (Same.refl H)
    · refine ⟨_, rfl, 1, rfl, a, _, rfl, hS, fun p hp => ⟨p, ns.take 1, rfl, SqL.of ?_, _, rfl, 7919, k, rfl, rfl, .inl ⟨by decide, by decide⟩, _, _, rfl, rfl, _, _, rfl, rfl, (by show (0 : Int) < 1000003; decide), q _ _ ((Same.refl H).new hp _)⟩⟩
      rw [upd_same]
      unfold cutV
      congr 2
      rw [List.map_take]
      cases ns with
      | nil => rfl
      | cons x r => simp [HT.sIx]
theorem scTake : FnScope ["_law_pool_here", "_law_many", "_law_digit"] ["_law_pool_here", "_law_many"] (defScope sTake) := ⟨rfl, rfl, rfl, by decide +kernel, rfl, by decide +kernel, by decide +kernel⟩
theorem cal_take (B : Blt mg) (D : Def K mg "_law_take" sTake) : Cal P w K mg base CX0 1 "_law_take" spTake := by
  refine D.cal scTake (fun vs H Q E h => ?_) (fun _ _ _ _ _ _ us hl => match us, hl with | [_, _], _ => rfl) (fun f cdv A outer s H vs Q E hr h => ?_)
  · obtain ⟨a, m, rfl, _⟩ := h
    rfl
  · obtain ⟨a, m, rfl, ⟨x, y, z, hp⟩, h0, h1, q⟩ := h
    have ix0 : ∀ {X : Cx}, PE X (.Constant (.int 0) 0 ⟨0,0,0,0⟩) (tC (.int 0)) := pe_int
    refine ⟨_, pss_cons (ps_if (pt_cmpR op_gt (pe_ix ix_list (pv 0) pe_int (fun _ _ => rfl)) pe_int (nomark _))
        (pss_cons (ps_set (i := 2) scTake.nd rfl (Or.inl rfl) (pe_op op_modN (pe_callTy call_int1 (by rfl) B.int (by decide +kernel) (pa_cons (pe_ix ix_list (pv 0) pe_int (fun _ _ => rfl)) pa_nil)) (pv 1)))
        (pss_cons (ps_asg (pe_op op_fdivN (pe_ix ix_list (pv 0) pe_int (fun _ _ => rfl)) (pv 1)) (pg_sub (pv 0) pe_int set_list))
        (pss_one (ps_ret (pv 2))))) pss_nil)
      (pss_cons (ps_asg (pe_op op_add (pe_ix ix_list (pv 0) pe_int (fun _ _ => rfl)) pe_int) (pg_sub (pv 0) pe_int set_list))
      (pss_cons (ps_asg (pe_op op_mod (pe_callTy call_int1 (by rfl) B.int (by decide +kernel) (pa_cons (pe_op op_add (pe_op op_add (pe_op op_mul (pe_ix ix_list (pv 0) pe_int (fun _ _ => rfl)) pe_int) (pe_op op_mul (pe_ix ix_list (pv 0) pe_int (fun _ _ => rfl)) pe_int)) pe_int) pa_nil)) pe_int) (pg_sub (pv 0) pe_int set_list))
      (pss_one (ps_ret (pe_op op_modN (pe_callTy call_int1 (by rfl) B.int (by decide +kernel) (pa_cons (pe_op op_add (pe_op op_fdivN (pe_ix ix_list (pv 0) pe_int (fun _ _ => rfl)) pe_int) (pe_ix ix_list (pv 0) pe_int (fun _ _ => rfl))) pa_nil)) (pv 1)))))), ?_⟩
    have hf : ∀ u : Int, 0 ≤ u.fmod m ∧ u.fmod m < m := fun u => ⟨Int.fmod_nonneg_of_pos _ h0, Int.fmod_lt_of_pos _ h0⟩
    refine ⟨_, rfl, a, _, 0, .int x, rfl, rfl, SqL.of hp, rfl, _, _, rfl, rfl, _, rfl, ite2 (fun c => ?_) (fun c => ?_)⟩
    · refine ⟨_, rfl, a, _, 0, .int x, rfl, rfl, SqL.of hp, rfl, .inl ⟨_, rfl, _, rfl, _, _, rfl, rfl, (by omega), ?_⟩⟩
      refine ⟨_, rfl, a, _, 0, .int x, rfl, rfl, SqL.of hp, rfl, _, rfl, _, _, rfl, rfl, ⟨by omega, by omega⟩, _, rfl, a, _, 0, 0, rfl, rfl, hp, rfl, _, rfl, ?_⟩
      exact q _ _ ((Sm.refl a H).put _) ⟨_, _, _, upd_same⟩ (hf x).1 (hf x).2
    · refine ⟨_, rfl, a, _, 2, .int z, rfl, rfl, SqL.of hp, rfl, _, _, rfl, rfl, _, rfl, a, _, 2, 2, rfl, rfl, hp, rfl, ?_⟩
      refine ⟨_, rfl, a, _, 1, .int y, rfl, rfl, SqL.of upd_same, rfl, y, 40692, rfl, rfl, .inr ⟨by decide, by decide⟩, _, rfl, a, _, 2, .int (z + 1), rfl, rfl, SqL.of upd_same, rfl, (z + 1), 12211, rfl, rfl, .inr ⟨by decide, by decide⟩, _, _, rfl, rfl, _, _, rfl, rfl,
        .inl ⟨_, rfl, _, _, rfl, rfl, (by show (0 : Int) < 2147483629; decide), _, rfl, a, _, 1, 1, rfl, rfl, upd_same, rfl, ?_⟩⟩
      rw [upd_upd]
      refine ⟨_, rfl, a, _, 1, .int _, rfl, rfl, SqL.of upd_same, rfl, _, 8192, rfl, rfl, ⟨by decide, by decide⟩, _, rfl, a, _, 1, .int _, rfl, rfl, SqL.of upd_same, rfl, _, _, rfl, rfl, .inl ⟨_, rfl, _, rfl, _, _, rfl, rfl, (by omega), ?_⟩⟩
      exact q _ _ ((Sm.refl a H).put _) ⟨_, _, _, upd_same⟩ (hf _).1 (hf _).2
theorem scPool : FnScope ["_law_script", "_law_k", "_law_cell_here", "_law_seed", "_law_more"] ["_law_script", "_law_k"] (defScope sPool) := ⟨rfl, rfl, rfl, by decide +kernel, rfl, by decide +kernel, by decide +kernel⟩
theorem cal_pool (B : Blt mg) (D : Def K mg "_law_pool" sPool) (CC : Cal P w K mg base CX0 1 "_law_cell" (spCell K)) : Cal P w K mg base CX0 2 "_law_pool" (spPool K) := by
  refine D.cal scPool (fun vs H Q E h => ?_) (fun _ _ _ _ _ _ us hl => match us, hl with | [_, _], _ => rfl) (fun f cdv A outer s H vs Q E hr h => ?_)
  · obtain ⟨a, ns, k, rfl, _⟩ := h
    rfl
  · obtain ⟨a, ns, k, rfl, hS, h0, hk, q⟩ := h
    refine ⟨_, pss_cons (ps_par (i := 2) (j := 3) (by rfl) scPool.nd rfl rfl (by decide) rfl rfl (pa_cons (pe_callB call_abs (by rfl) B.abs (by decide +kernel) (pa_cons (pe_cc CC hr (by decide) pass0 (pa_cons (pv 0) (pa_cons (pv 1) pa_nil))) pa_nil)) (pa_cons (pe_op op_add pe_int (pv 1)) pa_nil)) (by rfl))
      (pss_cons (ps_for PassesOwn.never rfl (pi_list (pe_slice sl_list (pv 0) po_none (po_some pe_int))) (pg_name (i := 4) scPool.nd rfl (Or.inl rfl))
        (pss_one (ps_set (i := 3) scPool.nd rfl (Or.inl rfl) (pe_op op_mod (pe_callTy call_int1 (by rfl) B.int (by decide +kernel) (pa_cons (pe_op op_add (pe_op op_add (pe_op op_mul (pv 3) pe_int) (pv 4)) pe_int) pa_nil)) pe_int))))
      (pss_one (ps_ret (pe_lst (pa_cons (pe_ifExp (pt_cmpR op_ge (pv 2) (pe_op op_pow pe_int pe_int) (nomark _)) (pv 2) pe_int)
        (pa_cons (pe_op op_mod (pe_callTy call_int1 (by rfl) B.int (by decide +kernel) (pa_cons (pe_op op_add (pe_op op_add (pv 3) (pv 2)) (pe_op op_mul pe_int (pv 1))) pa_nil)) pe_int) (pa_cons pe_int pa_nil))))))), ?_⟩
    refine ⟨_, rfl, _, rfl, a, ns, k, rfl, hS, h0, hk, fun H1 z s1 => ⟨z, rfl, ?_⟩⟩
    generalize (if z < 0 then -z else z) = c
    refine ⟨_, rfl, _, _, rfl, rfl, _, _, rfl, ?_⟩
    refine ⟨_, rfl, 60, rfl, a, _, rfl, s1.seq hS, fun p hp => ⟨p, rfl, ⟨_, SqL.of upd_same⟩, ?_⟩⟩
    have hH : ∃ ms : List Int, cutV (ns.map V.int) none (some 60) = ms.map V.int := ⟨(ns.drop (HT.sIx (ns.map V.int).length 0 none)).take (HT.sIx (ns.map V.int).length (ns.map V.int).length (some 60) - HT.sIx (ns.map V.int).length 0 none), by
      unfold cutV
      rw [List.map_take, List.map_drop]⟩
    obtain ⟨ms, em⟩ := hH
    rw [em]
    have hp0 : H p = none := s1.free hp
    have s2 : Same H (upd H1 p (.lst (ms.map V.int))) := s1.new hp0 _
    refine for_list (K := K) (a := p) (xs := ms.map V.int) (fun i σ H' => (∃ (z : Int) (v : Option V), σ = [some (.ref a), some (.int k), some (.int c), some (.int z), v]) ∧ Same H H' ∧ H' p = some (.lst (ms.map V.int)))
      ⟨⟨_, _, rfl⟩, s2, upd_same⟩ (fun i σ H' _ h => SqL.of h.2.2) ?_ ?_
    · rintro i y σ H' hi ⟨⟨z, v, rfl⟩, s3, hp3⟩
      obtain ⟨u, rfl⟩ : ∃ u, y = V.int u := by
        rw [List.getElem?_map] at hi
        cases e : ms[i]? with
        | none => rw [e] at hi; cases hi
        | some u => rw [e] at hi; exact ⟨u, (Option.some.inj hi).symm⟩
      refine ⟨_, rfl, z, 31, rfl, rfl, .inr ⟨by decide, by decide⟩, _, rfl, _, _, rfl, rfl, _, 7, rfl, rfl, .inl ⟨_, rfl, _, _, rfl, rfl, (by show (0 : Int) < 2147483629; decide), ⟨_, _, rfl⟩, s3, hp3⟩⟩
    · rintro σ H' ⟨⟨z, v, rfl⟩, s3, hp3⟩
      have last : ∀ x y : Int, ([V.int x, V.int y, V.int 0] : List V).length ≤ sizeLine ∧ ∀ p, H' p = none → Q (.ref p) (upd H' p (.lst [V.int x, V.int y, V.int 0])) := fun x y =>
        ⟨by show 3 ≤ sizeLine; decide, fun p hp => q _ p (s3.new (s3.free hp) _) (s3.free hp) ⟨_, _, _, upd_same⟩⟩
      refine ⟨_, rfl, 10, 18, rfl, rfl, ⟨by decide, by decide, by decide⟩, _, _, rfl, rfl, _, rfl, ite2 (fun _ => ?_) (fun _ => ?_)⟩
      · exact ⟨_, rfl, _, rfl, _, rfl, _, _, rfl, rfl, _, rfl, 977, k, rfl, rfl, .inl ⟨by decide, by decide⟩, _, _, rfl, rfl, .inl ⟨_, rfl, _, _, rfl, rfl, (by show (0 : Int) < 2147483629; decide), last _ _⟩⟩
      · exact ⟨_, rfl, _, rfl, _, _, rfl, rfl, _, rfl, 977, k, rfl, rfl, .inl ⟨by decide, by decide⟩, _, _, rfl, rfl, .inl ⟨_, rfl, _, _, rfl, rfl, (by show (0 : Int) < 2147483629; decide), last _ _⟩⟩
theorem scOne : FnScope ["_law_pool_here", "_law_things"] ["_law_pool_here", "_law_things"] (defScope sOne) := ⟨rfl, rfl, rfl, by decide +kernel, rfl, by decide +kernel, by decide +kernel⟩
theorem cal_one (B : Blt mg) (D : Def K mg "_law_one" sOne) (CT : Cal P w K mg base CX0 1 "_law_take" spTake) : Cal P w K mg base CX0 2 "_law_one" (spOne K) := by
  refine D.cal scOne (fun vs H Q E h => ?_) (fun _ _ _ _ _ _ us hl => match us, hl with | [_, _], _ => rfl) (fun f cdv A outer s H vs Q E hr h => ?_)
  · obtain ⟨a, b, xs, rfl, _⟩ := h
    rfl
  · obtain ⟨a, b, xs, rfl, hp, hb, hx, hne, hl, q⟩ := h
    refine ⟨_, pss_one (ps_ret (pe_ix ix_list (pv 1) (pe_cc CT hr (by decide) pass0 (pa_cons (pv 0) (pa_cons (pe_callB call_len_seq (by rfl) B.len PySem.boot_len (pa_cons (pv 1) pa_nil)) pa_nil))) (fun _ _ => rfl))), ?_⟩
    have hpos : 0 < xs.length := List.length_pos_iff.mpr hne
    refine ⟨_, rfl, _, rfl, _, rfl, b, xs, rfl, .inl (SqL.of hx), a, _, rfl, hp, by omega, by omega, fun H1 d s1 p1 d0 d1 => ?_⟩
    obtain ⟨z, hz⟩ : ∃ z, xs[d.toNat]? = some z := ⟨_, List.getElem?_eq_getElem (by omega)⟩
    exact ⟨b, xs, d, z, rfl, rfl, SqL.of (s1 _ _ hb hx), at_of (j := d.toNat) (by omega) hz, q _ _ s1 p1 (List.mem_of_getElem? hz)⟩
def spMixed : Sp := fun vs H Q _ => ∃ (a b : Addr) (xs : List V), vs = [.ref a, .ref b] ∧ PoolAt H a ∧ b ≠ a ∧ H b = some (.lst xs) ∧ xs.all scl = true ∧ xs.length < 900 ∧
  ∀ H' p ys, ys.Perm xs → Sm a H H' → PoolAt H' a → H p = none → p ≠ a → H' p = some (.lst ys) → Q (.ref p) H'
theorem scMixed : FnScope ["_law_pool_here", "_law_things", "_law_left", "_law_found"] ["_law_pool_here", "_law_things"] (defScope sMixed) := ⟨rfl, rfl, rfl, by decide +kernel, rfl, by decide +kernel, by decide +kernel⟩
theorem erase_perm {α : Type} : ∀ {l : List α} {i : Nat} {x : α}, l[i]? = some x → (x :: l.eraseIdx i).Perm l
  | [], i, x, h => by simp at h
  | a :: l, 0, x, h => by
    have e : a = x := Option.some.inj h
    subst e
    exact List.Perm.refl _
  | a :: l, i + 1, x, h => by
    have ih := erase_perm (l := l) (i := i) (x := x) h
    exact (List.Perm.swap a x _).trans (List.Perm.cons a ih)
theorem cal_mixed (B : Blt mg) (D : Def K mg "_law_mixed" sMixed) (CT : Cal P w K mg base CX0 1 "_law_take" spTake) : Cal P w K mg base CX0 2 "_law_mixed" spMixed := by
  refine D.cal scMixed (fun vs H Q E h => ?_) (fun _ _ _ _ _ _ us hl => match us, hl with | [_, _], _ => rfl) (fun f cdv A outer s H vs Q E hr h => ?_)
  · obtain ⟨a, b, xs, rfl, _⟩ := h
    rfl
  · obtain ⟨a, b, xs, rfl, hp, hb, hx, hs, hl, q⟩ := h
    refine ⟨_, pss_cons (ps_par (i := 2) (j := 3) (by rfl) scMixed.nd rfl rfl (by decide) rfl rfl (pa_cons (pe_callTy call_list_of (by rfl) B.list (by decide +kernel) (pa_cons (pv 1) pa_nil)) (pa_cons (pe_lst pa_nil) pa_nil)) (by rfl))
      (pss_cons (ps_while PassesOwn.never (pt_cmpR (op_neD hr.units) (pv 2) (pe_lst pa_nil) (nomark _))
        (pss_one (ps_expr (pe_bm PySem.F.plainAttrs_list PySem.F.slot_list_append PySem.F.type_list_append mt_append (pv 3) (pa_cons
          (pe_bm PySem.F.plainAttrs_list PySem.F.slot_list_pop PySem.F.type_list_pop mt_popAt (pv 2) (pa_cons (pe_cc CT hr (by decide) pass0 (pa_cons (pv 0) (pa_cons (pe_callB call_len_seq (by rfl) B.len PySem.boot_len (pa_cons (pv 2) pa_nil)) pa_nil))) pa_nil)) pa_nil)))))
      (pss_one (ps_ret (pv 3)))), ?_⟩
    obtain ⟨po, hpo⟩ := hp.some
    refine ⟨_, rfl, b, xs, rfl, .inl (SqL.of hx), fun l hl0 => ⟨Nat.zero_le _, fun g hg0 => ⟨_, _, rfl, ?_⟩⟩⟩
    have nlg : g ≠ l := fun e => by rw [e, upd_same] at hg0; cases hg0
    have hg1 : H g = none := by rw [upd_ne nlg] at hg0; exact hg0
    have nla : l ≠ a := (ne_of_none hpo hl0).symm
    have nga : g ≠ a := (ne_of_none hpo hg1).symm
    refine ⟨fun m σ H' => ∃ (ls gs : List V), m = ls.length ∧ σ = [some (.ref a), some (.ref b), some (.ref l), some (.ref g)] ∧ (gs ++ ls).Perm xs ∧ Sm a H H' ∧ PoolAt H' a ∧ H' l = some (.lst ls) ∧ H' g = some (.lst gs), ⟨xs.length, xs, [], rfl, rfl, List.Perm.refl _, ?_, ?_, ?_, upd_same⟩, ?_⟩
    · exact Sm.of (((Same.refl H).new hl0 _).new hg1 _)
    · obtain ⟨x, y, z, e⟩ := hp
      exact ⟨x, y, z, by rw [upd_ne nga.symm, upd_ne nla.symm]; exact e⟩
    · rw [upd_ne nlg.symm, upd_same]
    · rintro m σ H' ⟨ls, gs, rfl, rfl, pm, sm, pl, h1, h2⟩
      have hsl : ls.all scl = true := List.all_eq_true.mpr fun x hx => List.all_eq_true.mp hs x (pm.mem_iff.mp (List.mem_append_right _ hx))
      have hln : gs.length + ls.length = xs.length := by rw [← List.length_append]; exact pm.length_eq
      refine ⟨_, rfl, Nat.zero_le _, fun e he => ?_⟩
      have nle : e ≠ l := (ne_of_none h1 he).symm
      have nge : e ≠ g := (ne_of_none h2 he).symm
      obtain ⟨po', hpo'⟩ := pl.some
      have nae : e ≠ a := (ne_of_none hpo' he).symm
      refine ⟨_, _, dp_list (by rw [upd_ne nle.symm]; exact h1) hsl, .lst (SqL.of upd_same) .nil, shp_dat hsl, shp_nil, ?_⟩
      rw [eqv_nil]
      cases ls with
      | nil =>
        refine ⟨_, rfl, iteF ?_⟩
        refine ⟨_, rfl, q _ g gs (by rw [List.append_nil] at pm; exact pm) (sm.new (sm.free nae he) _) ?_ hg1 nga (by rw [upd_ne nge.symm]; exact h2)⟩
        obtain ⟨x, y, z, e1⟩ := pl
        exact ⟨x, y, z, by rw [upd_ne nae.symm]; exact e1⟩
      | cons u us =>
        refine ⟨_, rfl, iteT ⟨fun σ' H' => ∃ (ls gs : List V), ls.length = us.length ∧ σ' = [some (.ref a), some (.ref b), some (.ref l), some (.ref g)] ∧ (gs ++ ls).Perm xs ∧ Sm a H H' ∧ PoolAt H' a ∧ H' l = some (.lst ls) ∧ H' g = some (.lst gs), ?_, ?_⟩⟩
        · rintro σ' H2 ⟨ls, gs, e1, r⟩
          exact ⟨us.length, Nat.lt_succ_self _, ls, gs, e1.symm, r⟩
        · have pl1 : PoolAt (upd H' e (.lst [])) a := by
            obtain ⟨x, y, z, e1⟩ := pl
            exact ⟨x, y, z, by rw [upd_ne nae.symm]; exact e1⟩
          have h1' : upd H' e (.lst []) l = some (.lst (u :: us)) := by rw [upd_ne nle.symm]; exact h1
          have h2' : upd H' e (.lst []) g = some (.lst gs) := by rw [upd_ne nge.symm]; exact h2
          have sm' : Sm a H (upd H' e (.lst [])) := sm.new (sm.free nae he) _
          refine ⟨_, rfl, .inl ⟨rfl, _, SqL.of h2'⟩, _, rfl, .inl ⟨rfl, _, SqL.of h1'⟩, _, rfl, _, rfl, l, _, rfl, .inl (SqL.of h1'), a, _, rfl, pl1, (by simp only [List.length_cons]; omega), (by simp only [List.length_cons] at hln ⊢; omega), fun H2 d s2 p2 d0 d1 => ?_⟩
          obtain ⟨z, hz⟩ : ∃ z, (u :: us)[d.toNat]? = some z := ⟨_, List.getElem?_eq_getElem (by omega)⟩
          have k1 : H2 l = some (.lst (u :: us)) := s2 _ _ nla h1'
          have k2 : H2 g = some (.lst gs) := s2 _ _ nga h2'
          have hsi : seqIndex? d (u :: us).length = some d.toNat := (ixN_seq (n := (u :: us).length) (i := d) (j := d.toNat) (by unfold ixN; rw [if_pos d0, if_pos d1])).1
          have pm2 := erase_perm hz
          have hlen := pm2.length_eq
          refine ⟨l, _, d, _, z, rfl, rfl, k1, by omega, by simp only [List.length_cons] at hln d1; omega, hsi, hz, g, gs, z, rfl, rfl, by rw [upd_ne nlg]; exact k2, small1000 (by simp only [List.length_cons] at hln; omega), ?_⟩
          refine ⟨(u :: us).eraseIdx d.toNat, gs ++ [z], by simp only [List.length_cons] at hlen; omega, rfl, ?_, ?_, ?_, ?_, upd_same⟩
          · have : (gs ++ [z] ++ (u :: us).eraseIdx d.toNat) = gs ++ (z :: (u :: us).eraseIdx d.toNat) := by simp
            rw [this]
            exact (List.Perm.append_left gs pm2).trans pm
          · exact ((sm'.trans s2).new hl0 _).new hg1 _
          · obtain ⟨x, y, w', e1⟩ := p2
            exact ⟨x, y, w', by rw [upd_ne nga.symm, upd_ne nla.symm]; exact e1⟩
          · rw [upd_ne nlg.symm, upd_same]
end
end Lk

set_option Elab.async false
set_option linter.all false
set_option maxRecDepth 100000
set_option maxHeartbeats 4000000
namespace Lk
open PySem PySem.Spec PyProof.Rows L2

abbrev sIsInt : Stmt := top 2
abbrev sIsNat : Stmt := top 3
abbrev sIsList : Stmt := top 4
abbrev sIsPair : Stmt := top 5
abbrev sIsWord : Stmt := top 6
abbrev sFirstBad : Stmt := top 7
abbrev sIsWish : Stmt := top 16

/-! ### promises -/
/-- what isinstance tells of a thing: whether it is an int, a bool -/
def IntTy (K : PySem.W.Frag) (H : Hp) (x : V) (b : Bool) : Prop := ∃ (t : Value) (b1 b2 : Bool), TyX K H x t ∧ PySem.W.kitOne K t (.type "int") = some b1 ∧ PySem.W.kitOne K t (.type "bool") = some b2 ∧ (b1 && !b2) = b
def spIsInt (K : PySem.W.Frag) : Sp := fun vs H Q _ => ∃ (x : V) (b : Bool), vs = [x] ∧ IntTy K H x b ∧ Q (.bl b) H
/-- a number from 0 on, or no such thing -/
def NatV (K : PySem.W.Frag) (H : Hp) (x : V) (b : Bool) : Prop := (∃ i : Int, x = .int i ∧ b = decide (0 ≤ i)) ∨ (IntTy K H x false ∧ b = false)
def spIsNat (K : PySem.W.Frag) : Sp := fun vs H Q _ => ∃ (x : V) (b : Bool), vs = [x] ∧ NatV K H x b ∧ Q (.bl b) H
def LTup (H : Hp) (a : Addr) : Prop := (∃ xs, H a = some (.lst xs)) ∨ ∃ xs, H a = some (.tup xs)
def spIsList : Sp := fun vs H Q _ => ∃ (a : Addr), vs = [.ref a] ∧ LTup H a ∧ ∀ H', Same H H' → Q (.bl true) H'
def spIsPair : Sp := fun vs H Q _ => ∃ (a : Addr) (x y : V), vs = [.ref a] ∧ H a = some (.tup [x, y]) ∧ ∀ H', Same H H' → Q (.bl true) H'
def spIsWord : Sp := fun vs H Q _ => ∃ (x : Str), vs = [.str x] ∧ okw x = true ∧ ∀ H', Same H H' → Q (.bl true) H'
def spFirstBad : Sp := fun vs H Q _ => ∃ (a b : Addr) (W : List Str), vs = [.ref a, .ref b] ∧ H a = some (.lst (W.map V.str)) ∧ H b = some (.lst []) ∧ Wds W ∧ W.Nodup ∧ W.length ≤ 900 ∧ ∀ H', Same H H' → Q .non H'
def spIsWish : Sp := fun vs H Q _ => ∃ (a t : Addr) (W : List Str) (p : Str × Str), vs = [.ref a, .ref t] ∧ H a = some (.lst (W.map V.str)) ∧ H t = some (.tup [.str p.1, .str p.2]) ∧ p.1 ∈ W ∧ p.2 ∈ W ∧ p.1 ≠ p.2 ∧ ∀ H', Same H H' → Q (.bl true) H'

theorem intTy_int {K : PySem.W.Frag} {H : Hp} (i : Int) : IntTy K H (.int i) true := ⟨.type "int", true, false, .base (.int i), kit_ty (by decide +kernel), kit_ty (by decide +kernel), rfl⟩
theorem natV_int {K : PySem.W.Frag} {H : Hp} (i : Int) : NatV K H (.int i) (decide (0 ≤ i)) := .inl ⟨i, rfl, rfl⟩

def letters : Str := Str.ofString "abcdefghijklmnopqrstuvwxyz"
theorem letters_range : letters.cps.toList = List.range' 97 26 := by decide +kernel
theorem letter_in {c : Nat} (h1 : 97 ≤ c) (h2 : c ≤ 122) : c ∈ letters.cps.toList := by
  rw [letters_range, List.mem_range'_1]
  omega

section
variable {P : Program} {w : World} {K : PySem.W.Frag} {mg : Str → Option Value} {base : Heap}
theorem scIsInt : FnScope ["thing"] ["thing"] (defScope sIsInt) := ⟨rfl, rfl, rfl, by decide +kernel, rfl, by decide +kernel, by decide +kernel⟩
theorem cal_isInt (B : Blt mg) (D : Def K mg "is_integer" sIsInt) : Cal P w K mg base CX0 1 "is_integer" (spIsInt K) := by
  refine D.cal scIsInt (fun vs H Q E h => ?_) (fun _ _ _ _ _ _ us hl => match us, hl with | [_], _ => rfl) (fun f cdv A outer s H vs Q E hr h => ?_)
  · obtain ⟨x, b, rfl, _⟩ := h
    rfl
  · obtain ⟨x, b, rfl, ⟨t, b1, b2, ty, e1, e2, e⟩, q⟩ := h
    refine ⟨_, pss_one (ps_ret (pe_and (pe_callB call_isi (by rfl) B.isinstance (by decide +kernel) (pa_cons (pv 0) (pa_cons (pe_bltn (v := .ty "int") (by rfl) B.int (by decide +kernel) rfl) pa_nil)))
      (pe_one (pe_not (pe_callB call_isi (by rfl) B.isinstance (by decide +kernel) (pa_cons (pv 0) (pa_cons (pe_bltn (v := .ty "bool") (by rfl) B.bool (by decide +kernel) rfl) pa_nil))))))), ?_⟩
    refine ⟨_, rfl, x, .ty "int", t, .type "int", b1, rfl, .ty _, ty, e1, b1, rfl, ?_⟩
    cases b1 with
    | true =>
      refine iteT ⟨_, rfl, x, .ty "bool", t, .type "bool", b2, rfl, .ty _, ty, e2, b2, rfl, ?_⟩
      have e' : (!b2) = b := e
      show Q (.bl (!b2)) H
      rw [e']
      exact q
    | false =>
      have e' : false = b := e
      refine iteF ?_
      show Q (.bl false) H
      rw [e']
      exact q
theorem scIsNat : FnScope ["thing"] ["thing"] (defScope sIsNat) := ⟨rfl, rfl, rfl, by decide +kernel, rfl, by decide +kernel, by decide +kernel⟩
theorem cal_isNat (B : Blt mg) (D : Def K mg "is_natural" sIsNat) (C1 : Cal P w K mg base CX0 1 "is_integer" (spIsInt K)) : Cal P w K mg base CX0 2 "is_natural" (spIsNat K) := by
  refine D.cal scIsNat (fun vs H Q E h => ?_) (fun _ _ _ _ _ _ us hl => match us, hl with | [_], _ => rfl) (fun f cdv A outer s H vs Q E hr h => ?_)
  · obtain ⟨x, b, rfl, _⟩ := h
    rfl
  · obtain ⟨x, b, rfl, ty, q⟩ := h
    refine ⟨_, pss_one (ps_ret (pe_and (pe_cc C1 hr (by decide) pass0 (pa_cons (pv 0) pa_nil)) (pe_one (pe_cmpR op_ge (pv 0) pe_int (nomark _))))), ?_⟩
    rcases ty with ⟨i, rfl, rfl⟩ | ⟨ty, rfl⟩
    · exact ⟨_, rfl, _, true, rfl, intTy_int i, true, rfl, iteT ⟨_, rfl, _, _, rfl, rfl, q⟩⟩
    · exact ⟨_, rfl, _, false, rfl, ty, false, rfl, iteF q⟩
theorem scIsList : FnScope ["thing"] ["thing"] (defScope sIsList) := ⟨rfl, rfl, rfl, by decide +kernel, rfl, by decide +kernel, by decide +kernel⟩
theorem cal_isList (B : Blt mg) (D : Def K mg "is_list" sIsList) : Cal P w K mg base CX0 1 "is_list" spIsList := by
  refine D.cal scIsList (fun vs H Q E h => ?_) (fun _ _ _ _ _ _ us hl => match us, hl with | [_], _ => rfl) (fun f cdv A outer s H vs Q E hr h => ?_)
  · obtain ⟨a, rfl, _⟩ := h
    rfl
  · obtain ⟨a, rfl, hl, q⟩ := h
    refine ⟨_, pss_one (ps_ret (pe_callB call_isiT (by rfl) B.isinstance (by decide +kernel) (pa_cons (pv 0) (pa_cons (pe_tup (pa_cons (pe_bltn (v := .ty "list") (by rfl) B.list (by decide +kernel) rfl) (pa_cons (pe_bltn (v := .ty "tuple") (by rfl) B.tuple (by decide +kernel) rfl) pa_nil))) pa_nil)))), ?_⟩
    refine ⟨_, rfl, (by show 2 ≤ sizeLine; decide), fun p hp => ?_⟩
    have fin := q _ ((Same.refl H).new hp (.tup [.ty "list", .ty "tuple"]))
    rcases hl with ⟨xs, hx⟩ | ⟨xs, hx⟩
    · exact ⟨_, p, _, .type "list", [.type "list", .type "tuple"], true, rfl, upd_same, .cons (.ty _) (.cons (.ty _) .nil), .base (.lst (by rw [upd_ne (ne_of_none hx hp)]; exact hx)), kitAny_cons (b := true) (kit_ty (by decide +kernel)) (fun z => by cases z) (fun _ => rfl), fin⟩
    · exact ⟨_, p, _, .type "tuple", [.type "list", .type "tuple"], true, rfl, upd_same, .cons (.ty _) (.cons (.ty _) .nil), .base (.tup (by rw [upd_ne (ne_of_none hx hp)]; exact hx)),
        kitAny_cons (b := false) (kit_ty (by decide +kernel)) (fun _ => kitAny_cons (b := true) (kit_ty (by decide +kernel)) (fun z => by cases z) (fun _ => rfl)) (fun z => by cases z), fin⟩
theorem scIsPair : FnScope ["thing"] ["thing"] (defScope sIsPair) := ⟨rfl, rfl, rfl, by decide +kernel, rfl, by decide +kernel, by decide +kernel⟩
theorem cal_isPair (B : Blt mg) (D : Def K mg "is_pair" sIsPair) (C1 : Cal P w K mg base CX0 1 "is_list" spIsList) : Cal P w K mg base CX0 2 "is_pair" spIsPair := by
  refine D.cal scIsPair (fun vs H Q E h => ?_) (fun _ _ _ _ _ _ us hl => match us, hl with | [_], _ => rfl) (fun f cdv A outer s H vs Q E hr h => ?_)
  · obtain ⟨a, x, y, rfl, _⟩ := h
    rfl
  · obtain ⟨a, x, y, rfl, ha, q⟩ := h
    refine ⟨_, pss_one (ps_ret (pe_and (pe_cc C1 hr (by decide) pass0 (pa_cons (pv 0) pa_nil)) (pe_one (pe_cmpR op_eq (pe_callB call_len_seq (by rfl) B.len PySem.boot_len (pa_cons (pv 0) pa_nil)) pe_int (nomark _))))), ?_⟩
    refine ⟨_, rfl, a, rfl, .inr ⟨_, ha⟩, fun H1 s1 => ⟨true, rfl, iteT ⟨_, rfl, a, _, rfl, .inr (SqT.of (s1 _ _ ha)), rfl, q _ s1⟩⟩⟩
theorem scIsWord : FnScope ["thing", "sign"] ["thing"] (defScope sIsWord) := ⟨rfl, rfl, rfl, by decide +kernel, rfl, by decide +kernel, by decide +kernel⟩
theorem cal_isWord (B : Blt mg) (L : ∃ t, mg "LETTERS" = some (.str letters t)) (D : Def K mg "is_word" sIsWord) : Cal P w K mg base CX0 1 "is_word" spIsWord := by
  obtain ⟨tL, hL⟩ := L
  refine D.cal scIsWord (fun vs H Q E h => ?_) (fun _ _ _ _ _ _ us hl => match us, hl with | [_], _ => rfl) (fun f cdv A outer s H vs Q E hr h => ?_)
  · obtain ⟨x, rfl, _⟩ := h
    rfl
  · obtain ⟨x, rfl, hx, q⟩ := h
    refine ⟨_, pss_one (ps_ret (pe_and (pe_callB call_isi (by rfl) B.isinstance (by decide +kernel) (pa_cons (pv 0) (pa_cons (pe_bltn (v := .ty "str") (by rfl) B.str (by decide +kernel) rfl) pa_nil)))
      (pe_and (pe_chain op_le op_le pe_int (pe_callB call_len_str (by rfl) B.len PySem.boot_len (pa_cons (pv 0) pa_nil)) pe_int)
      (pe_one (pe_callB (cr_all rfl) (by rfl) B.all (by decide +kernel) (pa_cons (pe_lc (own := [("sign", 1)]) (g := gName 1) (tt := tYes) rfl scIsWord.nd (pi_str (pv 0)) (blkOk_by (N := ["thing", "sign"]) (sc := defScope sIsWord) (by decide +kernel))
        (fun _ _ _ _ _ => pg_name (i := 1) scIsWord.nd rfl (Or.inl rfl)) (fun _ _ _ _ _ => pts_nil) (fun _ _ _ _ _ => pe_cmpR op_in_sign (pv 1) (pe_glob (v := .str letters) rfl hL ⟨_, rfl⟩) rfl)) pa_nil)))))), ?_⟩
    unfold okw at hx
    simp only [Bool.and_eq_true, decide_eq_true_eq, List.all_eq_true] at hx
    obtain ⟨_, h1, h2, h3⟩ := hx
    have hln : x.cps.size = x.length := rfl
    refine ⟨_, rfl, _, .ty "str", .type "str", .type "str", true, rfl, .ty _, .base (.str _), kit_ty (by decide +kernel), true, rfl, iteT ?_⟩
    refine ⟨_, rfl, x, rfl, Nat.le_trans h2 (by decide), 1, _, rfl, rfl, true, congrArg V.bl (decide_eq_true (show (1 : Int) ≤ (x.length : Int) by omega)), iteT ⟨_, _, rfl, rfl, true, congrArg V.bl (decide_eq_true (show (x.length : Int) ≤ 8 by omega)), iteT ?_⟩⟩
    refine ⟨_, rfl, x, rfl, fun D hD => ?_⟩
    refine lc_fm (walk_str (z := x)) (fun i => (x.cps.toList[i]?).bind fun c => some (V.bl (decide (c ∈ letters.cps.toList)))) (fun _ _ => trivial) hD (by omega) (fun i v H1 H' hi s1 y N N0 hy h0 => ?_) fun H1 s1 h => ?_
    · obtain ⟨rfl, c, hc, rfl⟩ := y
      exact ⟨rfl, _, rfl, c, letters, rfl, rfl, hy _ _ (by rw [Array.getElem?_toList, hc]; rfl) (Same.refl _)⟩
    · have e : (List.range x.cps.size).filterMap (fun i => (x.cps.toList[i]?).bind fun c => some (V.bl (decide (c ∈ letters.cps.toList)))) = (x.cps.toList.map fun c => decide (c ∈ letters.cps.toList)).map V.bl := by
        have := range_fm (xs := x.cps.toList) (f := fun c => some (V.bl (decide (c ∈ letters.cps.toList))))
        rw [Array.length_toList] at this
        rw [this, List.map_map, ← List.filterMap_eq_map]
        rfl
      rw [e] at h
      refine ⟨D, _, rfl, SqL.of h, ?_⟩
      have e2 : (x.cps.toList.map fun c => decide (c ∈ letters.cps.toList)).all id = true := by
        rw [List.all_map, List.all_eq_true]
        intro c hc
        obtain ⟨a1, a2⟩ := h3 c hc
        exact decide_eq_true (letter_in a1 a2)
      rw [e2]
      exact q _ s1
theorem take_more {α : Type} : ∀ {l : List α} {i : Nat} {x : α}, l[i]? = some x → l.take (i + 1) = l.take i ++ [x]
  | [], i, x, h => by simp at h
  | a :: l, 0, x, h => by
    have e : a = x := Option.some.inj h
    subst e
    rfl
  | a :: l, i + 1, x, h => by
    have ih := take_more (l := l) (i := i) (x := x) h
    show a :: l.take (i + 1) = a :: l.take i ++ [x]
    rw [ih]
    rfl
theorem map_at {α β : Type} {f : α → β} {l : List α} {i : Nat} {y : β} (h : (l.map f)[i]? = some y) : ∃ x, l[i]? = some x ∧ y = f x := by
  rw [List.getElem?_map] at h
  cases e : l[i]? with
  | none => rw [e] at h; cases h
  | some x => rw [e] at h; exact ⟨x, rfl, (Option.some.inj h).symm⟩
theorem inV_strs (w : Str) : ∀ W : List Str, inV (.str w) (W.map V.str) = decide (w ∈ W)
  | [] => by simp [inV]
  | x :: W => by
    have ih := inV_strs w W
    unfold inV at ih ⊢
    rw [List.map_cons, List.any_cons, ih]
    show ((x == w) || decide (w ∈ W)) = decide (w ∈ x :: W)
    by_cases h : x = w
    · subst h; simp
    · have h2 : (x == w) = false := by simpa using h
      rw [h2, Bool.false_or]
      simp [Ne.symm h]
theorem flat_strs (W : List Str) : (W.map V.str).all flatV = true := by
  rw [List.all_map, List.all_eq_true]
  exact fun _ _ => rfl
theorem scFirstBad : FnScope ["things", "barred", "met", "index", "thing"] ["things", "barred"] (defScope sFirstBad) := ⟨rfl, rfl, rfl, by decide +kernel, rfl, by decide +kernel, by decide +kernel⟩
theorem cal_firstBad (B : Blt mg) (D : Def K mg "first_bad_word" sFirstBad) (C1 : Cal P w K mg base CX0 1 "is_list" spIsList) (C2 : Cal P w K mg base CX0 1 "is_word" spIsWord) : Cal P w K mg base CX0 2 "first_bad_word" spFirstBad := by
  refine D.cal scFirstBad (fun vs H Q E h => ?_) (fun _ _ _ _ _ _ us hl => match us, hl with | [_, _], _ => rfl) (fun f cdv A outer s H vs Q E hr h => ?_)
  · obtain ⟨a, b, W, rfl, _⟩ := h
    rfl
  · obtain ⟨a, b, W, rfl, ha, hb, hw, hn, hz, q⟩ := h
    refine ⟨_, pss_cons (ps_if (pt_not (pt_val (pe_cc C1 hr (by decide) pass0 (pa_cons (pv 0) pa_nil)))) (pss_one (ps_ret pe_int)) pss_nil)
      (pss_cons (ps_set (i := 2) scFirstBad.nd rfl (Or.inl rfl) (pe_callTy call_list_of (by rfl) B.list (by decide +kernel) (pa_cons (pv 1) pa_nil)))
      (pss_cons (ps_for PassesOwn.never rfl (pi_enum (by rfl) B.enumerate (pa_cons (pv 0) pa_nil)) (pg_tup rfl (pgs_cons (pg_name (i := 3) scFirstBad.nd rfl (Or.inl rfl)) (pgs_cons (pg_name (i := 4) scFirstBad.nd rfl (Or.inl rfl)) pgs_nil)))
        (pss_cons (ps_if (PW.pt (pw_or (pt_not (pt_val (pe_cc C2 hr (by decide) pass0 (pa_cons (pv 4) pa_nil)))) (pw_or1 (pt_cmpR op_in_seq (pv 4) (pv 2) rfl)))) (pss_one (ps_ret (pv 3))) pss_nil)
          (pss_one (ps_expr (pe_bm PySem.F.plainAttrs_list PySem.F.slot_list_append PySem.F.type_list_append mt_append (pv 2) (pa_cons (pv 4) pa_nil))))))
      (pss_one (ps_ret pe_non)))), ?_⟩
    refine ⟨_, rfl, a, rfl, .inl ⟨_, ha⟩, fun H1 s1 => ⟨true, rfl, iteF ?_⟩⟩
    refine ⟨_, rfl, b, _, rfl, .inl (SqL.of (s1 _ _ hb)), fun m hm => ?_⟩
    have hm0 : H m = none := s1.free hm
    refine ⟨_, rfl, a, _, rfl, SqL.of (by rw [upd_ne (ne_of_none (s1 _ _ ha) hm)]; exact s1 _ _ ha), ?_⟩
    refine for_it (walk_enum (K := K) (a := a) (xs := W.map V.str)) (fun i σ H' => (∃ v3 v4, σ = [some (.ref a), some (.ref b), some (.ref m), v3, v4]) ∧ Same H H' ∧ H' m = some (.lst ((W.take i).map V.str)))
      ⟨⟨_, _, rfl⟩, s1.new hm0 _, upd_same⟩ (fun i σ H' _ h => SqL.of (h.2.1 _ _ ha)) ?_ ?_
    · rintro i x σ H2 H3 hi ⟨⟨v3, v4, rfl⟩, s2, h2⟩ ⟨T, y, z, rfl, hT, rfl, e1, e2⟩
      obtain ⟨wd, hwd, rfl⟩ := map_at e2
      have hmem : wd ∈ W := List.mem_of_getElem? hwd
      have s3 : Same H2 (upd H2 T (.tup [y, .str wd])) := (Same.refl H2).new hT _
      have hne : wd ∉ W.take i := fun hq => by
        obtain ⟨j, hj⟩ := List.mem_iff_getElem?.mp hq
        rw [List.getElem?_take] at hj
        split at hj
        · rename_i hlt
          have := nd_ix hn hj hwd
          omega
        · cases hj
      refine ⟨T, _, rfl, SqT.of upd_same, rfl, _, _, rfl, _, _, rfl, rfl, ?_⟩
      refine ⟨_, rfl, wd, rfl, hw wd hmem, fun H4 s4 => ⟨true, rfl, iteF ?_⟩⟩
      have h4 : H4 m = some (.lst ((W.take i).map V.str)) := s4 _ _ (s3 _ _ h2)
      refine ⟨_, rfl, _, rfl, m, _, rfl, .inl (SqL.of h4), rfl, flat_strs _, ?_⟩
      refine ⟨_, rfl, ?_⟩
      rw [if_neg Bool.false_ne_true, inV_strs, decide_eq_false hne]
      refine iteF ?_
      refine ⟨_, rfl, .inl ⟨rfl, _, SqL.of h4⟩, _, rfl, m, _, _, rfl, rfl, h4, small1000 (by rw [List.length_map] at hi ⊢; exact Nat.le_trans (List.length_take_le _ _) (by omega)), ⟨_, _, rfl⟩, ?_, ?_⟩
      · exact ((s2.trans s3).trans s4).new hm0 _
      · rw [upd_same, take_more hwd, List.map_append]
        rfl
    · rintro σ H2 ⟨⟨v3, v4, rfl⟩, s2, h2⟩
      exact q _ s2
theorem scIsWish : FnScope ["words", "thing", "one"] ["words", "thing"] (defScope sIsWish) := ⟨rfl, rfl, rfl, by decide +kernel, rfl, by decide +kernel, by decide +kernel⟩
theorem cal_isWish (B : Blt mg) (D : Def K mg "is_wish" sIsWish) (C1 : Cal P w K mg base CX0 2 "is_pair" spIsPair) : Cal P w K mg base CX0 3 "is_wish" spIsWish := by
  refine D.cal scIsWish (fun vs H Q E h => ?_) (fun _ _ _ _ _ _ us hl => match us, hl with | [_, _], _ => rfl) (fun f cdv A outer s H vs Q E hr h => ?_)
  · obtain ⟨a, t, W, p, rfl, _⟩ := h
    rfl
  · obtain ⟨a, t, W, p, rfl, ha, ht, h1, h2, hne, q⟩ := h
    refine ⟨_, pss_one (ps_ret (pe_and (pe_cc C1 hr (by decide) pass0 (pa_cons (pv 1) pa_nil)) (pe_and
      (pe_callB (cr_all rfl) (by rfl) B.all (by decide +kernel) (pa_cons (pe_lc (own := [("one", 2)]) (g := gName 2) (tt := tYes) rfl scIsWish.nd (pi_tup (pv 1)) (blkOk_by (N := ["words", "thing", "one"]) (sc := defScope sIsWish) (by decide +kernel))
        (fun _ _ _ _ _ => pg_name (i := 2) scIsWish.nd rfl (Or.inl rfl)) (fun _ _ _ _ _ => pts_nil) (fun _ _ _ _ _ => pe_cmpR (kIn K) (pv 2) (pe_callTy (kListOf K) (by rfl) B.list (by decide +kernel) (pa_cons (pv 0) pa_nil)) rfl)) pa_nil))
      (pe_one (pe_cmpR op_ne (pe_ix ix_tup (pv 1) pe_int (fun _ _ => rfl)) (pe_ix ix_tup (pv 1) pe_int (fun _ _ => rfl)) (nomark _)))))), ?_⟩
    refine ⟨_, rfl, t, _, _, rfl, ht, fun H1 s1 => ⟨true, rfl, iteT ?_⟩⟩
    refine ⟨_, rfl, t, rfl, ⟨_, SqT.of (s1 _ _ ht)⟩, fun D hD => ?_⟩
    refine lc_fmt (xs := [V.str p.1, V.str p.2]) (fun _ => some (.bl true)) (fun H2 s2 => SqT.of (s2 _ _ (s1 _ _ ht))) hD (by show 2 ≤ 1000; decide) (fun i x H2 hx s2 N N0 hy h0 => ?_) fun H2 s2 hD2 => ?_
    · have hxw : ∃ wd, x = .str wd ∧ wd ∈ W := by
        match i, hx with
        | 0, hx => exact ⟨p.1, (Option.some.inj hx).symm, h1⟩
        | 1, hx => exact ⟨p.2, (Option.some.inj hx).symm, h2⟩
        | i + 2, hx => simp at hx
      obtain ⟨wd, rfl, hwd⟩ := hxw
      refine ⟨rfl, _, rfl, _, rfl, a, _, rfl, .inl (SqL.of (s2 _ _ (s1 _ _ ha))), fun l hl => ⟨l, _, rfl, .inl (SqL.of upd_same), rfl, flat_strs _, hy _ _ ?_ ((Same.refl _).new hl _)⟩⟩
      rw [if_neg Bool.false_ne_true, inV_strs, decide_eq_true hwd]
    · refine ⟨D, [true, true], rfl, SqL.of hD2, true, rfl, iteT ?_⟩
      have ht2 := s2 _ _ (s1 _ _ ht)
      refine ⟨_, rfl, t, _, 0, _, rfl, rfl, SqT.of ht2, rfl, _, rfl, t, _, 1, _, rfl, rfl, SqT.of ht2, rfl, rfl, ?_⟩
      have e : (!decide (V.str p.1 = V.str p.2)) = true := by
        rw [decide_eq_false (fun z => hne (V.str.inj z))]
        rfl
      rw [e]
      exact q _ (s1.trans s2)
/-! ### Wishes -/
abbrev sWish : Stmt := top 15
abbrev sInitW : Stmt := inClass sWish 0
theorem kw_kp : ¬ (("kept_words" : Str) = "kept_pairs") := by decide +kernel
def wfs (tw tp : Addr) : List (Str × V) := [(("kept_words" : Str), V.ref tw), ("kept_pairs", V.ref tp)]
theorem wfs_words (tw tp : Addr) : (wfs tw tp).lookup ("kept_words" : Str) = some (.ref tw) := by simp [wfs, List.lookup]
theorem wfs_pairs (tw tp : Addr) : (wfs tw tp).lookup ("kept_pairs" : Str) = some (.ref tp) := by
  have e : ((("kept_pairs" : Str) == ("kept_words" : Str)) : Bool) = false := by decide +kernel
  simp [wfs, List.lookup, e]
theorem wfs_put (tw tp : Addr) : putF "kept_pairs" (.ref tp) (putF "kept_words" (.ref tw) []) = wfs tw tp := by
  show (if ("kept_words" : Str) = "kept_pairs" then [(("kept_words" : Str), V.ref tp)] else (("kept_words" : Str), V.ref tw) :: putF "kept_pairs" (V.ref tp) []) = wfs tw tp
  rw [if_neg kw_kp]
  rfl
/-- words and wishes that may be made -/
structure Wf (W : List Str) (P : List (Str × Str)) : Prop where
  wds : Wds W
  nd : W.Nodup
  few : W.length ≤ 50
  fewP : P.length ≤ 60
  mem : ∀ p ∈ P, p.1 ∈ W ∧ p.2 ∈ W ∧ p.1 ≠ p.2
/-- at x: Wishes(W, P) -/
def WishAt (C : Addr) (H : Hp) (x : Addr) (W : List Str) (P : List (Str × Str)) : Prop :=
  ∃ (dx tw tp : Addr) (ps : List Addr), H x = some (.ins C dx (wfs tw tp)) ∧ H tw = some (.tup (W.map V.str)) ∧ H tp = some (.tup (ps.map V.ref)) ∧ Prs H ps P
theorem WishAt.same {C : Addr} {H H' : Hp} {x : Addr} {W : List Str} {P : List (Str × Str)} (h : WishAt C H x W P) (s : Same H H') : WishAt C H' x W P := by
  obtain ⟨dx, tw, tp, ps, h1, h2, h3, h4⟩ := h
  exact ⟨dx, tw, tp, ps, s _ _ h1, s _ _ h2, s _ _ h3, h4.same s⟩
def spInitW (C : Addr) : Sp := fun vs H Q _ => ∃ (H0 : Hp) (x dx a b : Addr) (W : List Str) (P : List (Str × Str)) (ps : List Addr), vs = [.ref x, .ref a, .ref b] ∧ Same H0 H ∧ H0 x = none ∧ H x = some (.ins C dx []) ∧
  H0 a = some (.lst (W.map V.str)) ∧ H0 b = some (.lst (ps.map V.ref)) ∧ Prs H0 ps P ∧ Wf W P ∧ ∀ H', Same H0 H' → WishAt C H' x W P → Q .non H'
/-- what the top says of Wishes -/
structure TW (K : PySem.W.Frag) (C : Addr) : Prop where
  cl : Cls K C
  nW : NoAttr K C "kept_words"
  nP : NoAttr K C "kept_pairs"
theorem scInitW : FnScope ["self", "words", "pairs", "index", "thing"] ["self", "words", "pairs"] (defScope sInitW) := ⟨rfl, rfl, rfl, by decide +kernel, rfl, by decide +kernel, by decide +kernel⟩
theorem fn_initW {C f : Addr} {fd : FuncData} (B : Blt mg) (F : Fun K "__init__" "Wishes.__init__" sInitW f fd) (T : TW K C) (C1 : Cal P w K mg base CX0 1 "is_list" spIsList) (C2 : Cal P w K mg base CX0 2 "first_bad_word" spFirstBad) (C3 : Cal P w K mg base CX0 3 "is_wish" spIsWish) :
    FnOk P w K mg base CX0 4 f fd ["self", "words", "pairs"] (spInitW C) := by
  refine F.ok scInitW (fun vs H Q E h => ?_) (fun cdv A outer s H vs Q E hr h => ?_)
  · obtain ⟨_, _, _, _, _, _, _, _, rfl, _⟩ := h
    rfl
  · obtain ⟨H0, x, dx, a, b, W, PP, ps, rfl, s0, hx0, hx, ha, hb, hP, wf, q⟩ := h
    refine ⟨_, pss_cons (ps_set (i := 3) scInitW.nd rfl (Or.inl rfl) (pe_cc C2 hr (by decide) pass0 (pa_cons (pv 1) (pa_cons (pe_lst pa_nil) pa_nil))))
      (pss_cons (ps_if (pt_cmpR op_notN (pv 3) pe_non (nomark _)) pss_never pss_nil)
      (pss_cons (ps_if (pt_not (pt_val (pe_cc C1 hr (by decide) pass0 (pa_cons (pv 2) pa_nil)))) pss_never pss_nil)
      (pss_cons (ps_for PassesOwn.never rfl (pi_enum (by rfl) B.enumerate (pa_cons (pv 2) pa_nil)) (pg_tup rfl (pgs_cons (pg_name (i := 3) scInitW.nd rfl (Or.inl rfl)) (pgs_cons (pg_name (i := 4) scInitW.nd rfl (Or.inl rfl)) pgs_nil)))
        (pss_one (ps_if (pt_not (pt_val (pe_cc C3 hr (by decide) pass0 (pa_cons (pv 1) (pa_cons (pv 4) pa_nil))))) pss_never pss_nil)))
      (pss_cons (ps_fld (pv 0) (pe_callTy call_tuple_of (by rfl) B.tuple (by decide +kernel) (pa_cons (pv 1) pa_nil)) rfl)
      (pss_one (ps_fld (pv 0) (pe_callTy call_tuple_of (by rfl) B.tuple (by decide +kernel) (pa_cons (pe_lc (own := [("thing", 4)]) (g := gName 4) (tt := tYes) rfl scInitW.nd (pi_list (pv 2)) (blkOk_by (N := ["self", "words", "pairs", "index", "thing"]) (sc := defScope sInitW) (by decide +kernel))
        (fun _ _ _ _ _ => pg_name (i := 4) scInitW.nd rfl (Or.inl rfl)) (fun _ _ _ _ _ => pts_nil) (fun _ _ _ _ _ => pe_tup (pa_cons (pe_ix (kIxT K) (pv 4) pe_int (fun _ _ => rfl)) (pa_cons (pe_ix (kIxT K) (pv 4) pe_int (fun _ _ => rfl)) pa_nil)))) pa_nil)) rfl)))))), ?_⟩
    refine ⟨_, rfl, Nat.zero_le _, fun e he => ?_⟩
    have s1 : Same H (upd H e (.lst [])) := (Same.refl H).new he _
    refine ⟨a, e, W, rfl, s1 _ _ (s0 _ _ ha), upd_same, wf.wds, wf.nd, Nat.le_trans wf.few (by decide), fun H2 s2 => ?_⟩
    refine ⟨_, rfl, rfl, false, rfl, iteF ?_⟩
    have s02 : Same H0 H2 := (s0.trans s1).trans s2
    refine ⟨_, rfl, b, rfl, .inl ⟨_, s02 _ _ hb⟩, fun H3 s3 => ⟨true, rfl, iteF ?_⟩⟩
    have s03 : Same H0 H3 := s02.trans s3
    have hx3 : H3 x = some (.ins C dx []) := s3 _ _ (s2 _ _ (s1 _ _ hx))
    refine ⟨_, rfl, b, _, rfl, SqL.of (s03 _ _ hb), ?_⟩
    refine for_it (walk_enum (K := K) (a := b) (xs := ps.map V.ref)) (fun i σ H' => (∃ v3 v4, σ = [some (.ref x), some (.ref a), some (.ref b), v3, v4]) ∧ Same H0 H' ∧ H' x = some (.ins C dx []))
      ⟨⟨_, _, rfl⟩, s03, hx3⟩ (fun i σ H' _ h => SqL.of (h.2.1 _ _ hb)) ?_ ?_
    · rintro i z σ H4 H5 hi ⟨⟨v3, v4, rfl⟩, s4, h4⟩ ⟨T1, y, u, rfl, hT, rfl, e1, e2⟩
      obtain ⟨t, ht, rfl⟩ := map_at e2
      obtain ⟨p, hp, hr2⟩ := Paired.at' hP ht
      have hpm : p ∈ PP := List.mem_of_getElem? hp
      have s5 : Same H4 (upd H4 T1 (.tup [y, .ref t])) := (Same.refl H4).new hT _
      obtain ⟨m1, m2, m3⟩ := wf.mem p hpm
      refine ⟨T1, _, rfl, SqT.of upd_same, rfl, _, _, rfl, _, _, rfl, rfl, ?_⟩
      exact ⟨_, rfl, _, rfl, a, t, W, p, rfl, s5 _ _ (s4 _ _ ha), s5 _ _ (s4 _ _ hr2), m1, m2, m3, fun H6 s6 => ⟨true, rfl, iteF ⟨⟨_, _, rfl⟩, (s4.trans s5).trans s6, s6 _ _ (s5 _ _ h4)⟩⟩⟩
    · rintro σ H4 ⟨⟨v3, v4, rfl⟩, s4, h4⟩
      refine ⟨_, rfl, a, _, rfl, .inl ⟨SqL.of (s4 _ _ ha), fun tw htw => ?_⟩⟩
      have nxw : x ≠ tw := ne_of_none h4 htw
      refine ⟨_, rfl, x, C, dx, [], rfl, by rw [upd_ne nxw]; exact h4, T.cl, T.nW, (by show 0 < 1000; decide), ?_⟩
      -- the pairs
      have n0 : ∀ {c o}, H0 c = some o → c ≠ x := fun h => ne_of_none h hx0
      have htw0 : H0 tw = none := s4.free htw
      have s5 : Same H0 (upd (upd H4 tw (.tup (W.map V.str))) x (.ins C dx (putF "kept_words" (V.ref tw) []))) := fun c o h => by
        rw [upd_ne (n0 h), upd_ne (ne_of_none h htw0)]
        exact s4 _ _ h
      generalize hH5 : upd (upd H4 tw (.tup (W.map V.str))) x (.ins C dx (putF "kept_words" (V.ref tw) [])) = H5 at s5 ⊢
      have hx5 : H5 x = some (.ins C dx (putF "kept_words" (V.ref tw) [])) := by rw [← hH5, upd_same]
      have htw5 : H5 tw = some (.tup (W.map V.str)) := by rw [← hH5, upd_ne nxw.symm, upd_same]
      refine ⟨_, rfl, b, rfl, ⟨_, SqL.of (s5 _ _ hb)⟩, fun D hD => ?_⟩
      refine lc_it (walk_list (K := K) (a := b) (xs := ps.map V.ref)) (fun i H' => Same H5 H' ∧ ∃ qs, H' D = some (.lst (qs.map V.ref)) ∧ Prs H' qs (PP.take i)) ⟨(Same.refl H5).new hD _, [], upd_same, .nil⟩ (fun i H' _ h => SqL.of (h.1 _ _ (s5 _ _ hb))) ?_ ?_
      · rintro i z H6 H7 hi ⟨s6, qs, hq, hpq⟩ ⟨rfl, hz⟩
        obtain ⟨t, ht, rfl⟩ := map_at hz
        obtain ⟨p, hp, hr2⟩ := Paired.at' hP ht
        have ht6 := s6 _ _ (s5 _ _ hr2)
        refine ⟨rfl, _, rfl, t, _, 0, _, rfl, rfl, SqT.of ht6, rfl, _, rfl, t, _, 1, _, rfl, rfl, SqT.of ht6, rfl, (by show 2 ≤ sizeLine; decide), fun g hg => ?_⟩
        have nDg : D ≠ g := ne_of_none hq hg
        refine ⟨_, by rw [upd_ne nDg]; exact hq, small1000 (by
            rw [List.length_map, hpq.len]
            exact Nat.le_trans (List.length_take_le _ _) (by have := wf.fewP; rw [List.length_map, hP.len] at hi; omega)), ?_, qs ++ [g], by rw [upd_same, List.map_append]; rfl, ?_⟩
        · exact (s6.new (s6.free hg) _).new hD _
        · rw [take_more hp]
          have hs : ∀ {c o}, H7 c = some o → o ≠ .lst (qs.map V.ref) → upd (upd H7 g (.tup [.str p.1, .str p.2])) D (.lst (qs.map V.ref ++ [.ref g])) c = some o := fun {c o} h hne => by
            rw [upd_ne (fun e => by rw [e, hq] at h; exact hne (Option.some.inj h).symm), upd_ne (ne_of_none h hg)]
            exact h
          refine Paired.snoc (Paired.mapP hpq fun c p' e => hs e (fun z => by cases z)) ?_
          show upd (upd H7 g (.tup [.str p.1, .str p.2])) D (.lst (qs.map V.ref ++ [.ref g])) g = some (.tup [.str p.1, .str p.2])
          rw [upd_ne nDg.symm, upd_same]
      · rintro H6 ⟨s6, qs, hq, hpq⟩
        have eL : PP.take (ps.map V.ref).length = PP := by rw [List.length_map, hP.len, List.take_length]
        rw [eL] at hpq
        refine ⟨D, _, rfl, .inl ⟨SqL.of hq, fun tp htp => ?_⟩⟩
        have nxp : x ≠ tp := ne_of_none (s6 _ _ hx5) htp
        refine ⟨_, rfl, x, C, dx, _, rfl, by rw [upd_ne nxp]; exact s6 _ _ hx5, T.cl, T.nP, (by show 1 < 1000; decide), ?_⟩
        have k : ∀ {c o}, H6 c = some o → c ≠ x → upd (upd H6 tp (.tup (qs.map V.ref))) x (.ins C dx (putF "kept_pairs" (V.ref tp) (putF "kept_words" (V.ref tw) []))) c = some o := fun {c o} h hn => by
          rw [upd_ne hn, upd_ne (ne_of_none h htp)]
          exact h
        refine q _ (fun c o h => k (s6 _ _ (s5 _ _ h)) (n0 h)) ⟨dx, tw, tp, qs, by rw [upd_same, wfs_put], k (s6 _ _ htw5) nxw.symm, by rw [upd_ne nxp.symm, upd_same], Paired.mapP hpq fun c p e => k e (fun z => ?_)⟩
        rw [z, s6 _ _ hx5] at e
        cases e
end
end Lk

set_option Elab.async false
set_option linter.all false
set_option maxRecDepth 100000
set_option maxHeartbeats 4000000
/-! Sets of whole numbers and texts that can be walked (the library has them for whole numbers alone; statements and steps as there, said of any key). -/
namespace Lk
open PySem PySem.Spec PyProof.Rows L2

def kOf (v : Value) : Key := match v with
  | .int k _ => .inl k
  | .str x _ => .inr x
  | _ => .inl 0
theorem kOf_is {k : Key} {v : Value} (h : keyIs k v = true) : kOf v = k := by
  rcases keyIs_shape h with ⟨i, t, rfl, rfl⟩ | ⟨x, t, rfl, rfl⟩ <;> rfl
theorem key_scan' {k : Key} {v : Value} (h : keyIs k v = true) : v.scannable = true := by
  rcases keyIs_shape h with ⟨i, t, rfl, rfl⟩ | ⟨x, t, rfl, rfl⟩ <;> rfl
def inK (ks : List Key) (j : Key) : Bool := ks.any fun x => decide (x = j)
theorem inK_iff {ks : List Key} {j : Key} : inK ks j = true ↔ j ∈ ks := by
  unfold inK
  rw [List.any_eq_true]
  constructor
  · rintro ⟨x, hx, e⟩
    exact of_decide_eq_true e ▸ hx
  · intro h
    exact ⟨j, h, decide_eq_true rfl⟩
theorem inK_snoc (ks : List Key) (z j : Key) : inK (ks ++ [z]) j = (inK ks j || decide (j = z)) := by
  unfold inK
  rw [List.any_append]
  by_cases e : z = j
  · subst e; simp
  · have e2 : ¬ j = z := fun q => e q.symm
    simp [e, e2]
def GoodK (w : World) (e : Int × Value) : Prop := ∃ k, keyIs k e.2 = true ∧ e.1 = keyH w k
def kE (e : Int × Value) : Key := kOf e.2
structure Memb (w : World) (es : List (Int × Value)) (S : Key → Bool) : Prop where
  good : ∀ e ∈ es, GoodK w e
  nd : (es.map kE).Nodup
  mem : ∀ k, S k = true ↔ k ∈ es.map kE
structure TabW (w : World) (t : SetTable) (n : Nat) : Prop where
  fits : t.fits n = true
  ris : Ris t.place.toList
  led : w.params.followText "set-order" = true ∨ t.led = true
/-- at a: a set of keys whose table can be walked -/
def SetQ (w : World) (h : Heap) (a : Addr) (S : Key → Bool) (n : Nat) : Prop :=
  ∃ o es ep t, h.get? a = some o ∧ o.ExactSet ∧ o.data = .set es ep t ∧ Memb w es.toList S ∧ TabW w t es.size ∧ es.size < scanBound ∧ es.size = n
section
variable {P : Program} {w : World} {h h' : Heap} {a : Addr} {S : Key → Bool} {n : Nat}
theorem SetQ.at (R : SetQ w h a S n) (k : ∀ o, h.get? a = some o → h'.get? a = some o) : SetQ w h' a S n := by
  obtain ⟨o, es, ep, t, ho, r⟩ := R
  exact ⟨o, es, ep, t, k o ho, r⟩
theorem SetQ.congr {S' : Key → Bool} (R : SetQ w h a S n) (e : ∀ k, S' k = S k) : SetQ w h a S' n := by
  have q : S' = S := funext e
  rw [q]; exact R
theorem Memb.elems {es : List (Int × Value)} (m : Memb w es S) : ElemsOf (mixKind P w) es := fun e he => by
  obtain ⟨k, h1, h2⟩ := m.good e he
  exact ⟨⟨k, h1, h2⟩, key_scan' h1⟩
theorem Memb.is {es : List (Int × Value)} (m : Memb w es S) (k : Key) : k ∈ es.map kE ↔ ∃ e ∈ es, keyIs k e.2 = true := by
  rw [List.mem_map]
  constructor
  · rintro ⟨e, he, q⟩
    obtain ⟨k0, h1, _⟩ := m.good e he
    have : kE e = k0 := kOf_is h1
    rw [this] at q
    exact ⟨e, he, q ▸ h1⟩
  · rintro ⟨e, he, q⟩
    exact ⟨e, he, kOf_is q⟩
theorem Memb.more {es es1 : List (Int × Value)} (m : Memb w es S) {k : Key} {u : Value} (hk : keyIs k u = true) (hn : k ∉ es.map kE) (pm : es1.Perm ((keyH w k, u) :: es)) : Memb w es1 fun j => S j || decide (j = k) := by
  have pk : (es1.map kE).Perm (k :: es.map kE) := by
    have q := pm.map kE
    rw [List.map_cons] at q
    have e : kE (keyH w k, u) = k := kOf_is hk
    rw [e] at q
    exact q
  refine ⟨fun e he => ?_, pk.nodup_iff.mpr (List.nodup_cons.mpr ⟨hn, m.nd⟩), fun i => ?_⟩
  · rcases List.mem_cons.mp (pm.mem_iff.mp he) with z | z
    · rw [z]; exact ⟨k, hk, rfl⟩
    · exact m.good e z
  · rw [Bool.or_eq_true, decide_eq_true_eq, m.mem i, pk.mem_iff, List.mem_cons]
    exact Or.comm
theorem Memb.again {es es1 : List (Int × Value)} (m : Memb w es S) (pm : es1.Perm es) : Memb w es1 S :=
  ⟨fun e he => m.good e (pm.mem_iff.mp he), (pm.map kE).nodup_iff.mpr m.nd, fun k => (m.mem k).trans (pm.map kE).mem_iff.symm⟩
end
section
variable {P : Program} {w : World} {A : Around} {E : Value → Shared → Prop} {s : Shared} {a : Addr} {S : Key → Bool} {n : Nat}
/-- what is told behind an add -/
def Added (w : World) (s : Shared) (a : Addr) (S' : Key → Bool) (m : Nat) (R : Shared → Prop) : Prop := ∀ h', Heap.SameBut a s.heap h' → SetQ w h' a S' m → R { s with heap := h' }
theorem add_tail {g : Bool → Sem Unit} (hg : ∀ (b : Bool) (s₁ : Shared) (Q' : Unit → Shared → Prop), Q' () s₁ → wpAny (model P w) A (g b) Q' E s₁)
    {o : Obj} {es es1 : Array (Int × Value)} {ep : Nat} {t t2 : SetTable} (ho : s.heap.get? a = some o) (hex : o.ExactSet) (hd : o.data = .set es ep t) {S' : Key → Bool} (m1 : Memb w es1.toList S') (hb1 : es1.size < scanBound) (tw : TabW w t2 es1.size)
    {wasDummy : Bool} {R : Option Bool → Shared → Prop} (hR : Added w s a S' es1.size (R (some true))) :
    wpAny (model P w) A (do
        storeSet a es1 t2
        if (!wasDummy && t2.tooFull) = true then do
            g (relayAll t2 es1 (SetTable.grown es1.size)).2.2
            storeSet a (relayAll t2 es1 (SetTable.grown es1.size)).1 (relayAll t2 es1 (SetTable.grown es1.size)).2.1
            pure (some true)
          else pure (some true)) R E s := by
  refine wpAny_bind (wpAny_storeSet_of ho hd ?_ (fits_of_scanBound hb1))
  have ho1 := store_at (es' := es1) (t' := t2) ho hd
  have sb1 := Heap.SameBut.update s.heap a (Obj.putSet es1 t2)
  split
  · have pm := relayAll_perm t2 es1 (SetTable.grown es1.size)
    have f3 := relayAll_fits t2 es1 (SetTable.grown es1.size)
    have r3 := relayAll_ris t2 es1 (SetTable.grown es1.size)
    have l3 := relayAll_led t2 es1 (SetTable.grown es1.size)
    generalize relayAll t2 es1 (SetTable.grown es1.size) = Z at pm f3 r3 l3 ⊢
    obtain ⟨es2, t3, gave⟩ := Z
    dsimp only at pm f3 r3 l3 ⊢
    have hsz : es2.size = es1.size := by rw [← Array.length_toList, pm.length_eq, Array.length_toList]
    have hb2 : es2.size < scanBound := by rw [hsz]; exact hb1
    refine wpAny_bind (hg _ _ _ ?_)
    refine wpAny_bind (wpAny_storeSet_of ho1 rfl ?_ (fits_of_scanBound hb2))
    refine wpAny_pure (hR _ (sb1.trans (Heap.SameBut.update _ a _)) ⟨_, es2, _, t3, store_at (es' := es2) (t' := t3) ho1 rfl, hex, rfl, m1.again pm, ⟨f3, r3, tw.led.imp id fun z => by rw [l3]; exact z⟩, hb2, hsz⟩)
  · exact wpAny_pure (hR _ sb1 ⟨_, es1, _, t2, ho1, hex, rfl, m1, tw, hb1, rfl⟩)
theorem add_hashed {k : Key} {u : Value} {Q : Bool → Shared → Prop} (hk : keyIs k u = true) (R : SetQ w s.heap a S n) (room : n + 1 < scanBound)
    (hQ : Added w s a (fun j => S j || decide (j = k)) (if S k = true then n else n + 1) (Q (!S k))) :
    wpAny (model P w) A (setAddHashed a u (keyH w k)) Q E s := by
  obtain ⟨o, es, ep, t, ho, hex, hd, mb, tw, hb, hn⟩ := R
  have hkey : (mixKind P w).is k u = true := hk
  have hsc : u.scannable = true := key_scan' hk
  have hel : ElemsOf (mixKind P w) es.toList := mb.elems
  unfold setAddHashed setAddHashedIn
  refine wpAny_holding (wpAny_bind (wpAny_setState_of ho hd tw.fits ?_))
  dsimp only
  rw [byScan_of hsc hb hel]
  simp only [↓reduceIte]
  unfold setAddByScan
  refine wpAny_bind (wpAny_bind (wpAny_rule (wpAny_bind (wpAny_setScan_of hkey ho hd tw.fits hel ?_))))
  cases hfi : List.findIdx? (fun e => (mixKind P w).is k e.2) es.toList with
  | some j =>
    dsimp only
    obtain ⟨hj, pj, _⟩ := List.findIdx?_eq_some_iff_getElem.mp hfi
    have hSk : S k = true := (mb.mem k).2 ((mb.is k).2 ⟨es.toList[j], List.getElem_mem hj, pj⟩)
    have q := hQ s.heap (Heap.SameBut.refl a s.heap)
    rw [if_pos hSk, hSk] at q
    have eS : (fun j => S j || decide (j = k)) = S := funext fun i => by
      by_cases e : i = k
      · subst e; rw [hSk]; rfl
      · rw [decide_eq_false e, Bool.or_false]
    rw [eS] at q
    exact wpAny_pure (wpAny_pure (q ⟨o, es, ep, t, ho, hex, hd, mb, tw, hb, hn⟩))
  | none =>
    dsimp only
    have hnk : k ∉ es.toList.map kE := fun z => by
      obtain ⟨e, he, q⟩ := (mb.is k).1 z
      have c := List.findIdx?_eq_none_iff.mp hfi e he
      have q' : (mixKind P w).is k e.2 = true := q
      rw [q'] at c
      cases c
    have hSk : S k = false := by
      cases q : S k with
      | false => rfl
      | true => exact absurd ((mb.mem k).1 q) hnk
    have pm := layNew_perm t es (keyH w k) u
    have f1 := layNew_fits t es (keyH w k) u
    have r1 := layNew_ris t es (keyH w k) u tw.ris
    have l1 := layNew_led t es (keyH w k) u
    have eh : (mixKind P w).hash k = keyH w k := rfl
    generalize layNew t es (keyH w k) u = Z at pm f1 r1 l1 ⊢
    obtain ⟨es1, t1, wasDummy, gave⟩ := Z
    dsimp only at pm f1 r1 l1 ⊢
    rw [Array.toList_push] at pm
    have m1 := mb.more hk hnk (pm.trans (List.perm_append_singleton _ _))
    have hsz : es1.size = n + 1 := by
      rw [← Array.length_toList, pm.length_eq, List.length_append, List.length_singleton, Array.length_toList, hn]
    have hb1 : es1.size < scanBound := by rw [hsz]; exact room
    have tw1 : TabW w t1 es1.size := ⟨f1, r1, tw.led.imp id fun z => by rw [l1]; exact z⟩
    have fin : Added w s a (fun j => S j || decide (j = k)) es1.size (Q true) := fun h' sb r => by
      have q := hQ h' sb
      rw [if_neg (by rw [hSk]; exact Bool.false_ne_true), hSk] at q
      rw [hsz] at r
      exact q r
    have hgw : ∀ (b : Bool) (s₁ : Shared) (Q' : Unit → Shared → Prop), Q' () s₁ → wpAny (model P w) A (match b with | true => rule "set.scan.the-table-gave-way" | false => pure ()) Q' E s₁ :=
      fun b s₁ Q' q => by cases b <;> first | exact wpAny_pure q | exact wpAny_rule q
    refine wpAny_bind (hgw _ _ _ ?_)
    split
    · refine wpAny_bind ?_
      rw [hashByValue_scannable 8 hsc]
      refine wpAny_pure ?_
      refine add_tail ?_ ho hex hd m1 hb1 ?_ ?_
      · intro b s₁ Q' q; cases b <;> first | exact wpAny_pure q | exact wpAny_rule q
      · split
        · first | exact tw1 | exact ⟨SetTable.fits_plain_off f1, tw1.ris, tw1.led⟩
        · first | exact tw1 | exact ⟨SetTable.fits_plain_off f1, tw1.ris, tw1.led⟩
      · intro h' sb r; dsimp only; exact wpAny_pure (fin h' sb r)
    · refine wpAny_bind (wpAny_pure ?_)
      simp only [↓reduceIte]
      refine add_tail ?_ ho hex hd m1 hb1 tw1 ?_
      · intro b s₁ Q' q; cases b <;> first | exact wpAny_pure q | exact wpAny_rule q
      · intro h' sb r; dsimp only; exact wpAny_pure (fin h' sb r)
theorem setQ_new {h : Heap} (ks : List Key) (ho : h.get? a = some { cls := .type "set", dict := none, data := .set #[] 0 (.fresh 0 0 (!w.params.followText "set-order")) }) : SetQ w h a (fun j => inK (ks.take 0) j) 0 :=
  ⟨_, #[], 0, _, ho, ⟨rfl, rfl, rfl⟩, rfl, ⟨fun e he => by simp at he, by simp, fun k => by simp [inK]⟩, ⟨by rfl, List.Pairwise.nil, by
    show _ ∨ (!w.params.followText "set-order") = true
    cases w.params.followText "set-order"
    · exact .inr rfl
    · exact .inl rfl⟩, by decide, rfl⟩
/-- the set takes in what is walked -/
theorem set_fill {I : Addr} {fp wr : List Addr} {G : Array GenState → Array GenState → Prop} {n : Nat} {Pv : Nat → Value → Prop} {St : Nat → Shared → Prop} {R : Result → Shared → Prop}
    (W : WalksS P w A.in1 I fp wr G n Pv St) (Z : Addr) (hZf : Z ∉ fp) (ks : List Key) (hn : n = ks.length) (hb : ks.length + 1 < scanBound) (hval : ∀ i v, Pv i v → ∃ k, ks[i]? = some k ∧ keyIs k v = true) :
    ∀ (m i : Nat) (s : Shared), n - i = m → i ≤ n → St i s → (∃ c, c ≤ i ∧ SetQ w s.heap Z (fun j => inK (ks.take i) j) c) →
      (∀ s' c, Moved (Z :: wr) G s s' → c ≤ n → SetQ w s'.heap Z (fun j => inK ks j) c → R (.ok (.ret .none)) s') →
      codeAny (model P w) A (.builtin "set.update.loop" ⟨[.ref Z, .ref I], []⟩) R s := by
  have hZw : Z ∉ wr := fun h => hZf (W.sub _ h)
  have hsub : ∀ b ∈ wr, b ∈ Z :: wr := fun b hb => List.mem_cons_of_mem _ hb
  intro m
  induction m with
  | zero =>
    intro i s hm' hi hst ⟨c, hc, hS⟩ hR
    have hin : i = n := by omega
    subst hin
    refine codeAny_builtin F.entry_set_update_loop ?_
    rw [Around.under_plainId F.plain_set_update_loop _]
    show wpAny _ A.in1 (pyNext (.ref I) >>= _) _ _ s
    refine wpAny_bind (W.done s _ _ hst fun s' hm => ?_)
    show wpAny _ A.in1 (ret Value.none) _ _ s'
    have e : ks.take i = ks := List.take_of_length_le (by omega)
    rw [e] at hS
    exact wpAny_pure (hR s' c (hm.mono hsub) hc (hS.at fun o e => hm.heap Z o hZw e))
  | succ m ih =>
    intro i s hm' hi hst ⟨c, hc, hS⟩ hR
    have hlt : i < n := by omega
    refine codeAny_builtin F.entry_set_update_loop ?_
    rw [Around.under_plainId F.plain_set_update_loop _]
    show wpAny _ A.in1 (pyNext (.ref I) >>= _) _ _ s
    refine wpAny_bind (W.item i s _ _ hlt hst fun v s' hP hst' hm => ?_)
    obtain ⟨z, hz, hv⟩ := hval i v hP
    have hS' := hS.at fun o e => hm.heap Z o hZw e
    show wpAny _ A.in1 (holding [v] (setAdd Z v) >>= _) _ _ s'
    refine wpAny_bind (wpAny_holding ?_)
    unfold setAdd
    refine wpAny_holding ?_
    refine wpAny_bind ((mixKind P w).pyHash (k := z) hv ?_)
    refine add_hashed (s := { s' with toks := s'.toks + 1 }) hv hS' (by omega) fun h' hsb hS2 => ?_
    have hS3 : SetQ w h' Z (fun j => inK (ks.take (i + 1)) j) (if inK (ks.take i) z = true then c else c + 1) := hS2.congr fun j => by
      rw [List.take_add_one, hz]
      exact inK_snoc _ z j
    have hc3 : (if inK (ks.take i) z = true then c else c + 1) ≤ i + 1 := by
      split <;> omega
    refine wpAny_pure ⟨plainId_quiet F.plain_set_update_loop _, ih (i + 1) _ (by omega) hlt (W.frame _ s' _ _ hst' (Nat.le_succ _) fun b hb o e => ?_) ⟨_, hc3, hS3⟩ fun s'' c2 hm'' hc'' hS'' => ?_⟩
    · rw [hsb.2 b (fun h : b = Z => hZf (by rw [← h]; exact hb))]; exact e
    · refine hR s'' c2 (Moved.trans W.gtrans ((hm.mono hsub).then_heap (Nat.le_succ _) fun b o hb e => ?_) hm'') hc'' hS''
      rw [hsb.2 b (fun h : b = Z => hb (by rw [h]; exact List.mem_cons_self))]; exact e
abbrev setObj0 (w : World) : Obj := { cls := .type "set", dict := none, data := .set #[] 0 (.fresh 0 0 (!w.params.followText "set-order")) }
set_option maxHeartbeats 8000000 in
/-- set(list of keys) -/
theorem call_set_keys {l : Addr} {items : Array Value} (ks : List Key) {Q : Value → Shared → Prop} (hh : A.handled = none) (hl : s.heap.IsList l items) (hsz : items.size = ks.length) (hval : ∀ (i : Nat) (v : Value), items[i]? = some v → ∃ k, ks[i]? = some k ∧ keyIs k v = true) (hb : ks.length + 1 < scanBound)
    (h : ∀ (h' : Heap) (tk c : Nat), SetQ w h' s.heap.objs.size (fun j => inK ks j) c → c ≤ ks.length → (∀ b o, s.heap.get? b = some o → h'.get? b = some o) → Q (.ref s.heap.objs.size) { s with heap := h', toks := tk }) :
    wpAny (model P w) A (call (.type "set") [.ref l]) Q E s := by
  obtain ⟨c, tl, hmro⟩ := F.called_set.mro
  have hmade := F.called_set.made
  have hsub := F.called_set.sub
  refine wpAny_call (codeAny_of_tree ?_)
  show wpAny _ _ (callAny (.type "set") _) _ _ _
  refine wpAny_pure ⟨Code.quiet_builtin _ (by decide +kernel), codeAny_builtin F.entry_type_call ?_⟩
  rw [Around.under_plain (weight_type_call_type "set" [.ref l] []) rfl]
  have h1 := F.called_set.notType
  have h2 := F.called_set.canCreate
  have hct := F.typeCall_set_1 (.ref l)
  repeat (any_goals (first | assumption | wp_step))
  refine codeAny_mono (code_set_led1 (.ref l) (E := E) (Q₁ := fun obj s₁ => obj = .ref s.heap.objs.size ∧ s₁ = { s with heap := s.heap.push (setObj0 w) }) ⟨rfl, rfl⟩) fun r s₁ hr => ?_
  cases r with
  | error e => exact hr
  | ok fl =>
    cases fl with
    | ret obj =>
      obtain ⟨rfl, rfl⟩ := hr
      have hS : (s.heap.push (setObj0 w)).get? s.heap.objs.size = some (setObj0 w) := Heap.get?_push_size _ rfl
      have hT : Shared.TypeIs { s with heap := s.heap.push (setObj0 w) } (.ref s.heap.objs.size) "set" := ⟨_, hS, rfl⟩
      have hli := F.called_set.init.lookup
      have hbi := F.called_set.init.bind (.ref s.heap.objs.size)
      repeat (any_goals (first | assumption | wp_step))
      refine codeAny_mono (codeAny_call_builtin (R := wants (fun r s₂ => r = .none ∧ ∃ h' tk c, s₂ = { s with heap := h', toks := tk } ∧ SetQ w h' s.heap.objs.size (fun j => inK ks j) c ∧ c ≤ ks.length ∧
          (∀ b o, s.heap.get? b = some o → h'.get? b = some o)) E) F.called_set.init.plain F.entry_set_init (check_set_init_1 hT ?_)) fun r₂ s₂ hr₂ => ?_
      · obtain ⟨ol, hol, hcl, nl, hdl⟩ := hl
        obtain ⟨ocls, odict, odata, oslots⟩ := ol
        simp only at hcl hdl
        subst hcl; subst hdl
        have hol' : (s.heap.push (setObj0 w)).get? l = some { cls := .type "list", dict := odict, data := .seq items nl, slots := oslots } := Heap.get?_push_of_some _ hol
        have hsls := F.sub_list_set
        have hslf := F.sub_list_frozenset
        have hne : (Value.type "list" == Value.type "dict") = false := by decide
        have hl1 : (s.heap.push (setObj0 w)).IsList l items := ⟨_, hol', rfl, nl, rfl⟩
        unfold Builtin.«set.__init__» noKeywords Builtin.Frozenset.updateFrom
        generalize hPI : pyIter = PI
        wp_walk
        subst hPI
        refine wpAny_pyIter_list hl1 ?_
        refine wpAny_bind (wpAny_runValue ?_)
        have hlS : l < s.heap.objs.size := Heap.lt_size hol
        have hh3 : A.in1.in1.in1.handled = none := by simp [hh]
        have hneI : l ≠ (s.heap.push (setObj0 w)).objs.size := by
          rw [Heap.size_push]; exact Nat.ne_of_lt (Nat.lt_succ_of_lt hlS)
        have hSf : s.heap.objs.size ∉ [(s.heap.push (setObj0 w)).objs.size, l] := by
          rw [Heap.size_push]; simp only [List.mem_cons, List.mem_singleton, List.not_mem_nil, or_false, not_or]
          exact ⟨Nat.ne_of_lt (Nat.lt_succ_self _), Nat.ne_of_gt hlS⟩
        refine set_fill ((Walks.list hh3 _ l hneI items).toS) s.heap.objs.size
          hSf ks hsz hb hval (items.size - 0) 0 _ (by omega) (Nat.zero_le _)
          ⟨⟨_, Heap.get?_push_size _ rfl, rfl, rfl⟩, (hl1.push _)⟩ ?hS0 ?hR
        case hS0 => exact ⟨0, Nat.le_refl 0, setQ_new ks (Heap.get?_push_of_some _ hS)⟩
        case hR =>
          intro s' c' hm hc' hS'
          obtain ⟨h', g2, d', tk', os'⟩ := s'
          have eg : g2 = s.gens := hm.gens
          have ed : d' = s.drawn := hm.drawn
          have eo : os' = s.os := hm.os
          subst eg; subst ed; subst eo
          show wpAny _ _ _ _ _ _
          refine wpAny_pure ?_
          show wpAny _ _ (ret Value.none) _ _ _
          rw [hsz] at hc'
          refine wpAny_pure ⟨rfl, h', tk', c', rfl, hS', hc', fun b o e => ?_⟩
          have hb0 : b < s.heap.objs.size := Heap.lt_size e
          refine hm.heap b o ?_ (Heap.get?_push_of_some _ (Heap.get?_push_of_some _ e))
          rw [Heap.size_push]
          simp only [List.mem_cons, List.mem_singleton, List.not_mem_nil, or_false, not_or]
          exact ⟨Nat.ne_of_lt hb0, Nat.ne_of_lt (Nat.lt_succ_of_lt hb0)⟩
      · cases r₂ with
        | error e => exact hr₂
        | ok fl₂ =>
          cases fl₂ with
          | ret r =>
            obtain ⟨rfl, h', tk, c', rfl, hS', hc', hk'⟩ := hr₂
            repeat (any_goals (first | assumption | wp_step))
            exact h _ _ _ hS' hc' hk'
          | _ => exact hr₂.elim
    | _ => exact hr.elim
end
end Lk

set_option Elab.async false
set_option linter.all false
set_option maxRecDepth 100000
set_option maxHeartbeats 4000000
namespace Lk
open PySem PySem.Spec PyProof.Rows L2
section
variable {P : Program} {w : World} {A : Around} {E : Value → Shared → Prop} {s : Shared} {a : Addr} {S : Key → Bool} {n : Nat}
/-- the members, gathered -/
theorem strs_are : ∀ (l : List Value), (∀ v ∈ l, ∃ x t, v = Value.str x t) → StrsAre l (l.map strOf) := strsAre_map
theorem sorted_head {Q : Value → Shared → Prop} (R : SetQ w s.heap a S n) (hh : A.handled = none) (hz : n ≤ sizeLine)
    (hQ : ∀ (s1 : Shared) (vs : List Value), (∀ b o, s.heap.get? b = some o → s1.heap.get? b = some o) → s.heap.objs.size ≤ s1.heap.objs.size → s1.gens = s.gens → s1.os = s.os → (∀ v ∈ vs, keyIs (kOf v) v = true) → (vs.map kOf).Nodup → (∀ k, k ∈ vs.map kOf ↔ S k = true) → vs.length = n →
      wpAny (model P w) A.in1.in1 (Builtin.«list.sort» ⟨[.ref s1.heap.objs.size], []⟩) (fun f s2 => ∃ v, f = .done (.ret v) ∧ Q (.ref s1.heap.objs.size) s2) E { s1 with heap := s1.heap.push (seqObj "list" vs.toArray 0) }) :
    wpAny (model P w) A (call (.builtin "sorted") [.ref a]) Q E s := by
  obtain ⟨o, es, ep, t, ho, hex, hd, mb, tw, hb, hn⟩ := R
  refine Calls.call_function_entry kind_sorted plain_sorted entry_sorted (args_sorted1 _) ?_
  unfold Builtin.«sorted»
  refine wpAny_bind (m := checkCount "sorted" 1 1 _) (wpAny_pure ?_)
  refine wpAny_bind (collect_set (A := A.in1) hh ⟨o, ho, hex.1, hd⟩ tw.fits hb tw.ris tw.led fun s1 vs k1 hz1 g1 o1 pm => ?_)
  have hvl : vs.length = n := by rw [pm.length_eq, List.length_map, Array.length_toList]; exact hn
  have pk : (vs.map kOf).Perm (es.toList.map kE) := by
    have q := pm.map kOf
    rw [List.map_map] at q
    exact q
  refine wpAny_bind (wpAny_newList ?_ (by rw [hvl]; exact hz))
  have hoL : (s1.heap.push (seqObj "list" vs.toArray 0)).get? s1.heap.objs.size = some (seqObj "list" vs.toArray 0) := Heap.get?_push_size _ rfl
  have main := hQ s1 vs k1 hz1 g1 o1 (fun v hv => by
    obtain ⟨e, he, q⟩ := List.mem_map.mp (pm.mem_iff.mp hv)
    obtain ⟨k, h1, _⟩ := mb.good e he
    rw [← q, kOf_is h1]
    exact h1) (pk.nodup_iff.mpr mb.nd) (fun k => by rw [pk.mem_iff, ← mb.mem k]) hvl
  refine wpAny_bind (wpAny_holding (wpAny_call_entry slot_list_sort ⟨_, hoL, rfl⟩ entry_list_sort (wpAny_mono main (fun f s2 hf => ?_) fun _ _ z => z) (args_list_sort _)))
  obtain ⟨v, rfl, q⟩ := hf
  exact ⟨v, rfl, wpAny_pure ⟨_, rfl, q⟩⟩
end
/-- at a: a set of keys, as a tracked thing -/
def SetKO (w : World) (a : Addr) (S : Key → Bool) (n : Nat) : HO := .ext fun h => SetQ w h a S n
section
variable {X : Cx}
theorem setKO_new {w : World} {P : Program} {H : Hp} {h : Heap} {a : Addr} {S : Key → Bool} {n : Nat} (R : SetQ w h a S n) : ObjOk P w H h a (SetKO w a S n) := by
  have ⟨o, _, _, _, ho, _⟩ := R
  exact ⟨R, ⟨o, ho⟩, fun h1 h2 p k => p.at k⟩
theorem setKO_get {pins : List (Addr × Obj)} {σ : L2.St} {H : Hp} {s : Shared} {a : Addr} {S : Key → Bool} {n : Nat} (I : Inv X pins σ H s) (ha : H a = some (SetKO X.w a S n)) : SetQ X.w s.heap a S n := (I.hok a _ ha).1
/-- set(list) -/
def rSetOf (K : PySem.W.Frag) (w : World) : List V → Hp → VK → Prop := fun xs H Q => ∃ (l : Addr) (ks : List Key), xs = [.ref l] ∧ SqL K H l (ks.map kV) ∧ ks.length < 1000 ∧ ∀ a c, H a = none → c ≤ ks.length → Q (.ref a) (upd H a (SetKO w a (inK ks) c))
theorem cr_setOf (hc : X.calm = true) : CallR X (.type "set") (rSetOf X.K X.w) := by
  intro pins s σ H xs us Q I r h
  obtain ⟨l, ks, rfl, hl, hn, q⟩ := h
  rw [Vals.ref1 r]
  obtain ⟨its, rv, pl, hz⟩ := I.list hl
  have hlen := rv.length
  rw [List.length_map] at hlen
  refine call_set_keys ks (I.ok.hd hc) pl.isList (by rw [List.size_toArray]; exact hlen.symm) (fun i v hv => ?_) (Nat.lt_trans (Nat.succ_lt_succ hn) (by decide)) fun h' tk c R hc' k => ?_
  · have hv' : its[i]? = some v := by simpa using hv
    have hi : i < ks.length := by rw [hlen]; exact (List.getElem?_eq_some_iff.mp hv').1
    obtain ⟨u, hu, ru⟩ := rv.get (i := i) (x := kV ks[i]) (by rw [List.getElem?_map, List.getElem?_eq_getElem hi]; rfl)
    rw [hu] at hv'
    cases hv'
    exact ⟨ks[i], List.getElem?_eq_getElem hi, kV_is (P := X.prog) (w := X.w) ru⟩
  · exact ⟨.ref _, _, I.laid (t' := tk) k (Nat.le_refl _) (setKO_new R), rfl, q _ c (I.hok.fresh (Nat.le_refl _)) hc'⟩
theorem lay_sorted {pins : List (Addr × Obj)} {σ : L2.St} {H : Hp} {s s1 : Shared} {vs : List Value} {zs : List V} {out : Array Value} (I : Inv X pins σ H s) (k : ∀ b o, s.heap.get? b = some o → s1.heap.get? b = some o) (hz : s.heap.objs.size ≤ s1.heap.objs.size) (g : s1.gens = s.gens) (o : s1.os = s.os)
    (hv : Vals zs out.toList) (hl : zs.length ≤ sizeLine) {Q : VK} (q : H s1.heap.objs.size = none → Q (.ref s1.heap.objs.size) (upd H s1.heap.objs.size (.lst zs))) :
    EP X pins σ Q (.ref s1.heap.objs.size) { s1 with heap := sortedHeap (s1.heap.push (seqObj "list" vs.toArray 0)) s1.heap.objs.size vs out } := by
  have hoL : (s1.heap.push (seqObj "list" vs.toArray 0)).get? s1.heap.objs.size = some (seqObj "list" vs.toArray 0) := Heap.get?_push_size _ rfl
  obtain ⟨c, hc⟩ := sortedHeap_at (vs := vs) (out := out) hoL
  have hn : H s1.heap.objs.size = none := I.hok.fresh hz
  have k2 : ∀ b u, s.heap.get? b = some u → (sortedHeap (s1.heap.push (seqObj "list" vs.toArray 0)) s1.heap.objs.size vs out).get? b = some u := fun b u e => by
    have q := k b u e
    have hlt := Heap.lt_size q
    rw [sortedHeap_old (Nat.ne_of_lt hlt) (by rw [size_push']; exact Nat.lt_succ_of_lt hlt)]
    exact Heap.get?_push_of_some _ q
  obtain ⟨h1, g1, d1, t1, o1⟩ := s1
  have eg : g1 = s.gens := g
  have eo : o1 = s.os := o
  subst eg eo
  have J : Inv X pins σ (upd H h1.objs.size (.lst zs)) { s with heap := sortedHeap (h1.push (seqObj "list" vs.toArray 0)) h1.objs.size vs out, gens := s.gens, drawn := d1, toks := t1 } :=
    I.call (ch := []) (Un.laid k2 hz hn) (I.hok.laid k2 hz ⟨hl, out.toList, c, hv, by rw [Array.toArray_toList]; exact hc⟩) I.bare (fun _ z => nomatch z)
  exact ⟨.ref _, _, J, rfl, q hn⟩
/-- sorted(set of texts), fewer than 64 -/
def rSortedT (w : World) : List V → Hp → VK → Prop := fun vs H Q => ∃ (a : Addr) (S : Key → Bool) (n : Nat), vs = [V.ref a] ∧ H a = some (SetKO w a S n) ∧ n < 64 ∧ (∀ k, S k = true → ∃ x, k = kS x) ∧
  ∀ (ys : List Str) (p : Addr), WM.Asc slt ys → (∀ x, x ∈ ys ↔ S (kS x) = true) → H p = none → Q (.ref p) (upd H p (.lst (ys.map V.str)))
theorem cr_sortedT' (hc : X.calm = true) : CallR X (.builtin "sorted") (rSortedT X.w) := by
  intro pins s σ H vs us Q I r h
  obtain ⟨a, S, n, rfl, ha, h64, hk, q⟩ := h
  have R := setKO_get I ha
  rw [Vals.ref1 r]
  refine sorted_head R (I.ok.hd hc) (small64 h64) fun s1 vs k hz g o gd nd hm hl => ?_
  have hst : ∀ v ∈ vs, ∃ x t, v = Value.str x t := fun v hv => by
    obtain ⟨x, e⟩ := hk (kOf v) ((hm _).1 (List.mem_map.mpr ⟨v, hv, rfl⟩))
    have h2 := gd v hv
    rw [e] at h2
    obtain ⟨t, e2⟩ := Value.isStrOf_shape (x := x) (v := v) h2
    exact ⟨x, t, e2⟩
  have hS : StrsAre vs (vs.map strOf) := strsAre_map vs hst
  have ek : vs.map kOf = (vs.map strOf).map kS := by
    rw [List.map_map]
    refine List.map_congr_left fun v hv => ?_
    obtain ⟨x, t, rfl⟩ := hst v hv
    rfl
  have hoL : (s1.heap.push (seqObj "list" vs.toArray 0)).get? s1.heap.objs.size = some (seqObj "list" vs.toArray 0) := Heap.get?_push_size _ rfl
  refine list_sort_treeK strKind_oneLt hoL hS.keysOf (fun v₁ v₂ rest e => keyKind_strs (by rw [← e]; exact hS)) (by rw [hl]; exact h64) fun st' hp hs => ⟨_, rfl, ?_⟩
  obtain ⟨ys, g1, g2, g3⟩ := sorted_out_str hS hp hs
  have hy : ys.length = n := by rw [g2.length_eq, List.length_map, hl]
  refine lay_sorted I k hz g o (vals_of_strs g1) (by rw [List.length_map, hy]; exact small64 h64) fun hn => q ys _ ?_ (fun x => ?_) hn
  · have nds : (vs.map strOf).Nodup := by
      rw [ek] at nd
      exact List.Pairwise.of_map kS (fun a b hne e => hne (congrArg kS e)) nd
    exact WM.asc_of_weak slt_lin (sortedS_weak g3) (g2.nodup_iff.mpr nds)
  · rw [g2.mem_iff, ← hm, ek]
    refine Iff.trans ?_ List.mem_map.symm
    constructor
    · intro h
      exact ⟨x, h, rfl⟩
    · rintro ⟨y, hy, e⟩
      rw [← Sum.inr.inj e]
      exact hy
/-- sorted(set of whole numbers), fewer than 64 -/
def rSortedN (w : World) : List V → Hp → VK → Prop := fun vs H Q => ∃ (a : Addr) (S : Key → Bool) (n : Nat), vs = [V.ref a] ∧ H a = some (SetKO w a S n) ∧ n < 64 ∧ (∀ k, S k = true → ∃ i, k = Sum.inl i) ∧
  ∀ (ys : List Int) (p : Addr), ys.Pairwise (· < ·) → (∀ x, x ∈ ys ↔ S (Sum.inl x) = true) → H p = none → Q (.ref p) (upd H p (.lst (ys.map V.int)))
theorem cr_sortedN' (hc : X.calm = true) : CallR X (.builtin "sorted") (rSortedN X.w) := by
  intro pins s σ H vs us Q I r h
  obtain ⟨a, S, n, rfl, ha, h64, hk, q⟩ := h
  have R := setKO_get I ha
  rw [Vals.ref1 r]
  refine sorted_head R (I.ok.hd hc) (small64 h64) fun s1 vs k hz g o gd nd hm hl => ?_
  have hst : ∀ v ∈ vs, ∃ x t, v = Value.int x t := fun v hv => by
    obtain ⟨x, e⟩ := hk (kOf v) ((hm _).1 (List.mem_map.mpr ⟨v, hv, rfl⟩))
    have h2 := gd v hv
    rw [e] at h2
    obtain ⟨t, e2⟩ := Value.isInt_shape (k := x) (v := v) h2
    exact ⟨x, t, e2⟩
  have hS : IntsAre vs (vs.map L2.vInt) := by
    clear hl nd hm gd
    induction vs with
    | nil => exact .nil
    | cons v l ih =>
      obtain ⟨x, t, rfl⟩ := hst v List.mem_cons_self
      exact .cons _ _ (ih fun u hu => hst u (List.mem_cons_of_mem _ hu))
  have ek : vs.map kOf = (vs.map L2.vInt).map Sum.inl := by
    rw [List.map_map]
    refine List.map_congr_left fun v hv => ?_
    obtain ⟨x, t, rfl⟩ := hst v hv
    rfl
  have hoL : (s1.heap.push (seqObj "list" vs.toArray 0)).get? s1.heap.objs.size = some (seqObj "list" vs.toArray 0) := Heap.get?_push_size _ rfl
  refine list_sort_tree hoL hS (by rw [hl]; exact h64) fun out ys g1 g2 g3 => ⟨_, rfl, ?_⟩
  have hy : ys.length = n := by rw [g2.length_eq, List.length_map, hl]
  refine lay_sorted I k hz g o (vals_of_ints g1) (by rw [List.length_map, hy]; exact small64 h64) fun hn => q ys _ ?_ (fun x => ?_) hn
  · have nds : (vs.map L2.vInt).Nodup := by
      rw [ek] at nd
      exact List.Pairwise.of_map Sum.inl (fun a b hne e => hne (congrArg Sum.inl e)) nd
    exact lt_of_le_nodup ys g3 (g2.nodup_iff.mpr nds)
  · rw [g2.mem_iff, ← hm, ek]
    refine Iff.trans ?_ List.mem_map.symm
    constructor
    · intro h
      exact ⟨x, h, rfl⟩
    · rintro ⟨y, hy, e⟩
      rw [← Sum.inl.inj e]
      exact hy
end
end Lk

set_option Elab.async false
set_option linter.all false
set_option maxRecDepth 100000
set_option maxHeartbeats 4000000
/-! x in a tuple of data; min of a list of lists of texts. -/
namespace Lk
open PySem PySem.Spec PyProof.Rows L2
section
variable {X : Cx}
/-- x in t, t a tuple of data -/
def rInT (K : PySem.W.Frag) : R2 := fun x y H Q => ∃ d ds, Dp K H x d ∧ Dp K H y (.tuple ds) ∧ SeqAt.shaped d = true ∧ SeqAt.shaped (.tuple ds) = true ∧ Q (.bl (ds.any fun z => PyData.eqv z d)) H
theorem kInT (K : PySem.W.Frag) (hu : X.A.units + 65 < cLine) (hK : X.K = K := by rfl) : OpR X (compareOp .In) (rInT K) := by
  subst hK
  intro pins s σ H x y v u Q I rx ry h
  obtain ⟨d, ds, hd, he, sd, se, q⟩ := h
  obtain ⟨as, r1⟩ := Dp.reads I d x v hd rx
  obtain ⟨bs, r2⟩ := Dp.reads I (.tuple ds) y u he ry
  have h2 := SeqAt.canLay_of_shaped se
  have h3 := SeqAt.depth_of_shaped sd
  simp only [PyData.canLay0] at h2
  exact SeqAt.in_tuple_reads r2 r1 h2 (SeqAt.canLay_of_shaped sd) (by omega) ⟨.bl _, H, I, rfl, q⟩
/-- x in t, t a list of data -/
theorem kInD (K : PySem.W.Frag) (hu : X.A.units + 65 < cLine) (hK : X.K = K := by rfl) : OpR X (compareOp .In) (rInD K) := by
  subst hK
  exact op_inD hu
end
/-! ### min -/
def dL (r : List Str) : PyData := .list (r.map .str)
theorem listLt_llt : ∀ a b : List Str, PySem.W.listLt a b = WM.llt slt a b
  | [], [] => rfl
  | [], _ :: _ => rfl
  | _ :: _, [] => rfl
  | x :: a, y :: b => by
    rw [PySem.W.listLt, WM.llt, listLt_llt a b]
    rfl
theorem dL_lt (a b : List Str) : PySem.W.dataLt (dL a) (dL b) = WM.llt slt a b := by
  rw [← listLt_llt]
  exact PySem.W.DatumOrd.lt_eq (α := List Str) a b
theorem dL_inj {a b : List Str} (h : dL a = dL b) : a = b := by
  have e := PyData.list.inj h
  have g : (a.map PyData.str).map (fun d => match d with | .str x => x | _ => default) = (b.map PyData.str).map (fun d => match d with | .str x => x | _ => default) := by rw [e]
  rw [List.map_map, List.map_map] at g
  have i : ((fun d : PyData => match d with | .str x => x | _ => default) ∘ PyData.str) = id := rfl
  rwa [i, List.map_id, List.map_id] at g
/-- the least of some -/
def minR : List Str → List (List Str) → List Str := fun x xs => xs.foldl (fun a y => if WM.llt slt y a = true then y else a) x
theorem minR_ok : ∀ (xs : List (List Str)) (x : List Str), minR x xs ∈ x :: xs ∧ ∀ y ∈ x :: xs, WM.llt slt y (minR x xs) = false
  | [], x => ⟨List.mem_cons_self, fun y hy => by rw [List.mem_singleton.mp hy]; exact (WM.llt_lin slt_lin).irr x⟩
  | y :: xs, x => by
    obtain ⟨h1, h2⟩ := minR_ok xs (if WM.llt slt y x = true then y else x)
    have e : minR x (y :: xs) = minR (if WM.llt slt y x = true then y else x) xs := rfl
    rw [e]
    refine ⟨?_, fun z hz => ?_⟩
    · rcases List.mem_cons.mp h1 with q | q
      · rw [q]
        by_cases c : WM.llt slt y x = true
        · rw [if_pos c]; exact List.mem_cons_of_mem _ List.mem_cons_self
        · rw [if_neg c]; exact List.mem_cons_self
      · exact List.mem_cons_of_mem _ (List.mem_cons_of_mem _ q)
    · have hm := h2 _ List.mem_cons_self
      generalize minR (if WM.llt slt y x = true then y else x) xs = m at h1 h2 hm ⊢
      have key : ∀ z, WM.llt slt z (if WM.llt slt y x = true then y else x) = false → WM.llt slt z m = false := fun z hz => by
        cases c : WM.llt slt z m with
        | false => rfl
        | true =>
          rcases Classical.em (z = (if WM.llt slt y x = true then y else x)) with q | q
          · rw [q] at c; rw [c] at hm; cases hm
          · rcases (WM.llt_lin slt_lin).tot _ _ q with q | q
            · rw [q] at hz; cases hz
            · have := (WM.llt_lin slt_lin).tr _ _ _ q c
              rw [this] at hm; cases hm
      rcases List.mem_cons.mp hz with q | q
      · subst q
        refine key z ?_
        by_cases c : WM.llt slt y z = true
        · rw [if_pos c]; exact (WM.llt_lin slt_lin).asy c
        · rw [if_neg c]; exact (WM.llt_lin slt_lin).irr z
      · rcases List.mem_cons.mp q with q | q
        · subst q
          refine key z ?_
          by_cases c : WM.llt slt z x = true
          · rw [if_pos c]; exact (WM.llt_lin slt_lin).irr z
          · rw [if_neg c]; simpa using c
        · exact h2 z (List.mem_cons_of_mem _ q)
theorem minD_dL : ∀ (xs : List (List Str)) (x : List Str), PySem.W.minD (dL x) (xs.map dL) = dL (minR x xs) := by
  intro xs
  unfold PySem.W.minD minR
  induction xs with
  | nil => intro x; rfl
  | cons y xs ih =>
    intro x
    rw [List.map_cons, List.foldl_cons, List.foldl_cons, ← ih]
    (try dsimp only)
    rw [dL_lt]
    congr 1
    by_cases c : WM.llt slt y x = true
    · rw [if_pos c, if_pos c]
    · rw [if_neg c, if_neg c]
theorem alike_dL (rows : List (List Str)) : PySem.W.AlikeAll (rows.map dL) := by
  refine ⟨fun x hx y hy => ?_, fun x hx => ?_⟩
  · obtain ⟨a, _, rfl⟩ := List.mem_map.mp hx
    obtain ⟨b, _, rfl⟩ := List.mem_map.mp hy
    exact PySem.W.DatumOrd.alike (α := List Str) a b
  · obtain ⟨a, _, rfl⟩ := List.mem_map.mp hx
    exact fun e => nomatch e
theorem depth_str (r : List Str) : PyData.depthAll (r.map PyData.str) = 0 := by
  induction r with
  | nil => simp [PyData.depthAll]
  | cons x r ih => simp [PyData.depthAll, PyData.depth, ih]
theorem depth_dL (rows : List (List Str)) : PyData.depthAll (rows.map dL) ≤ 1 := by
  induction rows with
  | nil => simp [PyData.depthAll]
  | cons x r ih =>
    have e : (dL x).depth = 1 := by simp [dL, PyData.depth, depth_str]
    simp only [List.map_cons, PyData.depthAll, e]
    omega
theorem dp_strs {K : PySem.W.Frag} {H : Hp} : ∀ r : List Str, DpAll K H (r.map V.str) (r.map PyData.str)
  | [] => .nil
  | x :: r => .cons (.str x) (dp_strs r)
/-- rows at addresses -/
def Rws (H : Hp) (ls : List Addr) (rows : List (List Str)) : Prop := Paired (fun (a : Addr) (r : List Str) => H a = some (.lst (r.map .str))) ls rows
theorem dp_rows {K : PySem.W.Frag} {H : Hp} {ls : List Addr} {rows : List (List Str)} (h : Rws H ls rows) : DpAll K H (ls.map V.ref) (rows.map dL) := by
  induction h with
  | nil => exact .nil
  | cons r t ih => exact .cons (.lst (SqL.of r) (dp_strs _)) ih
section
variable {X : Cx}
/-- min of a list of lists of texts -/
def rMinL (K : PySem.W.Frag) : List V → Hp → VK → Prop := fun xs H Q => ∃ (l : Addr) (ls : List Addr) (rows : List (List Str)), xs = [.ref l] ∧ H l = some (.lst (ls.map .ref)) ∧ Rws H ls rows ∧ rows ≠ [] ∧
  ∀ (i : Nat) (a : Addr) (r : List Str), ls[i]? = some a → rows[i]? = some r → (∀ x ∈ rows, WM.llt slt x r = false) → Q (.ref a) H
theorem cr_minL (hc : X.calm = true) (hu : X.A.units + 65 < cLine) : CallR X (.builtin "min") (rMinL X.K) := by
  intro pins s σ H xs us Q I r h
  obtain ⟨l, ls, rows, rfl, hl, hr, hne, q⟩ := h
  rw [Vals.ref1 r]
  obtain ⟨its, rv, pl, hz⟩ := I.list (SqL.of (K := X.K) hl)
  obtain ⟨as, ra⟩ := Dp.readsAll I (rows.map dL) _ its (dp_rows hr) rv
  cases rows with
  | nil => exact absurd rfl hne
  | cons r0 rows =>
    have ra' : ReadsAll s.heap its.toArray.toList (dL r0 :: rows.map dL) as := by simpa using ra
    refine PySem.W.min_list_data (I.ok.hd hc) pl.isList ra' (alike_dL (r0 :: rows)) ?_ fun i v h' tk bs hv hb hk => ?_
    · have := depth_dL (r0 :: rows)
      rw [List.map_cons] at this
      omega
    · have hv' : its[i]? = some v := by simpa using hv
      have hi : i < its.length := (List.getElem?_eq_some_iff.mp hv').1
      have hil : i < (ls.map V.ref).length := by rw [rv.length]; exact hi
      have hl2 : i < ls.length := by rwa [List.length_map] at hil
      obtain ⟨rw0, hrw, ht⟩ := Paired.at' hr (List.getElem?_eq_getElem hl2)
      obtain ⟨u, hu2, ru⟩ := rv.get (i := i) (x := .ref ls[i]) (by rw [List.getElem?_map, List.getElem?_eq_getElem hl2]; rfl)
      rw [hu2] at hv'
      have e := Option.some.inj hv'
      subst e
      obtain ⟨as1, r1⟩ := Dp.reads I (dL rw0) (.ref ls[i]) u (.lst (SqL.of ht) (dp_strs rw0)) ru
      rw [minD_dL] at hb
      have e2 : dL rw0 = dL (minR r0 rows) := PySem.W.alike_unique _ _ _ _ _ (PySem.W.DatumOrd.alike (α := List Str) _ _) (PySem.W.reads_keeps hk r1) hb
      have e3 := dL_inj e2
      subst e3
      exact ⟨.ref ls[i], H, I.kept hk, ru, q i _ _ (List.getElem?_eq_getElem hl2) hrw (minR_ok rows r0).2⟩
end
end Lk

set_option Elab.async false
set_option linter.all false
set_option maxRecDepth 100000
set_option maxHeartbeats 4000000
namespace Lk
open PySem PySem.Spec PyProof.Rows L2
section
variable {X : Cx}
/-- sorted(words), a list or a tuple -/
def rSortedW (K : PySem.W.Frag) : List V → Hp → VK → Prop := fun vs H Q => ∃ (a : Addr) (W : List Str), vs = [V.ref a] ∧ (SqL K H a (W.map V.str) ∨ SqT K H a (W.map V.str)) ∧ W.length < 64 ∧ W.Nodup ∧
  ∀ p : Addr, H p = none → Q (.ref p) (upd H p (.lst ((srtS W).map V.str)))
theorem cr_sortedW (hc : X.calm = true) : CallR X (.builtin "sorted") (rSortedW X.K) := by
  intro pins s σ H vs us Q I r h
  obtain ⟨a, W, rfl, ha, h64, nd, q⟩ := h
  rcases ha with ha | ha
  · refine cr_sortedS pins s σ H _ us Q I r ⟨a, W, rfl, ha, h64, fun ys p pm so hp => ?_⟩
    rw [srtS_eq nd pm so]
    exact q p hp
  · obtain ⟨its, rv, ⟨o, ho, hcl, n, hd⟩, hz⟩ := I.tuple ha
    have hS : StrsAre its W := rv.strs
    have hl : its.length = W.length := by
      have e := rv.length
      rw [List.length_map] at e
      exact e.symm
    rw [Vals.ref1 r]
    refine Calls.call_function_entry kind_sorted plain_sorted entry_sorted (args_sorted1 _) ?_
    unfold Builtin.«sorted»
    refine wpAny_bind (m := checkCount "sorted" 1 1 _) (wpAny_pure ?_)
    have hsz : its.toArray.size ≤ sizeLine := by rw [List.size_toArray, hl]; exact small64 h64
    refine wpAny_bind (wpAny_collect_seq (A := X.A.in1) a (.inr rfl) ho hcl hd (fun h' k => ?_) hsz)
    have pl : its.toArray.toList = its := by simp
    rw [pl]
    refine wpAny_bind (wpAny_newList ?_ (by rw [hl]; exact small64 h64))
    have hoL : (h'.push (seqObj "list" its.toArray 0)).get? h'.objs.size = some (seqObj "list" its.toArray 0) := Heap.get?_push_size _ rfl
    have I1 : Inv X pins σ H { s with heap := h', toks := s.toks } := I.kept k
    have main : wpAny (model X.prog X.w) X.A.in1.in1 (Builtin.«list.sort» ⟨[.ref h'.objs.size], []⟩) (fun f s2 => ∃ v, f = .done (.ret v) ∧ EP X pins σ Q (.ref h'.objs.size) s2) X.xe { s with heap := h'.push (seqObj "list" its.toArray 0) } := by
      refine list_sort_treeK strKind_oneLt hoL hS.keysOf (fun v₁ v₂ rest e => keyKind_strs (by rw [← e]; exact hS)) (by rw [hl]; exact h64) fun st' hp hs => ⟨_, rfl, ?_⟩
      obtain ⟨ys, g1, g2, g3⟩ := sorted_out_str hS hp hs
      refine lay_sorted (s := { s with heap := h' }) (s1 := { s with heap := h' }) (vs := its) (zs := ys.map V.str) I1 (fun _ _ q => q) (Nat.le_refl _) rfl rfl (vals_of_strs g1) (by rw [List.length_map, g2.length_eq]; exact small64 h64) fun hn => ?_
      rw [srtS_eq nd g2 g3]
      exact q _ hn
    refine wpAny_bind (wpAny_holding (wpAny_call_entry slot_list_sort ⟨_, hoL, rfl⟩ entry_list_sort (wpAny_mono main (fun f s2 hf => ?_) fun _ _ z => z) (args_list_sort _)))
    obtain ⟨v, rfl, q⟩ := hf
    exact ⟨v, rfl, wpAny_pure ⟨_, rfl, q⟩⟩
/-! ### list.remove of a text -/
theorem erase_mapS : ∀ (l : List Str) (j : Nat), (l.map V.str).eraseIdx j = (l.eraseIdx j).map V.str
  | [], j => by simp
  | a :: r, 0 => by simp
  | a :: r, j + 1 => by
    have ih := erase_mapS r j
    simp [ih]
def rRemS : V → List V → Hp → VK → Prop := fun x xs H Q => ∃ (l : Addr) (w : Str) (ws : List Str), x = .ref l ∧ xs = [.str w] ∧ H l = some (.lst (ws.map V.str)) ∧ w ∈ ws ∧ Q .non (upd H l (.lst ((ws.erase w).map V.str)))
theorem first_at {w : Str} : ∀ {ws : List Str}, w ∈ ws → ∃ j, ws[j]? = some w ∧ (∀ m : Nat, m < j → ws[m]? ≠ some w) ∧ ws.eraseIdx j = ws.erase w
  | x :: ws, h => by
    by_cases e : x = w
    · subst e
      exact ⟨0, rfl, fun m hm => by omega, by simp⟩
    · have h2 : w ∈ ws := (List.mem_cons.mp h).resolve_left fun q => e q.symm
      obtain ⟨j, h1, h3, h4⟩ := first_at h2
      refine ⟨j + 1, h1, fun m hm => ?_, ?_⟩
      · cases m with
        | zero => exact fun q => e (Option.some.inj q)
        | succ m => exact h3 m (by omega)
      · rw [List.eraseIdx_cons_succ, h4, List.erase_cons_tail]
        simpa using e
theorem mt_removeS : MtM X "list.remove" rRemS := by
  intro pins s σ H x xs v us Q I rx rxs h
  obtain ⟨l, k, ns, rfl, rfl, hH, hmem, q⟩ := h
  obtain ⟨j, hj, hno, he⟩ := first_at hmem
  cases rx
  obtain ⟨u, rfl, ru⟩ := rxs.one
  obtain ⟨t, rfl⟩ := ru
  obtain ⟨z, its, n, r, hl, e⟩ := I.lstM hH
  have hi : StrsAre its ns := r.strs
  rw [List.length_map] at hl z
  have hjn : j < ns.length := (List.getElem?_eq_some_iff.mp hj).1
  have hjl : j < its.toArray.size := by rw [List.size_toArray]; omega
  have at_ : ∀ (m : Nat) (hm : m < ns.length), ∃ tm, its[m]? = some (Value.str ns[m] tm) := fun m hm => by
    obtain ⟨u, hu, t', rfl⟩ := r.get (i := m) (x := .str ns[m]) (by rw [List.getElem?_map, List.getElem?_eq_getElem hm]; rfl)
    exact ⟨t', hu⟩
  refine call_meets PySem.F.slot_list_remove ⟨_, e, rfl⟩ PySem.F.entry_list_remove (PySem.F.args_list_remove_2 _ _)
    (MeetsSeq.list_remove l its.toArray n (.str k t) (isStrOf k) (fun y hy => eq_isStrOf k t hi y (by simpa using hy)) j hjl ?_ ?_ (by rw [List.size_toArray]; omega)) ⟨e, ?_⟩
  · obtain ⟨tj, hjt⟩ := at_ j hjn
    obtain ⟨h1, h2⟩ := List.getElem?_eq_some_iff.mp hjt
    have e1 : its.toArray[j] = .str ns[j] tj := by simpa using h2
    have e2 : ns[j] = k := by
      rw [List.getElem?_eq_getElem hjn] at hj
      exact Option.some.inj hj
    rw [e1, e2]
    show (k == k) = true
    exact beq_self_eq_true k
  · intro m hm hmj
    have hmn : m < ns.length := by omega
    obtain ⟨tm, hmt⟩ := at_ m hmn
    obtain ⟨h1, h2⟩ := List.getElem?_eq_some_iff.mp hmt
    have e1 : its.toArray[m] = .str ns[m] tm := by simpa using h2
    rw [e1]
    show (ns[m] == k) = false
    refine beq_eq_false_iff_ne.mpr fun e2 => hno m hmj ?_
    rw [List.getElem?_eq_getElem hmn, e2]
  · have rr := r.eraseIdx j
    rw [erase_mapS, he] at rr
    refine ⟨.non, _, I.lset (its' := its.eraseIdx j) (t' := s.toks) hH e ?_ rr ?_, rfl, q⟩
    · show its.toArray.eraseIdxIfInBounds j = (its.eraseIdx j).toArray
      rw [List.eraseIdxIfInBounds_toArray]
    · have z2 := len_erase ns j
      rw [he] at z2
      rw [List.length_map]
      omega
end
end Lk

set_option Elab.async false
set_option linter.all false
set_option maxRecDepth 100000
set_option maxHeartbeats 4000000
namespace Lk
open PySem PySem.Spec PyProof.Rows L2
abbrev sBehind : Stmt := top 17
theorem _root_.L2.Same.add {H H' : Hp} (x : Same H H') {p : Addr} (hp : H' p = none) (o : HO) : Same H (upd H' p o) := x.new (x.free hp) o
/-- the lists behind the words -/
def Bl (H : Hp) (W : List Str) (PP : List (Str × Str)) (al : Str → Addr) : Prop := ∀ w ∈ W, H (al w) = some (.lst ((WM.bh (srtS W) PP w).map .str))
theorem Bl.same {H H' : Hp} {W : List Str} {PP : List (Str × Str)} {al : Str → Addr} (b : Bl H W PP al) (s : Same H H') : Bl H' W PP al := fun w h => s _ _ (b w h)
abbrev bD (W : List Str) (al : Str → Addr) : HO := .dK (dct (srtS W) fun w => .ref (al w))
def spBehind (C : Addr) : Sp := fun vs H Q _ => ∃ (x : Addr) (W : List Str) (PP : List (Str × Str)), vs = [.ref x] ∧ WishAt C H x W PP ∧ Wf W PP ∧
  ∀ H' d al, Same H H' → H d = none → H' d = some (bD W al) → Bl H' W PP al → Q (.ref d) H'
theorem mem_srtS {W : List Str} {x : Str} : x ∈ srtS W ↔ x ∈ W := (srtS_perm W).mem_iff
theorem few64 {W : List Str} {PP : List (Str × Str)} (wf : Wf W PP) : W.length < 64 := Nat.lt_of_le_of_lt wf.few (by decide)
theorem srtS_len (W : List Str) : (srtS W).length = W.length := (srtS_perm W).length_eq
theorem Rm.u1 {k : Nat} {A : Around} (r : Room k A) : A.units + 1 < cLine := by have := r.un; omega
theorem Rm.u65 {k : Nat} {A : Around} (r : Room k A) : A.units + 65 < cLine := by have := r.un; omega
theorem fm_one (wd : Str) : ∀ PP : List (Str × Str), PP.filterMap (fun p => if p.1 = wd then some (V.str p.2) else none) = ((PP.filter fun p => decide (p.1 = wd)).map fun p => kS p.2).map kV
  | [] => rfl
  | p :: PP => by
    rw [List.filterMap_cons, List.filter_cons, fm_one wd PP]
    by_cases e : p.1 = wd
    · rw [if_pos e, if_pos (decide_eq_true e)]
      rfl
    · rw [if_neg e, if_neg (by simpa using e)]
section
variable {P : Program} {w : World} {K : PySem.W.Frag} {mg : Str → Option Value} {base : Heap}
theorem scBehind : FnScope ["wishes", "found", "word", "one", "other"] ["wishes"] (defScope sBehind) := ⟨rfl, rfl, rfl, by decide +kernel, rfl, by decide +kernel, by decide +kernel⟩
theorem cal_behind {C : Addr} (B : Blt mg) (T : TW K C) (D : Def K mg "behind_all" sBehind) : Cal P w K mg base CX0 1 "behind_all" (spBehind C) := by
  refine D.cal scBehind (fun vs H Q E h => ?_) (fun _ _ _ _ _ _ us hl => match us, hl with | [_], _ => rfl) (fun f cdv A outer s H vs Q E hr h => ?_)
  · obtain ⟨x, W, PP, rfl, _⟩ := h
    rfl
  · obtain ⟨x, W, PP, rfl, hx, wf, q⟩ := h
    refine ⟨_, pss_cons (ps_set (i := 1) scBehind.nd rfl (Or.inl rfl) pe_dnewK)
      (pss_cons (ps_for PassesOwn.never rfl (pi_list (pe_callB (cr_sortedW rfl) (by rfl) B.sorted (by decide +kernel) (pa_cons (pe_fld (pv 0) rfl) pa_nil))) (pg_name (i := 2) scBehind.nd rfl (Or.inr rfl))
        (pss_one (ps_dput (Rm.u1 hr) (pv 1) (pv 2) (pe_callB (cr_sortedT' rfl) (by rfl) B.sorted (by decide +kernel) (pa_cons (pe_callTy (cr_setOf rfl) (by rfl) B.set (by decide +kernel)
          (pa_cons (pe_lc (own := [("one", 3), ("other", 4)]) (g := gTup K 2 (gCons (gName 3) (gCons (gName 4) gNil))) rfl scBehind.nd (pi_tup (pe_fld (pv 0) rfl)) (blkOk_by (N := ["wishes", "found", "word", "one", "other"]) (sc := defScope sBehind) (by decide +kernel))
            (fun _ _ _ _ _ => pg_tup rfl (pgs_cons (pg_name (i := 3) scBehind.nd rfl (Or.inl rfl)) (pgs_cons (pg_name (i := 4) scBehind.nd rfl (Or.inl rfl)) pgs_nil)))
            (fun _ _ _ _ _ => pts_one (pt_cmpR op_eq (pv 3) (pv 2) (nomark _))) (fun _ _ _ _ _ => pv 4)) pa_nil)) pa_nil)) rfl)))
      (pss_one (ps_ret (pv 1)))), ?_⟩
    obtain ⟨dx, tw, tp, ps, hi, htw, htp, hps⟩ := hx
    intro d hd
    have sd : Same H (upd H d (.dK [])) := (Same.refl H).new hd _
    have h64 := few64 wf
    refine ⟨_, rfl, x, C, dx, _, _, rfl, sd _ _ hi, T.cl, T.nW, wfs_words _ _, tw, W, rfl, .inr (SqT.of (sd _ _ htw)), h64, wf.nd, fun l hl => ?_⟩
    have ndl : d ≠ l := ne_of_none upd_same hl
    have hl0 : H l = none := sd.free hl
    have s0 := sd.new hl0 (.lst ((srtS W).map V.str))
    refine ⟨l, rfl, ⟨_, SqL.of upd_same⟩, ?_⟩
    refine for_list (K := K) (a := l) (xs := (srtS W).map V.str) (fun i σ H' => (∃ v2, σ = [some (.ref x), some (.ref d), v2, none, none]) ∧ Same H H' ∧ H' l = some (.lst ((srtS W).map V.str)) ∧ ∃ al : Str → Addr, H' d = some (.dK (dct ((srtS W).take i) fun w => .ref (al w))) ∧ ∀ w ∈ (srtS W).take i, H' (al w) = some (.lst ((WM.bh (srtS W) PP w).map .str)))
      ⟨⟨_, rfl⟩, s0, upd_same, fun _ => 0, by rw [upd_ne ndl, upd_same]; rfl, fun w hw => absurd hw (by simp)⟩ (fun i σ H' _ h => SqL.of h.2.2.1) ?_ ?_
    · rintro i y σ H' hi ⟨⟨v2, rfl⟩, s1, hl1, al, hd1, hal⟩
      obtain ⟨wd, hwd, rfl⟩ := map_at hi
      have hp1 := hps.same s1
      refine ⟨_, rfl, x, C, dx, _, _, rfl, s1 _ _ ‹H x = _›, T.cl, T.nP, wfs_pairs _ _, tp, rfl, ⟨_, SqT.of (s1 _ _ htp)⟩, fun D hD => ?_⟩
      refine lc_fmp (fun p => if p.1 = wd then some (V.str p.2) else none) (s1 _ _ htp) hp1 hD (Nat.le_trans wf.fewP (by decide)) (fun p t H2 hp ht s2 N N0 hy h0 => ?_) fun H2 s2 hD2 => ?_
      · refine ⟨t, _, rfl, SqT.of ht, rfl, _, _, rfl, _, _, rfl, rfl, rfl, _, rfl, _, rfl, rfl, _, rfl, ?_⟩
        refine ite2 (fun e => ⟨_, rfl, hy _ _ (if_pos (V.str.inj (of_decide_eq_true e))) (Same.refl _)⟩) (fun e => h0 _ (if_neg fun z => e (decide_eq_true (congrArg V.str z))) (Same.refl _))
      · rw [fm_one] at hD2
        have hlen : ((PP.filter fun p => decide (p.1 = wd)).map fun p => kS p.2).length ≤ 60 := by
          rw [List.length_map]
          exact Nat.le_trans (List.length_filter_le _ _) wf.fewP
        refine ⟨D, _, rfl, SqL.of hD2, Nat.lt_of_le_of_lt hlen (by decide), fun g c hg hc => ⟨g, _, c, rfl, upd_same, by omega, fun k hk => ?_, fun ys a hys hmem ha => ?_⟩⟩
        · obtain ⟨p, _, e⟩ := List.mem_map.mp (inK_iff.1 hk)
          exact ⟨p.2, e.symm⟩
        · have hwS : wd ∈ srtS W := List.mem_of_getElem? hwd
          have hne : wd ∉ (srtS W).take i := fun hq => by
            obtain ⟨j, hj⟩ := List.mem_iff_getElem?.mp hq
            rw [List.getElem?_take] at hj
            split at hj
            · rename_i hlt
              have := nd_ix ((srtS_asc wf.nd).nodup slt_lin) hj hwd
              omega
            · cases hj
          have hys : ys = WM.bh (srtS W) PP wd := by
            refine WM.asc_ext slt_lin hys ((srtS_asc wf.nd).filter _) fun z => ?_
            rw [hmem, inK_iff, WM.mem_bh, mem_srtS]
            constructor
            · intro hz
              obtain ⟨p, hp, e⟩ := List.mem_map.mp hz
              obtain ⟨hp1, hp2⟩ := List.mem_filter.mp hp
              have e2 : p.2 = z := Sum.inr.inj e
              have e3 : p = (wd, z) := by rw [← e2, ← of_decide_eq_true hp2]
              rw [e3] at hp1
              exact ⟨(wf.mem _ hp1).2.1, hp1⟩
            · rintro ⟨_, hz⟩
              exact List.mem_map.mpr ⟨(wd, z), List.mem_filter.mpr ⟨hz, decide_eq_true rfl⟩, rfl⟩
          subst hys
          have s3 := ((Same.refl H2).add hg _).add ha (.lst ((WM.bh (srtS W) PP wd).map .str))
          have s4 := s2.trans s3
          have had : a ≠ d := fun e => by
            have := ((Same.refl H2).add hg _).free ha
            rw [e, s2 _ _ hd1] at this
            cases this
          have hld : l ≠ d := fun e => by
            rw [e, hd1] at hl1
            cases hl1
          refine ⟨_, rfl, _, rfl, d, _, rfl, .inl ⟨_, kS wd, s4 _ _ hd1, rfl, ?_, rfl⟩, ⟨_, rfl⟩, ?_, ?_, fun z => if z = wd then a else al z, ?_, ?_⟩
          · rw [dct_len]
            exact small1000 (Nat.le_trans (List.length_take_le' _ _) (by rw [srtS_len]; omega))
          · exact fun b o e => by
              rw [upd_ne (ne_of_none e hd)]
              exact (s1.trans s4) _ _ e
          · rw [upd_ne hld]
            exact s4 _ _ hl1
          · have ec : dct ((srtS W).take i) (fun w => V.ref (al w)) = dct ((srtS W).take i) (fun z => V.ref (if z = wd then a else al z)) := dct_congr fun z hz => by
              have n : ¬ z = wd := fun q => hne (q ▸ hz)
              rw [if_neg n]
            rw [upd_same, ec, dct_new hne _ (by show V.ref (if wd = wd then a else al wd) = _; rw [if_pos rfl]), take_more hwd]
          · intro z hz
            rw [take_more hwd] at hz
            show upd _ d _ (if z = wd then a else al z) = _
            by_cases e : z = wd
            · rw [if_pos e, upd_ne had, e]
              exact upd_same
            · rw [if_neg e]
              have hz2 : z ∈ (srtS W).take i := (List.mem_append.mp hz).resolve_right fun q => e (List.mem_singleton.mp q)
              have hz3 := hal z hz2
              rw [upd_ne (fun q => by rw [q, hd1] at hz3; cases hz3)]
              exact s4 _ _ hz3
    · rintro σ H' ⟨⟨v2, rfl⟩, s1, hl1, al, hd1, hal⟩
      have e : (srtS W).take ((srtS W).map V.str).length = srtS W := by rw [List.length_map, List.take_length]
      rw [e] at hd1 hal
      exact ⟨_, rfl, q _ d al s1 hd hd1 fun w hw => hal w (mem_srtS.mpr hw)⟩
end
end Lk

set_option Elab.async false
set_option linter.all false
set_option maxRecDepth 100000
set_option maxHeartbeats 4000000
namespace Lk
open PySem PySem.Spec PyProof.Rows L2
abbrev sRing : Stmt := top 18
theorem rd_same {H H' : Hp} {a : Addr} {o : HO} (h : Rd H a o) (s : Same H H') : Rd H' a o := h.elim (fun e => .inl (s _ _ e)) fun ⟨ob, e⟩ => .inr ⟨ob, s _ _ e⟩
/-- a list of words, new since H -/
structure MtAt (H H2 : Hp) (mt : Addr) (W met : List Str) : Prop where
  sm : Same H H2
  new : H mt = none
  at_ : H2 mt = some (.lst (met.map .str))
  nd : met.Nodup
  sub : ∀ z ∈ met, z ∈ W
/-- a list of rows at a, none of them the list at mt -/
structure RwAt (H2 : Hp) (mt a : Addr) (ls : List Addr) (W : List Str) (k : Nat) (rows : List (List Str)) : Prop where
  at_ : H2 a = some (.lst (ls.map .ref))
  rws : Rws H2 ls rows
  nm : mt ∉ ls
  na : a ∉ ls
  ne : a ≠ mt
  few : rows.length ≤ k
  ok : ∀ r ∈ rows, r ≠ [] ∧ r.length ≤ k ∧ ∀ z ∈ r, z ∈ W
theorem nodup_len : ∀ {met W : List Str}, met.Nodup → (∀ z ∈ met, z ∈ W) → met.length ≤ W.length
  | [], _, _, _ => Nat.zero_le _
  | x :: met, W, n, s => by
    obtain ⟨h1, h2⟩ := List.nodup_cons.mp n
    have hx := s x List.mem_cons_self
    have ih := nodup_len (W := W.erase x) h2 fun z hz => (List.mem_erase_of_ne (fun e => h1 (by rw [← e]; exact hz))).mpr (s z (List.mem_cons_of_mem _ hz))
    rw [List.length_erase_of_mem hx] at ih
    have := List.length_pos_of_mem hx
    simp only [List.length_cons]
    omega
theorem rws_sm {H H' : Hp} {x : Addr} {ls : List Addr} {rows : List (List Str)} (h : Rws H ls rows) (s : Sm x H H') (hx : x ∉ ls) : Rws H' ls rows := by
  induction h with
  | nil => exact .nil
  | cons r t ih => exact .cons (s _ _ (fun e => hx (e ▸ List.mem_cons_self)) r) (ih fun z => hx (List.mem_cons_of_mem _ z))
theorem rws_at {H : Hp} {ls : List Addr} {rows : List (List Str)} (h : Rws H ls rows) {a : Addr} (ha : a ∈ ls) : ∃ r : List Str, H a = some (.lst (r.map .str)) := by
  induction h with
  | nil => cases ha
  | cons r t ih =>
    rcases List.mem_cons.mp ha with e | e
    · rw [e]; exact ⟨_, r⟩
    · exact ih e
theorem rws_snoc {H : Hp} {ls : List Addr} {rows : List (List Str)} (h : Rws H ls rows) {a : Addr} {r : List Str} (ha : H a = some (.lst (r.map .str))) : Rws H (ls ++ [a]) (rows ++ [r]) := Paired.snoc h ha
theorem atI_last {w : Str} : ∀ {row : List Str}, row ≠ [] → atI (row.map V.str) (-1) = some (.str (WM.lastD w row)) := by
  intro row h
  have hp : 0 < row.length := List.length_pos_iff.mpr h
  have e : ixN (row.map V.str).length (-1) = some (row.length - 1) := by
    unfold ixN
    rw [List.length_map, if_neg (by decide), if_pos (by omega)]
    exact congrArg some (by omega)
  unfold atI WM.lastD
  rw [e]
  show (row.map V.str)[row.length - 1]? = _
  rw [List.getElem?_map, List.getLast?_eq_getElem?, List.getElem?_eq_getElem (by omega)]
  rfl
theorem lastD_mem {w : Str} {W row : List Str} (h : row ≠ []) (hs : ∀ z ∈ row, z ∈ W) : WM.lastD w row ∈ W := by
  unfold WM.lastD
  cases e : row.getLast? with
  | none => exact absurd (List.getLast?_eq_none_iff.mp e) h
  | some z => exact hs z (List.mem_of_getLast? e)
theorem shp_rows {W : List Str} (hw : Wds W) {rows : List (List Str)} (h : ∀ r ∈ rows, ∀ z ∈ r, z ∈ W) : SeqAt.shaped (.list (rows.map dL)) = true := by
  refine shp_list (d := 1) (fun r hr => ?_) (fun r => ?_) (by decide)
  · show PyData.canLay0 (.list (r.map PyData.str)) = true
    simp only [PyData.canLay0]
    exact lay_all fun z hz => by
      simp only [PyData.canLay0]
      exact okw_str (hw z (h r hr z hz))
  · simp [dL, PyData.depth, depth_str]
/-- in a turn: the level at lv, the words met at mt, the later rows at lt -/
structure RS (H H3 : Hp) (lv mt lt : Addr) (ls : List Addr) (W met0 : List Str) (rows : List (List Str)) (met : List Str) (later : List (List Str)) : Prop where
  m : MtAt H H3 mt W met
  ge : met0.length ≤ met.length
  l : RwAt H3 mt lv ls W met0.length rows
  t : ∃ lls, RwAt H3 mt lt lls W met.length later
  n1 : lt ∉ ls
  n2 : lt ≠ lv
  new : H lt = none
theorem RwAt.mono {H2 H3 : Hp} {mt a : Addr} {ls : List Addr} {W : List Str} {k j : Nat} {rows : List (List Str)} (h : RwAt H2 mt a ls W k rows) (hk : k ≤ j) (s : ∀ b o, b ≠ mt → (b = a ∨ b ∈ ls) → H2 b = some o → H3 b = some o) : RwAt H3 mt a ls W j rows where
  at_ := s _ _ h.ne (.inl rfl) h.at_
  rws := by
    have nm := h.nm
    have r := h.rws
    have s' : ∀ b o, b ∈ ls → H2 b = some o → H3 b = some o := fun b o hb e => s b o (fun q => nm (q ▸ hb)) (.inr hb) e
    clear h s nm
    induction r with
    | nil => exact .nil
    | cons r t ih => exact .cons (s' _ _ List.mem_cons_self r) (ih fun b o hb e => s' b o (List.mem_cons_of_mem _ hb) e)
  nm := h.nm
  na := h.na
  ne := h.ne
  few := Nat.le_trans h.few hk
  ok := fun r hr => ⟨(h.ok r hr).1, Nat.le_trans (h.ok r hr).2.1 hk, (h.ok r hr).2.2⟩
theorem MtAt.same {H H2 H3 : Hp} {mt : Addr} {W met : List Str} (h : MtAt H H2 mt W met) (s : Same H2 H3) : MtAt H H3 mt W met := ⟨h.sm.trans s, h.new, s _ _ h.at_, h.nd, h.sub⟩
theorem RwAt.same {H2 H3 : Hp} {mt a : Addr} {ls : List Addr} {W : List Str} {k : Nat} {rows : List (List Str)} (h : RwAt H2 mt a ls W k rows) (s : Same H2 H3) : RwAt H3 mt a ls W k rows := h.mono (Nat.le_refl _) fun b o _ _ e => s b o e
theorem RwAt.row {H2 : Hp} {mt a : Addr} {ls : List Addr} {W : List Str} {k i : Nat} {rows : List (List Str)} {b : Addr} (h : RwAt H2 mt a ls W k rows) (hb : ls[i]? = some b) : ∃ r : List Str, rows[i]? = some r ∧ H2 b = some (.lst (r.map .str)) ∧ r ≠ [] ∧ r.length ≤ k ∧ ∀ z ∈ r, z ∈ W := by
  obtain ⟨r, h1, h2⟩ := Paired.at' h.rws hb
  obtain ⟨h3, h4, h5⟩ := h.ok r (List.mem_of_getElem? h1)
  exact ⟨r, h1, h2, h3, h4, h5⟩
theorem RS.app {H H3 : Hp} {lv mt lt e p : Addr} {ls lls : List Addr} {W met0 met row : List Str} {rows later : List (List Str)} {o : Str} (h : RS H H3 lv mt lt ls W met0 rows met later) (ht : RwAt H3 mt lt lls W met.length later)
    (ho : o ∉ met) (hoW : o ∈ W) (hr : row.length ≤ met.length) (hrW : ∀ z ∈ row, z ∈ W)
    (he : upd H3 mt (.lst ((met ++ [o]).map .str)) e = none) (hp : upd (upd H3 mt (.lst ((met ++ [o]).map .str))) e (.lst [.str o]) p = none) :
    RS H (upd (upd (upd (upd H3 mt (.lst ((met ++ [o]).map .str))) e (.lst [.str o])) p (.lst ((row ++ [o]).map .str))) lt (.lst ((lls ++ [p]).map .ref))) lv mt lt ls W met0 rows (met ++ [o]) (later ++ [row ++ [o]]) := by
  have em : mt ≠ e := ne_of_none upd_same he
  have he3 : H3 e = none := by rw [upd_ne em.symm] at he; exact he
  have pe : p ≠ e := (ne_of_none (o := .lst [.str o]) upd_same hp).symm
  have pm : mt ≠ p := ne_of_none (by rw [upd_ne em, upd_same]) hp
  have hp3 : H3 p = none := by rw [upd_ne pe, upd_ne pm.symm] at hp; exact hp
  have hlt3 := ht.at_
  have plt : p ≠ lt := (ne_of_none hlt3 hp3).symm
  have nlm := ht.ne
  -- all but mt, lt
  have k : ∀ b u, b ≠ mt → b ≠ lt → H3 b = some u → upd (upd (upd (upd H3 mt (.lst ((met ++ [o]).map .str))) e (.lst [.str o])) p (.lst ((row ++ [o]).map .str))) lt (.lst ((lls ++ [p]).map .ref)) b = some u := fun b u n1 n2 q => by
    rw [upd_ne n2, upd_ne (ne_of_none q hp3), upd_ne (ne_of_none q he3), upd_ne n1]
    exact q
  generalize hH : upd (upd (upd (upd H3 mt (.lst ((met ++ [o]).map .str))) e (.lst [.str o])) p (.lst ((row ++ [o]).map .str))) lt (.lst ((lls ++ [p]).map .ref)) = H4 at k ⊢
  have h4l : H4 lt = some (.lst ((lls ++ [p]).map .ref)) := by rw [← hH, upd_same]
  have h4p : H4 p = some (.lst ((row ++ [o]).map .str)) := by rw [← hH, upd_ne plt, upd_same]
  have h4m : H4 mt = some (.lst ((met ++ [o]).map .str)) := by rw [← hH, upd_ne nlm.symm, upd_ne pm, upd_ne em, upd_same]
  refine ⟨⟨fun b u q => k b u (ne_of_none q h.m.new) (ne_of_none q h.new) (h.m.sm _ _ q), h.m.new, h4m, ?_, ?_⟩, ?_, h.l.mono (Nat.le_refl _) fun b u n1 n2 q => k b u n1 ?_ q, ⟨lls ++ [p], h4l, ?_, ?_, ?_, nlm, ?_, ?_⟩, h.n1, h.n2, h.new⟩
  · refine List.nodup_append.mpr ⟨h.m.nd, by simp, fun x hx y hy e => ho ?_⟩
    rw [← List.mem_singleton.mp hy, ← e]
    exact hx
  · intro z hz
    rcases List.mem_append.mp hz with q | q
    · exact h.m.sub z q
    · rw [List.mem_singleton.mp q]; exact hoW
  · rw [List.length_append]
    exact Nat.le_trans h.ge (Nat.le_add_right _ _)
  · rcases n2 with n2 | n2
    · rw [n2]; exact h.n2.symm
    · exact fun z => h.n1 (z ▸ n2)
  · have hx := ht.mono (H3 := H4) (Nat.le_refl _)
    refine rws_snoc ?_ h4p
    have r := ht.rws
    have s' : ∀ b u, b ∈ lls → H3 b = some u → H4 b = some u := fun b u hb q => k b u (fun z => ht.nm (z ▸ hb)) (fun z => ht.na (z ▸ hb)) q
    clear hx hH h4l h ht hlt3
    induction r with
    | nil => exact .nil
    | cons r t ih => exact .cons (s' _ _ List.mem_cons_self r) (ih fun b u hb q => s' b u (List.mem_cons_of_mem _ hb) q)
  · exact fun z => (List.mem_append.mp z).elim ht.nm fun q => pm (List.mem_singleton.mp q)
  · exact fun z => (List.mem_append.mp z).elim ht.na fun q => plt (List.mem_singleton.mp q).symm
  · simp only [List.length_append, List.length_singleton]
    exact Nat.succ_le_succ ht.few
  · intro r hr'
    rw [List.length_append]
    rcases List.mem_append.mp hr' with q | q
    · obtain ⟨h1, h2, h3⟩ := ht.ok r q
      exact ⟨h1, Nat.le_trans h2 (Nat.le_add_right _ _), h3⟩
    · rw [List.mem_singleton.mp q]
      refine ⟨by simp, by rw [List.length_append]; exact Nat.add_le_add_right hr 1, fun z hz => ?_⟩
      rcases List.mem_append.mp hz with q | q
      · exact hrW z q
      · rw [List.mem_singleton.mp q]; exact hoW
def spRing : Sp := fun vs H Q _ => ∃ (d : Addr) (word : Str) (W : List Str) (PP : List (Str × Str)) (al : Str → Addr) (n : Nat) (res : Option (List Str)), vs = [.ref d, .str word] ∧ Rd H d (bD W al) ∧ Bl H W PP al ∧ Wds W ∧ W.length ≤ 50 ∧ word ∈ W ∧
  WM.rgLoop (WM.bh (srtS W) PP) word n [[word]] [word] = some res ∧ ∀ H', Same H H' → (res = none → Q .non H') ∧ ∀ ring a, res = some ring → H' a = some (.lst (ring.map .str)) → Q (.ref a) H'
section
variable {P : Program} {w : World} {K : PySem.W.Frag} {mg : Str → Option Value} {base : Heap}
theorem scRing : FnScope ["behind", "word", "level", "met", "later", "row", "other"] ["behind", "word"] (defScope sRing) := ⟨rfl, rfl, rfl, by decide +kernel, rfl, by decide +kernel, by decide +kernel⟩
theorem cal_ring (B : Blt mg) (D : Def K mg "ring_through" sRing) : Cal P w K mg base CX0 1 "ring_through" spRing := by
  refine D.cal scRing (fun vs H Q E h => ?_) (fun _ _ _ _ _ _ us hl => match us, hl with | [_, _], _ => rfl) (fun f cdv A outer s H vs Q E hr h => ?_)
  · obtain ⟨_, _, _, _, _, _, _, rfl, _⟩ := h
    rfl
  · obtain ⟨d, word, W, PP, al, n, res, rfl, hd, hb, hw, hW, hword, hres, q⟩ := h
    refine ⟨_, pss_cons (ps_par (i := 2) (j := 3) (by rfl) scRing.nd rfl rfl (by decide) rfl rfl (pa_cons (pe_lst (pa_cons (pe_lst (pa_cons (pv 1) pa_nil)) pa_nil)) (pa_cons (pe_lst (pa_cons (pv 1) pa_nil)) pa_nil)) (by rfl))
      (pss_cons (ps_while PassesOwn.never (pt_cmpR (op_neD hr.units) (pv 2) (pe_lst pa_nil) (nomark _))
        (pss_cons (ps_set (i := 4) scRing.nd rfl (Or.inl rfl) (pe_lst pa_nil))
        (pss_cons (ps_for PassesOwn.never rfl (pi_list (pv 2)) (pg_name (i := 5) scRing.nd rfl (Or.inl rfl))
          (pss_cons (ps_if (pt_cmpR op_in_seq (pv 1) (pe_dget (Rm.u1 hr) (pv 0) (pe_ix ix_list (pv 5) (pe_un un_neg pe_int) (fun _ _ => rfl)) (fun _ _ => rfl)) rfl) (pss_one (ps_ret (pv 5))) pss_nil)
          (pss_one (ps_for PassesOwn.never rfl (pi_list (pe_dget (Rm.u1 hr) (pv 0) (pe_ix ix_list (pv 5) (pe_un un_neg pe_int) (fun _ _ => rfl)) (fun _ _ => rfl))) (pg_name (i := 6) scRing.nd rfl (Or.inl rfl))
            (pss_one (ps_if (pt_cmpR op_notIn_seq (pv 6) (pv 3) rfl)
              (pss_cons (ps_expr (pe_bm PySem.F.plainAttrs_list PySem.F.slot_list_append PySem.F.type_list_append mt_append (pv 3) (pa_cons (pv 6) pa_nil)))
              (pss_one (ps_expr (pe_bm PySem.F.plainAttrs_list PySem.F.slot_list_append PySem.F.type_list_append mt_append (pv 4) (pa_cons (pe_op op_cat (pv 5) (pe_lst (pa_cons (pv 6) pa_nil))) pa_nil))))) pss_nil))))))
        (pss_one (ps_set (i := 2) scRing.nd rfl (Or.inl rfl) (pe_callTy call_list_of (by rfl) B.list (by decide +kernel) (pa_cons (pv 4) pa_nil)))))))
      (pss_one (ps_ret pe_non))), ?_⟩
    have hc1 : (1 : Nat) ≤ sizeLine := by decide
    refine ⟨_, rfl, hc1, fun r hr0 => ⟨hc1, fun lv hlv => ⟨_, rfl, hc1, fun mt hmt => ⟨_, _, rfl, ?_⟩⟩⟩⟩
    have sr := (Same.refl H).add hr0 (.lst [V.str word])
    have slv := sr.add hlv (.lst [V.ref r])
    have smt := slv.add hmt (.lst [V.str word])
    have nrl : lv ≠ r := (ne_of_none upd_same hlv).symm
    have nlm : lv ≠ mt := ne_of_none upd_same hmt
    have nrm : r ≠ mt := ne_of_none (by rw [upd_ne nrl.symm, upd_same]) hmt
    refine ⟨fun m σ H' => ∃ v4 v5 v6 lv ls mt rows met, σ = [some (.ref d), some (.str word), some (.ref lv), some (.ref mt), v4, v5, v6] ∧ MtAt H H' mt W met ∧ RwAt H' mt lv ls W met.length rows ∧ WM.rgLoop (WM.bh (srtS W) PP) word m rows met = some res,
      ⟨n, _, _, _, lv, [r], mt, [[word]], [word], rfl, ⟨smt, slv.free hmt, upd_same, by simp, by simpa using hword⟩, ⟨by rw [upd_ne nlm, upd_same]; rfl, .cons (by rw [upd_ne nrm, upd_ne nrl.symm, upd_same]; rfl) .nil, by simpa using nrm.symm, by simpa using nrl, nlm, Nat.le_refl _, ?_⟩, hres⟩, ?_⟩
    · intro r' hr'
      rw [List.mem_singleton.mp hr']
      exact ⟨by simp, Nat.le_refl _, by simpa using hword⟩
    · rintro m σ H1 ⟨v4, v5, v6, lv, ls, mt, rows, met, rfl, hm, hl, hg⟩
      refine ⟨_, rfl, Nat.zero_le _, fun e he => ?_⟩
      have s2 := (Same.refl H1).add he (.lst [])
      have hm2 := hm.same s2
      have hl2 := hl.same s2
      refine ⟨_, _, .lst (SqL.of hl2.at_) (dp_rows hl2.rws), .lst (SqL.of upd_same) .nil, shp_rows hw fun r hr => (hl.ok r hr).2.2, shp_nil, ?_⟩
      rw [eqv_nil]
      cases rows with
      | nil =>
        have hr1 : res = none := by
          cases m <;> simp [WM.rgLoop] at hg <;> exact hg.symm
        exact ⟨_, rfl, iteF ((q _ hm2.sm).1 hr1)⟩
      | cons row0 rows0 =>
        cases m with
        | zero => simp [WM.rgLoop] at hg
        | succ m =>
          refine ⟨_, rfl, iteT ⟨fun σ' H' => ∃ v4 v5 v6 lv ls mt rows met, σ' = [some (.ref d), some (.str word), some (.ref lv), some (.ref mt), v4, v5, v6] ∧ MtAt H H' mt W met ∧ RwAt H' mt lv ls W met.length rows ∧ WM.rgLoop (WM.bh (srtS W) PP) word m rows met = some res,
            fun σ' H' h => ⟨m, Nat.lt_succ_self _, h⟩, Nat.zero_le _, fun lt hlt => ⟨_, rfl, lv, rfl, ⟨_, SqL.of (((Same.refl _).add hlt _) _ _ hl2.at_)⟩, ?_⟩⟩⟩
          have s3 := s2.add hlt (.lst [])
          have hm3 := hm.same s3
          have hl3 := hl.same s3
          have nll : lt ≠ lv := ne_of_none (o := .lst (ls.map .ref)) hl2.at_ hlt |>.symm
          have nlm : lt ≠ mt := ne_of_none hm2.at_ hlt |>.symm
          have nls : lt ∉ ls := fun z => by
            obtain ⟨r, hr⟩ := rws_at hl2.rws z
            rw [hr] at hlt
            cases hlt
          have hlt0 : H lt = none := hm2.sm.free hlt
          have hWl : met.length ≤ 50 := Nat.le_trans (nodup_len hm.nd hm.sub) hW
          refine for_list (K := K) (a := lv) (xs := ls.map V.ref) (fun i σ H3 => ∃ v5 v6 met' later, σ = [some (.ref d), some (.str word), some (.ref lv), some (.ref mt), some (.ref lt), v5, v6] ∧ RS H H3 lv mt lt ls W met (row0 :: rows0) met' later ∧
              WM.rgRow (WM.bh (srtS W) PP) word ((row0 :: rows0).drop i) (met', later) = WM.rgRow (WM.bh (srtS W) PP) word (row0 :: rows0) (met, []))
            ⟨_, _, met, [], rfl, ⟨hm3, Nat.le_refl _, hl3, ⟨[], upd_same, .nil, by simp, by simp, nlm, Nat.zero_le _, by simp⟩, nls, nll, hlt0⟩, rfl⟩ (fun i σ H3 _ ⟨_, _, _, _, _, h, _⟩ => SqL.of h.l.at_) ?_ ?_
          · rintro i x σ H3 hi ⟨v5, v6, met', later, rfl, hs, hR⟩
            obtain ⟨ra, hra, rfl⟩ := map_at hi
            obtain ⟨row, hrow, hrH, hrn, hrk, hrW⟩ := hs.l.row hra
            have hlast := lastD_mem (w := word) hrn hrW
            have hlS : WM.lastD word row ∈ srtS W := mem_srtS.mpr hlast
            have hdr : (row0 :: rows0).drop i = row :: (row0 :: rows0).drop (i + 1) := by
              obtain ⟨h1, h2⟩ := List.getElem?_eq_some_iff.mp hrow
              rw [List.drop_eq_getElem_cons h1, h2]
            rw [hdr] at hR
            have hd3 := rd_same hd hs.m.sm
            have hb3 := hb.same hs.m.sm
            refine ⟨_, rfl, _, rfl, _, rfl, _, rfl, ra, _, _, _, rfl, rfl, SqL.of hrH, atI_last hrn, d, _, rfl, .inl ⟨_, kS (WM.lastD word row), hd3, rfl, (dct_in hlS).symm⟩, al (WM.lastD word row), _, rfl, .inl (SqL.of (hb3 _ hlast)), rfl, flat_strs _, ?_⟩
            rw [if_neg Bool.false_ne_true, inV_strs]
            refine ⟨_, rfl, ite2 (fun e => ?_) (fun e => ?_)⟩
            · have e1 : WM.rgRow (WM.bh (srtS W) PP) word (row0 :: rows0) (met, []) = .inl row := by
                rw [← hR]
                simp only [WM.rgRow]
                rw [if_pos (of_decide_eq_true e)]
              have e2 : res = some row := by
                simp only [WM.rgLoop, e1] at hg
                simpa using hg.symm
              exact ⟨_, rfl, (q _ hs.m.sm).2 row ra e2 hrH⟩
            · have hR2 : WM.rgRow (WM.bh (srtS W) PP) word ((row0 :: rows0).drop (i + 1)) ((WM.bh (srtS W) PP (WM.lastD word row)).foldl (WM.rgIn row) (met', later)) = WM.rgRow (WM.bh (srtS W) PP) word (row0 :: rows0) (met, []) := by
                rw [← hR]
                conv => rhs; unfold WM.rgRow
                rw [if_neg (fun z => e (decide_eq_true z))]
              refine ⟨_, rfl, _, rfl, _, rfl, ra, _, _, _, rfl, rfl, SqL.of hrH, atI_last hrn, d, _, rfl, .inl ⟨_, kS (WM.lastD word row), hd3, rfl, (dct_in hlS).symm⟩, al (WM.lastD word row), rfl, ⟨_, SqL.of (hb3 _ hlast)⟩, ?_⟩
              refine for_list (K := K) (a := al (WM.lastD word row)) (xs := (WM.bh (srtS W) PP (WM.lastD word row)).map V.str) (fun j σ H4 => ∃ v6 met2 later2, σ = [some (.ref d), some (.str word), some (.ref lv), some (.ref mt), some (.ref lt), some (.ref ra), v6] ∧ RS H H4 lv mt lt ls W met (row0 :: rows0) met2 later2 ∧
                  ((WM.bh (srtS W) PP (WM.lastD word row)).take j).foldl (WM.rgIn row) (met', later) = (met2, later2))
                ⟨_, met', later, rfl, hs, rfl⟩ (fun j σ H4 _ ⟨_, _, _, _, h, _⟩ => SqL.of (hb.same h.m.sm _ hlast)) ?_ ?_
              · rintro j x σ H4 hj ⟨v6, met2, later2, rfl, h4, hf⟩
                obtain ⟨o, ho, rfl⟩ := map_at hj
                have hoW : o ∈ W := mem_srtS.mp (WM.mem_bh.mp (List.mem_of_getElem? ho)).1
                have hf2 : ((WM.bh (srtS W) PP (WM.lastD word row)).take (j + 1)).foldl (WM.rgIn row) (met', later) = WM.rgIn row (met2, later2) o := by
                  rw [take_more ho, List.foldl_append, hf]
                  rfl
                refine ⟨_, rfl, _, rfl, mt, _, rfl, .inl (SqL.of h4.m.at_), rfl, flat_strs _, ?_⟩
                rw [if_pos rfl, inV_strs]
                refine ⟨_, rfl, ?_⟩
                by_cases hmem : o ∈ met2
                · rw [decide_eq_true hmem]
                  refine iteF ⟨_, met2, later2, rfl, h4, ?_⟩
                  rw [hf2]
                  unfold WM.rgIn
                  rw [if_pos hmem]
                · rw [decide_eq_false hmem]
                  obtain ⟨lls, ht⟩ := h4.t
                  obtain ⟨row', hrow', hrH', _⟩ := h4.l.row hra
                  have er : row' = row := Option.some.inj (hrow'.symm.trans hrow)
                  subst er
                  have hlm : met2.length ≤ 50 := Nat.le_trans (nodup_len h4.m.nd h4.m.sub) hW
                  have hra_m : ra ≠ mt := fun z => h4.l.nm (z ▸ List.mem_of_getElem? hra)
                  refine iteT ⟨_, rfl, .inl ⟨rfl, _, SqL.of h4.m.at_⟩, _, rfl, mt, _, _, rfl, rfl, h4.m.at_, small1000 (by rw [List.length_map]; omega), ?_⟩
                  have e1 : (met2.map V.str) ++ [V.str o] = (met2 ++ [o]).map V.str := by rw [List.map_append]; rfl
                  rw [e1]
                  refine ⟨_, rfl, .inl ⟨rfl, _, SqL.of (by rw [upd_ne ht.ne]; exact ht.at_)⟩, _, rfl, _, rfl, hc1, fun ea hea => ?_⟩
                  have nea : ra ≠ ea := ne_of_none (by rw [upd_ne hra_m]; exact hrH') hea
                  refine ⟨ra, ea, _, _, rfl, rfl, by rw [upd_ne nea, upd_ne hra_m]; exact hrH', upd_same, ?_, fun p hp => ?_⟩
                  · have : sizeLine ≥ 1000 := by decide
                    rw [List.length_map]
                    simp only [List.length_singleton]
                    have := h4.ge
                    omega
                  · have e2 : (row'.map V.str) ++ [V.str o] = (row' ++ [o]).map V.str := by rw [List.map_append]; rfl
                    have e3 : (lls.map V.ref) ++ [V.ref p] = (lls ++ [p]).map V.ref := by rw [List.map_append]; rfl
                    have h5 := h4.app ht hmem hoW (Nat.le_trans hrk h4.ge) hrW hea hp
                    have nem : mt ≠ ea := ne_of_none upd_same hea
                    have hltx : upd (upd (upd H4 mt (.lst ((met2 ++ [o]).map .str))) ea (.lst [.str o])) p (.lst (row'.map V.str ++ [V.str o])) lt = some (.lst (lls.map .ref)) := by
                      have q1 : upd H4 mt (.lst ((met2 ++ [o]).map .str)) lt = some (.lst (lls.map .ref)) := by rw [upd_ne ht.ne]; exact ht.at_
                      have q2 : upd (upd H4 mt (.lst ((met2 ++ [o]).map .str))) ea (.lst [.str o]) lt = some (.lst (lls.map .ref)) := by rw [upd_ne (ne_of_none q1 hea)]; exact q1
                      rw [upd_ne (ne_of_none q2 hp)]
                      exact q2
                    refine ⟨lt, _, _, rfl, rfl, hltx, small1000 (by rw [List.length_map, ht.rws.length]; exact Nat.le_trans ht.few (by omega)), ?_⟩
                    rw [e2, e3]
                    refine ⟨_, met2 ++ [o], later2 ++ [row' ++ [o]], rfl, h5, ?_⟩
                    rw [hf2]
                    unfold WM.rgIn
                    rw [if_neg hmem]
              · rintro σ H4 ⟨v6, met2, later2, rfl, h4, hf⟩
                rw [List.length_map, List.take_length] at hf
                rw [hf] at hR2
                exact ⟨_, _, met2, later2, rfl, h4, hR2⟩
          · rintro σ H3 ⟨v5, v6, met2, later2, rfl, hs, hR⟩
            obtain ⟨lls, ht⟩ := hs.t
            rw [List.length_map, hl.rws.length, List.drop_length] at hR
            have e1 : WM.rgRow (WM.bh (srtS W) PP) word (row0 :: rows0) (met, []) = .inr (met2, later2) := hR.symm
            refine ⟨_, rfl, lt, _, rfl, .inl (SqL.of ht.at_), fun l hl => ?_⟩
            have s4 := (Same.refl H3).add hl (.lst (lls.map .ref))
            refine ⟨_, _, _, l, lls, mt, later2, met2, rfl, hs.m.same s4, ?_, ?_⟩
            · have h5 := ht.same s4
              have nl : l ∉ lls := fun z => by
                obtain ⟨r, hr⟩ := rws_at ht.rws z
                rw [hr] at hl
                cases hl
              exact ⟨upd_same, h5.rws, h5.nm, nl, (ne_of_none hs.m.at_ hl).symm, h5.few, h5.ok⟩
            · simp only [WM.rgLoop, e1] at hg
              rwa [if_neg (by simp)] at hg
end
end Lk

set_option Elab.async false
set_option linter.all false
set_option maxRecDepth 100000
set_option maxHeartbeats 4000000
namespace Lk
open PySem PySem.Spec PyProof.Rows L2
abbrev sWRing : Stmt := top 19
def BestAt (H : Hp) (bv : V) (best : Option (List Str)) : Prop := (best = none ∧ bv = .non) ∨ ∃ (ring : List Str) (a : Addr), best = some ring ∧ bv = .ref a ∧ H a = some (.lst (ring.map .str)) ∧ ring.length ≤ 100
def RingsAt (W : List Str) (PP : List (Str × Str)) (rs : Str → Option (List Str)) : Prop := (∀ wd ∈ W, ∃ n, WM.rgLoop (WM.bh (srtS W) PP) wd n [[wd]] [wd] = some (rs wd)) ∧ ∀ wd r, rs wd = some r → r.length ≤ 100
def spWRing (C : Addr) : Sp := fun vs H Q _ => ∃ (x : Addr) (W : List Str) (PP : List (Str × Str)) (rs : Str → Option (List Str)), vs = [.ref x] ∧ WishAt C H x W PP ∧ Wf W PP ∧ RingsAt W PP rs ∧
  ∀ H' bv, Same H H' → BestAt H' bv (WM.wishRing rs (srtS W)) → Q bv H'
section
variable {P : Program} {w : World} {K : PySem.W.Frag} {mg : Str → Option Value} {base : Heap}
theorem scWRing : FnScope ["wishes", "behind", "best", "word", "ring"] ["wishes"] (defScope sWRing) := ⟨rfl, rfl, rfl, by decide +kernel, rfl, by decide +kernel, by decide +kernel⟩
theorem cal_wring {C : Addr} (B : Blt mg) (D : Def K mg "wish_ring" sWRing) (C1 : Cal P w K mg base CX0 1 "behind_all" (spBehind C)) (C2 : Cal P w K mg base CX0 1 "ring_through" spRing) : Cal P w K mg base CX0 2 "wish_ring" (spWRing C) := by
  refine D.cal scWRing (fun vs H Q E h => ?_) (fun _ _ _ _ _ _ us hl => match us, hl with | [_], _ => rfl) (fun f cdv A outer s H vs Q E hr h => ?_)
  · obtain ⟨_, _, _, _, rfl, _⟩ := h
    rfl
  · obtain ⟨x, W, PP, rs, rfl, hx, wf, hrs, q⟩ := h
    refine ⟨_, pss_cons (ps_par (i := 1) (j := 2) (by rfl) scWRing.nd rfl rfl (by decide) rfl rfl (pa_cons (pe_cc C1 hr (by decide) pass0 (pa_cons (pv 0) pa_nil)) (pa_cons pe_non pa_nil)) (by rfl))
      (pss_cons (ps_lock (ps_for PassesOwn.never rfl (pi_keys (pv 1)) (pg_name (i := 3) scWRing.nd rfl (Or.inl rfl))
        (pss_cons (ps_set (i := 4) scWRing.nd rfl (Or.inl rfl) (pe_cc C2 hr (by decide) pass0 (pa_cons (pv 1) (pa_cons (pv 3) pa_nil))))
        (pss_one (ps_if (PW.pt (pw_and (pt_cmpR op_notN (pv 4) pe_non (nomark _)) (pw_and1 (PW.pt (pw_or (pt_cmpR op_isN (pv 2) pe_non (nomark _)) (pw_or1 (pt_cmpR op_lt (pe_callB call_len_seq (by rfl) B.len PySem.boot_len (pa_cons (pv 4) pa_nil)) (pe_callB call_len_seq (by rfl) B.len PySem.boot_len (pa_cons (pv 2) pa_nil)) (nomark _))))))))
          (pss_one (ps_set (i := 2) scWRing.nd rfl (Or.inl rfl) (pv 4))) pss_nil)))))
      (pss_one (ps_ret (pv 2)))), ?_⟩
    refine ⟨_, rfl, x, W, PP, rfl, hx, wf, fun H1 d al s1 hd hd1 hb1 => ⟨_, _, rfl, ?_⟩⟩
    refine ⟨d, bD W al, hd1, trivial, fun od => ?_⟩
    refine ⟨_, rfl, d, od, rfl, .inl ⟨_, upd_same, ?_⟩⟩
    have lk : ∀ {b o}, b ≠ d → H1 b = some o → upd H1 d (.frz od (bD W al)) b = some o := fun n e => by rw [upd_ne n]; exact e
    refine for_it (walk_keys (d := d) (o := od) (kvs := dct (srtS W) fun w => .ref (al w))) (fun i σ H' => ∃ bv v3 v4, σ = [some (.ref x), some (.ref d), some bv, v3, v4] ∧ Same H H' ∧ H' d = some (.frz od (bD W al)) ∧ Bl H' W PP al ∧ BestAt H' bv (((srtS W).take i).foldl (fun best w => WM.bestStep best (rs w)) none))
      ⟨_, _, _, rfl, fun b o e => lk (ne_of_none e hd) (s1 _ _ e), upd_same, fun wd hw => lk (fun e => by have := hb1 wd hw; rw [e, hd1] at this; cases this) (hb1 wd hw), .inl ⟨rfl, rfl⟩⟩ (fun i σ H' _ ⟨_, _, _, _, _, h, _⟩ => h) ?_ ?_
    · rintro i y σ H2 _ hi ⟨bv, v3, v4, rfl, s2, hd2, hb2, hB⟩ ⟨rfl, k, v, hk, rfl⟩
      obtain ⟨wd, hwd, e⟩ := map_at hk
      cases e
      have hwW : wd ∈ W := mem_srtS.mp (List.mem_of_getElem? hwd)
      obtain ⟨n, hn⟩ := hrs.1 wd hwW
      refine ⟨_, rfl, _, rfl, d, wd, W, PP, al, n, rs wd, rfl, .inr ⟨od, hd2⟩, hb2, wf.wds, wf.few, hwW, hn, fun H3 s3 => ?_⟩
      have hB3 : BestAt H3 bv (((srtS W).take i).foldl (fun best w => WM.bestStep best (rs w)) none) := by
        rcases hB with ⟨e1, e2⟩ | ⟨ring, a, e1, e2, e3, e4⟩
        · exact .inl ⟨e1, e2⟩
        · exact .inr ⟨ring, a, e1, e2, s3 _ _ e3, e4⟩
      have hstep : ((srtS W).take (i + 1)).foldl (fun best w => WM.bestStep best (rs w)) none = WM.bestStep (((srtS W).take i).foldl (fun best w => WM.bestStep best (rs w)) none) (rs wd) := by
        rw [take_more hwd, List.foldl_append]
        rfl
      generalize ((srtS W).take i).foldl (fun best w => WM.bestStep best (rs w)) none = best at hB3 hstep hB
      refine ⟨fun er => ?_, fun ring a er ha => ?_⟩
      · refine ⟨_, rfl, rfl, ?_⟩
        refine ⟨_, rfl, iteF ⟨bv, _, _, rfl, s2.trans s3, s3 _ _ hd2, hb2.same s3, ?_⟩⟩
        rw [hstep, er]
        exact hB3
      · refine ⟨_, rfl, rfl, ?_⟩
        refine ⟨_, rfl, iteT ⟨_, rfl, rfl, ?_⟩⟩
        have hrl := hrs.2 wd ring er
        rcases hB3 with ⟨e1, rfl⟩ | ⟨ring0, a0, e1, rfl, e3, e4⟩
        · refine ⟨_, rfl, iteT ?_⟩
          refine iteT ⟨_, rfl, _, _, _, rfl, s2.trans s3, s3 _ _ hd2, hb2.same s3, ?_⟩
          rw [hstep, er, e1]
          exact .inr ⟨ring, a, rfl, rfl, ha, hrl⟩
        · refine ⟨_, rfl, iteF ⟨_, rfl, a, _, rfl, .inl (SqL.of ha), _, rfl, a0, _, rfl, .inl (SqL.of e3), _, _, rfl, rfl, ?_⟩⟩
          rw [hstep, er, e1]
          rw [List.length_map, List.length_map]
          refine ⟨_, rfl, ite2 (fun c => ⟨_, rfl, _, _, _, rfl, s2.trans s3, s3 _ _ hd2, hb2.same s3, ?_⟩) (fun c => ⟨_, _, _, rfl, s2.trans s3, s3 _ _ hd2, hb2.same s3, ?_⟩)⟩
          · have c' : ring.length < ring0.length := by have := of_decide_eq_true c; omega
            simp only [WM.bestStep, if_pos c']
            exact .inr ⟨ring, a, rfl, rfl, ha, hrl⟩
          · have c' : ¬ ring.length < ring0.length := fun z => c (decide_eq_true (by omega))
            simp only [WM.bestStep, if_neg c']
            exact .inr ⟨ring0, a0, rfl, rfl, e3, e4⟩
    · rintro σ H2 ⟨bv, v3, v4, rfl, s2, hd2, hb2, hB⟩
      rw [dct_len, List.take_length] at hB
      refine ⟨hd2, _, rfl, q _ bv (fun b o e => by rw [upd_ne (ne_of_none e hd)]; exact s2 _ _ e) ?_⟩
      rcases hB with ⟨e1, e2⟩ | ⟨ring, a, e1, e2, e3, e4⟩
      · exact .inl ⟨e1, e2⟩
      · exact .inr ⟨ring, a, e1, e2, by rw [upd_ne (fun e => by rw [e, hd2] at e3; cases e3)]; exact e3, e4⟩
end
end Lk

set_option Elab.async false
set_option linter.all false
set_option maxRecDepth 100000
set_option maxHeartbeats 4000000
namespace Lk
open PySem PySem.Spec PyProof.Rows L2
abbrev sInitR : Stmt := inClass (top 12) 0
abbrev sInitN : Stmt := inClass (top 13) 0
abbrev sCheck : Stmt := top 20
/-- self.f = y in an exception that is being made -/
def spInitE (K : PySem.W.Frag) (C : Addr) (fld : Str) : Sp := fun vs H Q _ => ∃ (a : Addr) (y : V), vs = [.ref a, y] ∧ OexC K C ∧ PySem.W.findIn K (.ref C) fld = some none ∧ H a = some (exo a C none) ∧
  ∀ dx, H dx = none → dx ≠ a → Q .non (upd (upd H dx (exd dx [(fld, y)])) a (exo a C (some dx)))
/-- what the top says of an error class with one field -/
structure Err (P : Program) (w : World) (K : PySem.W.Frag) (mg : Str → Option Value) (base : Heap) (x fld : Str) (C : Addr) : Prop where
  oex : OexC K C
  gC : mg x = some (.ref C)
  no : PySem.W.findIn K (.ref C) fld = some none
  xf : XfC K C
  init : ∃ (fI : Addr) (fd : FuncData), FnOk P w K mg base CX0 1 fI fd ["self", fld] (spInitE K C fld) ∧ PySem.W.findIn K (.ref C) "__init__" = some (some (.ref fI)) ∧ PySem.W.typeIn K (.ref fI) = some (.type "function") ∧ Binds K fd ["self", fld] []
theorem mk_ans {K : PySem.W.Frag} {C : Addr} {fld : Str} {ta : TA} {σ : L2.St} {H H1 : Hp} {y : V} {Q : XK} (T : OexC K C) (no : PySem.W.findIn K (.ref C) fld = some none) (ha : ∀ R : List V → Hp → Prop, R [y] H1 → ta σ H R)
    (h : ∀ H' dd, Same H1 H' → H1 dd = none → H' dd = some (.xd [(fld, y)]) → Q (.ref C) (some dd) H') : tMkO C (spInitE K C fld) [] ta σ H Q := by
  refine ha _ ⟨(by show 1 ≤ 1000; decide), fun a ha => ⟨a, y, rfl, T, no, upd_same, fun dx hdx nd => ⟨rfl, dx, [(fld, y)], upd_same, ?_, ?_, ?_⟩⟩⟩
  · rw [upd_ne nd, upd_same]
  · rw [upd_ne nd] at hdx
    exact hdx
  · rw [upd_ne nd] at hdx
    refine h _ dx (fun b o e => ?_) hdx upd_same
    rw [upd_ne (ne_of_none e hdx), del_ne (ne_of_none e ha), upd_ne (ne_of_none e ha), upd_ne (ne_of_none e hdx), upd_ne (ne_of_none e ha)]
    exact e
section
variable {P : Program} {w : World} {K : PySem.W.Frag} {mg : Str → Option Value} {base : Heap}
theorem scInitR : FnScope ["self", "ring"] ["self", "ring"] (defScope sInitR) := ⟨rfl, rfl, rfl, by decide +kernel, rfl, by decide +kernel, by decide +kernel⟩
theorem fn_initR {C f : Addr} {fd : FuncData} (F : Fun K "__init__" "Ringed.__init__" sInitR f fd) : FnOk P w K mg base CX0 1 f fd ["self", "ring"] (spInitE K C "ring") := by
  refine F.ok scInitR (fun vs H Q E h => ?_) (fun cdv A outer s H vs Q E hr h => ?_)
  · obtain ⟨_, _, rfl, _⟩ := h
    rfl
  · obtain ⟨a, y, rfl, T, no, ha, q⟩ := h
    refine ⟨_, pss_one (ps_ost (pv 0) (pv 1)), ?_⟩
    exact ⟨_, rfl, _, rfl, a, C, rfl, T, no, .inl ⟨ha, fun dx hd nd => q dx hd nd⟩⟩
theorem scInitN : FnScope ["self", "thing"] ["self", "thing"] (defScope sInitN) := ⟨rfl, rfl, rfl, by decide +kernel, rfl, by decide +kernel, by decide +kernel⟩
theorem fn_initN {C f : Addr} {fd : FuncData} (F : Fun K "__init__" "BadNumbers.__init__" sInitN f fd) : FnOk P w K mg base CX0 1 f fd ["self", "thing"] (spInitE K C "thing") := by
  refine F.ok scInitN (fun vs H Q E h => ?_) (fun cdv A outer s H vs Q E hr h => ?_)
  · obtain ⟨_, _, rfl, _⟩ := h
    rfl
  · obtain ⟨a, y, rfl, T, no, ha, q⟩ := h
    refine ⟨_, pss_one (ps_ost (pv 0) (pv 1)), ?_⟩
    exact ⟨_, rfl, _, rfl, a, C, rfl, T, no, .inl ⟨ha, fun dx hd nd => q dx hd nd⟩⟩
/-- Ringed(ring) goes out -/
def RgX (CR : Addr) (E : XK) (H : Hp) (ring : List Str) : Prop := ∀ H' dd a, Same H H' → H' dd = some (.xd [(("ring" : Str), .ref a)]) → H' a = some (.lst (ring.map .str)) → E (.ref CR) (some dd) H'
theorem RgX.same {CR : Addr} {E : XK} {H H1 : Hp} {ring : List Str} (h : RgX CR E H ring) (s : Same H H1) : RgX CR E H1 ring := fun H' dd a s1 => h H' dd a (s.trans s1)
def spCheck (C CR : Addr) : Sp := fun vs H Q E => ∃ (x : Addr) (W : List Str) (PP : List (Str × Str)) (rs : Str → Option (List Str)), vs = [.ref x] ∧ WishAt C H x W PP ∧ Wf W PP ∧ RingsAt W PP rs ∧
  (WM.wishRing rs (srtS W) = none → ∀ H', Same H H' → Q .non H') ∧ ∀ ring, WM.wishRing rs (srtS W) = some ring → RgX CR E H ring
theorem scCheck : FnScope ["wishes", "ring"] ["wishes"] (defScope sCheck) := ⟨rfl, rfl, rfl, by decide +kernel, rfl, by decide +kernel, by decide +kernel⟩
theorem cal_check {C CR : Addr} (B : Blt mg) (D : Def K mg "check_ringless" sCheck) (C1 : Cal P w K mg base CX0 2 "wish_ring" (spWRing C)) (ER : Err P w K mg base "Ringed" "ring" CR) : Cal P w K mg base (L2.CX P w) 3 "check_ringless" (spCheck C CR) := by
  refine D.calX scCheck (fun vs H Q E h => ?_) (fun _ _ _ _ _ _ us hl => match us, hl with | [_], _ => rfl) (fun f cdv A outer s H vs Q E hr h => ?_)
  · obtain ⟨_, _, _, _, rfl, _⟩ := h
    rfl
  · obtain ⟨x, W, PP, rs, rfl, hx, wf, hrs, q, qx⟩ := h
    obtain ⟨fI, fd, F1, iC, tI, hb⟩ := ER.init
    refine ⟨_, pss_cons (ps_set (i := 1) scCheck.nd rfl (Or.inl rfl) (pe_cc C1 hr (by decide) pass0 (pa_cons (pv 0) pa_nil)))
      (pss_one (ps_if (pt_cmpR op_notN (pv 1) pe_non (nomark _)) (pss_one (ps_raise rfl (takes_of rfl rfl rfl rfl) (pmk_oex ER.oex iC tI F1 (hr.mono (by decide)) hb .nil (fun _ _ _ _ _ _ _ h => h.elim) rfl ER.gC (pa_cons (pv 1) pa_nil)))) pss_nil)), ?_⟩
    refine ⟨_, rfl, x, W, PP, rs, rfl, hx, wf, hrs, fun H1 bv s1 hB => ?_⟩
    rcases hB with ⟨e1, rfl⟩ | ⟨ring, a, e1, rfl, e3, e4⟩
    · exact ⟨_, rfl, rfl, _, rfl, iteF (q e1 _ s1)⟩
    · refine ⟨_, rfl, rfl, _, rfl, iteT ?_⟩
      exact mk_ans (H1 := H1) (y := .ref a) ER.oex ER.no (fun R h => ⟨_, rfl, h⟩) fun H' dd s2 hn hdd => qx ring e1 H' dd a (s1.trans s2) hdd (s2 _ _ e3)
end
end Lk

set_option Elab.async false
set_option linter.all false
set_option maxRecDepth 100000
set_option maxHeartbeats 4000000
namespace Lk
open PySem PySem.Spec PyProof.Rows L2
abbrev sFirst : Stmt := top 21
def whBody : Stmt → List Stmt
  | .While _ b _ _ => b
  | _ => []
def asgVal : Stmt → Expr
  | .Assign _ v _ => v
  | _ => .Name "" ⟨0, 0, 0, 0⟩
def lcSc : Expr → Scope
  | .ListComp _ _ sc _ => sc
  | _ => defScope (top 0)
/-! ### data of pairs -/
def dP (p : Str × Str) : PyData := .tuple [.str p.1, .str p.2]
theorem dp_pair {K : PySem.W.Frag} {H : Hp} {a : Addr} {p : Str × Str} (h : H a = some (.tup [.str p.1, .str p.2])) : Dp K H (.ref a) (dP p) := .tup (SqT.of h) (.cons (.str _) (.cons (.str _) .nil))
theorem dp_prs {K : PySem.W.Frag} {H : Hp} {ps : List Addr} {PP : List (Str × Str)} (h : Prs H ps PP) : DpAll K H (ps.map V.ref) (PP.map dP) := by
  induction h with
  | nil => exact .nil
  | cons r t ih => exact .cons (dp_pair r) ih
theorem eqv_dP (p q : Str × Str) : PyData.eqv (dP p) (dP q) = decide (p = q) := by
  obtain ⟨a, b⟩ := p
  obtain ⟨c, d⟩ := q
  simp only [dP, PyData.eqv, PyData.eqvAll, Bool.and_true]
  by_cases h1 : a = c
  · by_cases h2 : b = d
    · simp [h1, h2]
    · simp [h1, h2]
  · simp [h1]
theorem any_dP (q : Str × Str) (PP : List (Str × Str)) : ((PP.map dP).any fun z => PyData.eqv z (dP q)) = decide (q ∈ PP) := by
  rw [List.any_map]
  have : ((fun z => PyData.eqv z (dP q)) ∘ dP) = fun p => decide (p = q) := by
    funext p
    exact eqv_dP p q
  rw [this]
  by_cases h : q ∈ PP
  · rw [decide_eq_true h, List.any_eq_true]
    exact ⟨q, h, decide_eq_true rfl⟩
  · rw [decide_eq_false h, List.any_eq_false]
    exact fun p hp e => h (by rw [← of_decide_eq_true e]; exact hp)
theorem dP_lay {p : Str × Str} (h1 : okw p.1 = true) (h2 : okw p.2 = true) : (dP p).canLay0 = true := by
  simp [dP, PyData.canLay0, PyData.canLayAll0, okw_str h1, okw_str h2]
theorem dP_depth (p : Str × Str) : (dP p).depth ≤ 1 := by simp [dP, PyData.depth, PyData.depthAll]
theorem shp_dP {p : Str × Str} (h1 : okw p.1 = true) (h2 : okw p.2 = true) : SeqAt.shaped (dP p) = true := by
  show (PyData.canLay0 (dP p) && decide (PyData.depth (dP p) ≤ 64)) = true
  rw [Bool.and_eq_true]
  exact ⟨dP_lay h1 h2, decide_eq_true (Nat.le_trans (dP_depth p) (by decide))⟩
theorem shp_prs {W : List Str} {PP : List (Str × Str)} (wf : Wf W PP) : SeqAt.shaped (.tuple (PP.map dP)) = true := shp_tuple (d := 1) (fun p hp => dP_lay (wf.wds _ (wf.mem p hp).1) (wf.wds _ (wf.mem p hp).2.1)) dP_depth (by decide)
theorem kPi_list {X : Cx} {l : Expr} {tl : TE} {tg : Expr} (K : PySem.W.Frag) (hl : PE X l tl) (hK : X.K = K := by rfl) : PI X tg l (iList K tl) := by
  subst hK
  exact pi_list hl
theorem kPi_tup {X : Cx} {l : Expr} {tl : TE} {tg : Expr} (K : PySem.W.Frag) (hl : PE X l tl) (hK : X.K = K := by rfl) : PI X tg l (iTup K tl) := by
  subst hK
  exact pi_tup hl
theorem k_fld {X : Cx} {e : Expr} {f : Str} {pos : Pos} {ta : TE} (K : PySem.W.Frag) (he : PE X e ta) (hb : attributeBase e f X.env (eval e X.env) = eval e X.env) (hK : X.K = K := by rfl) : PE X (.Attribute e f pos) (tFld K ta f) := by
  subst hK
  exact pe_fld he hb
/-- those texts of a list that pass p -/
def onStr (f : Str → Option V) : V → Option V
  | .str z => f z
  | _ => none
theorem fm_on (f : Str → Option V) : ∀ L : List Str, (L.map V.str).filterMap (onStr f) = L.filterMap f
  | [] => rfl
  | z :: L => by
    rw [List.map_cons, List.filterMap_cons, List.filterMap_cons, fm_on f L]
    rfl
theorem fm_filter (p : Str → Bool) : ∀ L : List Str, L.filterMap (fun z => if p z = true then some (V.str z) else none) = (L.filter p).map V.str
  | [] => rfl
  | z :: L => by
    rw [List.filterMap_cons, List.filter_cons, fm_filter p L]
    by_cases h : p z = true
    · rw [if_pos h, if_pos h]; rfl
    · rw [if_neg h, if_neg h]
theorem fm_some {α β : Type} (f : α → β) (L : List α) : L.filterMap (fun z => some (f z)) = L.map f := by
  rw [← List.filterMap_eq_map]
  rfl
theorem atI_head {x : V} {xs : List V} : atI (x :: xs) 0 = some x := at_of (j := 0) rfl rfl
def scFree : Scope := lcSc (asgVal ((whBody ((defBody sFirst).getD 2 (.Pass ⟨0, 0, 0, 0⟩))).getD 0 (.Pass ⟨0, 0, 0, 0⟩)))
def spFirst (C CR : Addr) : Sp := fun vs H Q E => ∃ (x : Addr) (W : List Str) (PP : List (Str × Str)) (rs : Str → Option (List Str)), vs = [.ref x] ∧ WishAt C H x W PP ∧ Wf W PP ∧ RingsAt W PP rs ∧
  (WM.wishRing rs (srtS W) = none → (∃ (n : Nat) (rk : Str → Nat), WM.Ranked PP n rk) ∧ ∀ H' l, Same H H' → H l = none → H' l = some (.lst ((WM.ordT PP W.length (srtS W)).map .str)) → Q (.ref l) H') ∧ ∀ ring, WM.wishRing rs (srtS W) = some ring → RgX CR E H ring
section
variable {P : Program} {w : World} {K : PySem.W.Frag} {mg : Str → Option Value} {base : Heap}
theorem scFirst : FnScope ["wishes", "left", "found", "free", "word", "one"] ["wishes"] (defScope sFirst) := ⟨rfl, rfl, rfl, by decide +kernel, rfl, by decide +kernel, by decide +kernel⟩
theorem cal_first {C CR : Addr} (B : Blt mg) (T : TW K C) (D : Def K mg "first_order" sFirst) (C1 : Cal P w K mg base (L2.CX P w) 3 "check_ringless" (spCheck C CR)) : Cal P w K mg base (L2.CX P w) 4 "first_order" (spFirst C CR) := by
  refine D.calX scFirst (fun vs H Q E h => ?_) (fun _ _ _ _ _ _ us hl => match us, hl with | [_], _ => rfl) (fun f cdv A outer s H vs Q E hr h => ?_)
  · obtain ⟨_, _, _, _, rfl, _⟩ := h
    rfl
  · obtain ⟨x, W, PP, rs, rfl, hx, wf, hrs, q, qx⟩ := h
    refine ⟨_, pss_cons (ps_expr (pe_cc C1 hr (by decide) (passes_call (takes_of rfl rfl rfl rfl) (fun _ _ _ _ h => h)) (pa_cons (pv 0) pa_nil)))
      (pss_cons (ps_asg (pe_tup (pa_cons (pe_callB (cr_sortedW rfl) (by rfl) B.sorted (by decide +kernel) (pa_cons (pe_fld (pv 0) rfl) pa_nil)) (pa_cons (pe_lst pa_nil) pa_nil))) (pg_tup rfl (pgs_cons (pg_name (i := 1) scFirst.nd rfl (Or.inr rfl)) (pgs_cons (pg_name (i := 2) scFirst.nd rfl (Or.inl rfl)) pgs_nil))))
      (pss_cons (ps_while (passes_of rfl) (pt_cmpR (op_neD hr.units) (pv 1) (pe_lst pa_nil) (nomark _))
        (pss_cons (ps_setLc (i := 3) (own := [("word", 4)]) (g := gName 4) rfl scFirst.nd rfl rfl (sw_true rfl rfl rfl (by decide +kernel)) (pi_list (pv 1)) (blkOk_by (N := ["wishes", "left", "found", "free", "word", "one"]) (sc := defScope sFirst) (by decide +kernel))
          (fun _ _ _ _ _ => pg_name (i := 4) scFirst.nd rfl (Or.inr rfl))
          (fun _ _ _ _ _ => pts_one (pt_not (pt_val (pe_callB (kAny K rfl) (by rfl) B.any (by decide +kernel) (pa_cons (pe_lc (own := [("one", 5)]) (g := gName 5) (tt := tYes) rfl scFirst.nd (kPi_list K (pv 1)) (blkOk_by (N := ["wishes", "left", "found", "free", "word", "one"]) (sc := relS scFree (defScope sFirst)) (by decide +kernel))
            (fun _ _ _ _ _ => pg_name (i := 5) scFirst.nd rfl (Or.inl rfl)) (fun _ _ _ _ _ => pts_nil) (fun _ _ _ _ _ => pe_cmpR (kInT K (Rm.u65 hr)) (pe_tup (pa_cons (pv 5) (pa_cons (pv 4) pa_nil))) (k_fld K (pv 0) rfl) rfl)) pa_nil)))))
          (fun _ _ _ _ _ => pv 4))
        (pss_cons (ps_expr (pe_bm PySem.F.plainAttrs_list PySem.F.slot_list_append PySem.F.type_list_append mt_append (pv 2) (pa_cons (pe_ix ix_list (pv 3) pe_int (fun _ _ => rfl)) pa_nil)))
        (pss_one (ps_expr (pe_bm PySem.F.plainAttrs_list PySem.F.slot_list_remove PySem.F.type_list_remove mt_removeS (pv 1) (pa_cons (pe_ix ix_list (pv 3) pe_int (fun _ _ => rfl)) pa_nil)))))))
      (pss_one (ps_ret (pv 2))))), ?_⟩
    obtain ⟨dx, tw, tp, ps, hi, htw, htp, hps⟩ := id hx
    refine ⟨_, rfl, x, W, PP, rs, rfl, hx, wf, hrs, fun en H1 s1 => ?_, qx⟩
    obtain ⟨⟨nR, rk, R⟩, q⟩ := q en
    have h64 := few64 wf
    refine ⟨_, rfl, x, C, dx, _, _, rfl, s1 _ _ hi, T.cl, T.nW, wfs_words _ _, tw, W, rfl, .inr (SqT.of (s1 _ _ htw)), h64, wf.nd, fun l hl => ⟨Nat.zero_le _, fun g hg => ⟨(by show 2 ≤ sizeLine; decide), fun t ht => ?_⟩⟩⟩
    have s2 := s1.add hl (.lst ((srtS W).map V.str))
    have s3 := s2.add hg (.lst [])
    have s4 := s3.add ht (.tup [.ref l, .ref g])
    have nlg : l ≠ g := ne_of_none upd_same hg
    have nlt : l ≠ t := ne_of_none (by rw [upd_ne nlg, upd_same]) ht
    have ngt : g ≠ t := ne_of_none upd_same ht
    refine ⟨t, _, rfl, SqT.of upd_same, rfl, _, _, rfl, _, _, rfl, rfl, ?_⟩
    refine ⟨fun m σ H' => ∃ v3 left found, σ = [some (.ref x), some (.ref l), some (.ref g), v3, none, none] ∧ Same H H' ∧ H' l = some (.lst (left.map V.str)) ∧ H' g = some (.lst (found.map V.str)) ∧ m = left.length ∧ (∀ z ∈ left, z ∈ W) ∧
        found ++ WM.ordT PP left.length left = WM.ordT PP W.length (srtS W) ∧ found.length + left.length = W.length,
      ⟨(srtS W).length, _, srtS W, [], rfl, s4, by rw [upd_ne nlt, upd_ne nlg, upd_same], by rw [upd_ne ngt, upd_same]; rfl, rfl, fun z hz => mem_srtS.mp hz, by rw [srtS_len, List.nil_append], by rw [srtS_len]; simp⟩, ?_⟩
    rintro m σ H2 ⟨v3, left, found, rfl, s5, hl2, hg2, rfl, hsub, hord, hlen⟩
    have hwl : Wds left := fun z hz => wf.wds z (hsub z hz)
    refine ⟨_, rfl, Nat.zero_le _, fun e he => ?_⟩
    have s6 := (Same.refl H2).add he (.lst [])
    refine ⟨_, _, dp_list (s6 _ _ hl2) (all_strs hwl), .lst (SqL.of upd_same) .nil, shp_dat (all_strs hwl), shp_nil, ?_⟩
    rw [eqv_nil]
    cases hleft : left with
    | nil =>
      subst hleft
      refine ⟨_, rfl, iteF ⟨_, rfl, q _ g (s5.trans s6) (s3.free ht |> fun _ => ?_) ?_⟩⟩
      · exact s2.free hg
      · have e1 : found = WM.ordT PP W.length (srtS W) := by rw [← hord]; simp [WM.ordT]
        rw [← e1]
        exact s6 _ _ hg2
    | cons w0 ws0 =>
      rw [← hleft]
      have hne : left ≠ [] := by rw [hleft]; simp
      refine ⟨_, rfl, ?_⟩
      have e0 : (!(left.map V.str).isEmpty) = true := by rw [hleft]; rfl
      rw [e0]
      have hl50 : left.length ≤ 50 := by have := wf.few; omega
      refine iteT ⟨fun σ H' => ∃ v3 left' found', σ = [some (.ref x), some (.ref l), some (.ref g), v3, none, none] ∧ Same H H' ∧ H' l = some (.lst (left'.map V.str)) ∧ H' g = some (.lst (found'.map V.str)) ∧ left'.length < left.length ∧ (∀ z ∈ left', z ∈ W) ∧
        found' ++ WM.ordT PP left'.length left' = WM.ordT PP W.length (srtS W) ∧ found'.length + left'.length = W.length, fun σ' H' ⟨v3, left', found', e1, e2, e3, e4, e5, e6⟩ => ⟨_, e5, v3, left', found', e1, e2, e3, e4, rfl, e6⟩, ?_⟩
      have hlE := s6 _ _ hl2
      have hgE := s6 _ _ hg2
      have s7 := s5.trans s6
      refine ⟨_, rfl, l, rfl, ⟨_, SqL.of hlE⟩, fun D hD => ?_⟩
      refine lc_fml (xs := left.map V.str) (onStr fun wd => if (!(left.any fun o => decide ((o, wd) ∈ PP))) = true then some (.str wd) else none) (fun H3 s => SqL.of (s _ _ hlE)) hD (by rw [List.length_map]; omega) (fun i v H3 hv s8 N N0 hy h0 => ?_) fun H3 s8 hD3 => ?_
      · obtain ⟨wd, hwd, rfl⟩ := map_at hv
        refine ⟨rfl, _, rfl, l, rfl, ⟨_, SqL.of (s8 _ _ hlE)⟩, fun D2 hD2 => ?_⟩
        refine lc_fml (xs := left.map V.str) (onStr fun o => some (.bl (decide ((o, wd) ∈ PP)))) (fun H4 s => SqL.of (s _ _ (s8 _ _ hlE))) hD2 (by rw [List.length_map]; omega) (fun j u H4 hu s9 N1 N2 hy1 h1 => ?_) fun H4 s9 hD4 => ?_
        · obtain ⟨o, ho, rfl⟩ := map_at hu
          have s10 := (s7.trans s8).trans s9
          refine ⟨rfl, _, rfl, _, rfl, (by show 2 ≤ sizeLine; decide), fun tt htt => ⟨_, rfl, x, C, dx, _, _, rfl, (s10.add htt _) _ _ hi, T.cl, T.nP, wfs_pairs _ _, dP (o, wd), PP.map dP, dp_pair upd_same, .tup (SqT.of ((s10.add htt _) _ _ htp)) (dp_prs ((hps.same s10).same ((Same.refl _).add htt _))),
            shp_dP (hwl _ (List.mem_of_getElem? ho)) (hwl _ (List.mem_of_getElem? hwd)), shp_prs wf, ?_⟩⟩
          rw [any_dP]
          exact hy1 _ _ rfl ((Same.refl _).add htt _)
        · rw [fm_on, fm_some, show (fun z => V.bl (decide ((z, wd) ∈ PP))) = V.bl ∘ fun z => decide ((z, wd) ∈ PP) from rfl, ← List.map_map] at hD4
          refine ⟨D2, _, rfl, SqL.of hD4, _, rfl, ?_⟩
          rw [List.any_map]
          have e1 : left.any (id ∘ fun z => decide ((z, wd) ∈ PP)) = left.any fun o => decide ((o, wd) ∈ PP) := rfl
          rw [e1]
          cases hc : left.any fun o => decide ((o, wd) ∈ PP) with
          | true => exact iteF (h0 _ (if_neg (by rw [hc]; decide)) s9)
          | false => exact iteT ⟨_, rfl, hy _ _ (if_pos (by rw [hc]; rfl)) s9⟩
      · rw [fm_on, fm_filter] at hD3
        have hfr : left.filter (fun wd => !(left.any fun o => decide ((o, wd) ∈ PP))) = WM.free PP left := rfl
        rw [hfr] at hD3
        cases hf : WM.free PP left with
        | nil => exact absurd hf (WM.free_ne R hne)
        | cons fr rest =>
          rw [hf] at hD3
          have hfl : fr ∈ left := (WM.mem_free.mp (by rw [hf]; exact List.mem_cons_self)).1
          have hg3 := s8 _ _ hgE
          have hl3 := s8 _ _ hlE
          have hDg : D ≠ g := (ne_of_none hgE hD).symm
          have hDl : D ≠ l := (ne_of_none hlE hD).symm
          refine ⟨_, rfl, .inl ⟨rfl, _, SqL.of hg3⟩, _, rfl, D, _, 0, _, rfl, rfl, SqL.of hD3, atI_head, g, _, _, rfl, rfl, hg3, small1000 (by rw [List.length_map]; have := wf.few; omega), ?_⟩
          have hl4 : upd H3 g (.lst (found.map V.str ++ [V.str fr])) l = some (.lst (left.map V.str)) := by rw [upd_ne nlg]; exact hl3
          have hD4 : upd H3 g (.lst (found.map V.str ++ [V.str fr])) D = some (.lst ((fr :: rest).map V.str)) := by rw [upd_ne hDg]; exact hD3
          refine ⟨_, rfl, .inl ⟨rfl, _, SqL.of hl4⟩, _, rfl, D, _, 0, _, rfl, rfl, SqL.of hD4, atI_head, l, fr, left, rfl, rfl, hl4, hfl, ?_⟩
          have hll : (left.erase fr).length + 1 = left.length := by
            rw [List.length_erase_of_mem hfl]
            have := List.length_pos_of_mem hfl
            omega
          have hlH : H l = none := s1.free hl
          have hgH : H g = none := s2.free hg
          refine ⟨_, left.erase fr, found ++ [fr], rfl, ?_, upd_same, ?_, by omega, fun z hz => hsub z (List.mem_of_mem_erase hz), ?_, ?_⟩
          · exact fun b o e => by
              rw [upd_ne (ne_of_none e hlH), upd_ne (ne_of_none e hgH)]
              exact (s7.trans s8) _ _ e
          · rw [upd_ne nlg.symm, upd_same, List.map_append]
            rfl
          · rw [← hord, ← hll, WM.ordT, hf]
            simp
          · rw [List.length_append, List.length_singleton]
            omega
end
end Lk

set_option Elab.async false
set_option linter.all false
set_option maxRecDepth 100000
set_option maxHeartbeats 4000000
namespace Lk
open PySem PySem.Spec PyProof.Rows L2
abbrev sLeast : Stmt := top 22
/-! ### dict comprehensions over any walk -/
section
variable {J : It} {n : Nat} {G : Hp → Prop} {Y : Nat → Hp → V → Hp → Prop}
theorem dc_it (w : Walk J n G Y) {g : TG} {tt : TT} {tk tv : TE} {vs : List Nat} {σ : L2.St} {H1 : Hp} {D : Addr} {Qd : Hp → Prop} (Pv : Nat → Hp → Prop) (h0 : Pv 0 (upd H1 D (.dK []))) (hG : ∀ i H, i ≤ n → Pv i H → G H)
    (hs : ∀ i x H H', i < n → Pv i H → Y i H x H' → g x (wipe σ vs) H' fun σ2 H2 => wipe σ2 vs = wipe σ vs ∧ tt σ2 H2 fun b H3 =>
      if b = true then tk σ2 H3 fun y H4 => tv σ2 H4 fun z H5 => ∃ kvs k, y = kV k ∧ H5 D = some (.dK kvs) ∧ kvs.length < sizeLine ∧ Pv (i + 1) (upd H5 D (.dK (putK kvs k z))) else Pv (i + 1) H3) (hd : ∀ H, Pv n H → Qd H) :
    ∃ W : Nat → Nat → Hp → Prop, (∃ m, W 0 m (upd H1 D (.dK []))) ∧ ∀ i m H, W i m H →
      (J.stop i H ∧ Qd H) ∨ (J.go i H ∧ ∃ Nx : Hp → Prop, (∀ H', Nx H' → ∃ m', m' < m ∧ W (i + 1) m' H') ∧ ∀ x H', J.yld i H x H' → g x (wipe σ vs) H' fun σ2 H2 => wipe σ2 vs = wipe σ vs ∧ tt σ2 H2 fun b H3 =>
        if b = true then tk σ2 H3 fun y H4 => tv σ2 H4 fun z H5 => ∃ kvs k, y = kV k ∧ H5 D = some (.dK kvs) ∧ kvs.length < sizeLine ∧ Nx (upd H5 D (.dK (putK kvs k z))) else Nx H3) := by
  refine ⟨fun i m H => m = n - i ∧ i ≤ n ∧ Pv i H, ⟨n, rfl, Nat.zero_le _, h0⟩, ?_⟩
  rintro i m H ⟨rfl, hi, p⟩
  have q := hG i H hi p
  by_cases hlt : i < n
  · exact .inr ⟨w.goes i H hlt q, Pv (i + 1), fun H' p' => ⟨n - (i + 1), by omega, rfl, hlt, p'⟩, fun x H' y => hs i x H H' hlt p (w.yields i H x H' hlt q y)⟩
  · have e : i = n := by omega
    subst e
    exact .inl ⟨w.stops H q, hd H p⟩
end
def nmV (f : Str → Int) : Str → V := fun w => .int (f w)
def lfD (W : List Str) (PP : List (Str × Str)) : HO := .dK (dct (srtS W) (nmV (WM.Lf PP W.length)))
def spLeast (C CR : Addr) : Sp := fun vs H Q E => ∃ (x : Addr) (W : List Str) (PP : List (Str × Str)) (rs : Str → Option (List Str)), vs = [.ref x] ∧ WishAt C H x W PP ∧ Wf W PP ∧ RingsAt W PP rs ∧
  (WM.wishRing rs (srtS W) = none → (∃ rk : Str → Nat, WM.Ranked PP W.length rk) ∧ ∀ H' d, Same H H' → H d = none → H' d = some (lfD W PP) → Q (.ref d) H') ∧ ∀ ring, WM.wishRing rs (srtS W) = some ring → RgX CR E H ring
theorem fm_preds (f : Str → Int) (wd : Str) : ∀ PP : List (Str × Str), PP.filterMap (fun p => if p.2 = wd then some (V.int (f p.1 + 1)) else none) = ((WM.preds PP wd).map fun o => f o + 1).map V.int
  | [] => rfl
  | p :: PP => by
    have ih := fm_preds f wd PP
    unfold WM.preds at ih ⊢
    rw [List.filterMap_cons, List.filter_cons, ih]
    by_cases e : p.2 = wd
    · rw [if_pos e, if_pos (decide_eq_true e)]
      rfl
    · rw [if_neg e, if_neg (by simpa using e)]
theorem nd_take {α : Type} {l : List α} (n : l.Nodup) {i : Nat} {x : α} (h : l[i]? = some x) : x ∉ l.take i := fun hq => by
  obtain ⟨j, hj⟩ := List.mem_iff_getElem?.mp hq
  rw [List.getElem?_take] at hj
  split at hj
  · rename_i hlt
    have := nd_ix n hj h
    omega
  · cases hj
section
variable {P : Program} {w : World} {K : PySem.W.Frag} {mg : Str → Option Value} {base : Heap}
theorem scLeast : FnScope ["wishes", "found", "word", "one", "other"] ["wishes"] (defScope sLeast) := ⟨rfl, rfl, rfl, by decide +kernel, rfl, by decide +kernel, by decide +kernel⟩
theorem cal_least {C CR : Addr} (B : Blt mg) (T : TW K C) (D : Def K mg "least_numbers" sLeast) (C1 : Cal P w K mg base (L2.CX P w) 4 "first_order" (spFirst C CR)) : Cal P w K mg base (L2.CX P w) 5 "least_numbers" (spLeast C CR) := by
  refine D.calX scLeast (fun vs H Q E h => ?_) (fun _ _ _ _ _ _ us hl => match us, hl with | [_], _ => rfl) (fun f cdv A outer s H vs Q E hr h => ?_)
  · obtain ⟨_, _, _, _, rfl, _⟩ := h
    rfl
  · obtain ⟨x, W, PP, rs, rfl, hx, wf, hrs, q, qx⟩ := h
    refine ⟨_, pss_cons (ps_set (i := 1) scLeast.nd rfl (Or.inr rfl) pe_dnewK)
      (pss_cons (ps_for (passes_of rfl) rfl (pi_list (pe_cc C1 hr (by decide) (passes_call (takes_of rfl rfl rfl rfl) (fun _ _ _ _ h => h)) (pa_cons (pv 0) pa_nil))) (pg_name (i := 2) scLeast.nd rfl (Or.inr rfl))
        (pss_one (ps_dput (Rm.u1 hr) (pv 1) (pv 2) (pe_callB (cr_max rfl) (by rfl) B.max (by decide +kernel) (pa_cons (pe_op op_cat (pe_lst (pa_cons pe_int pa_nil))
          (pe_lc (own := [("one", 3), ("other", 4)]) (g := gTup K 2 (gCons (gName 3) (gCons (gName 4) gNil))) rfl scLeast.nd (pi_tup (pe_fld (pv 0) rfl)) (blkOk_by (N := ["wishes", "found", "word", "one", "other"]) (sc := defScope sLeast) (by decide +kernel))
            (fun _ _ _ _ _ => pg_tup rfl (pgs_cons (pg_name (i := 3) scLeast.nd rfl (Or.inl rfl)) (pgs_cons (pg_name (i := 4) scLeast.nd rfl (Or.inl rfl)) pgs_nil)))
            (fun _ _ _ _ _ => pts_one (pt_cmpR op_eq (pv 4) (pv 2) (nomark _))) (fun _ _ _ _ _ => pe_op op_add (pe_dget (Rm.u1 hr) (pv 1) (pv 3) (fun _ _ => rfl)) pe_int))) pa_nil)) rfl)))
      (pss_one (ps_ret (pe_dc (own := [("word", 2)]) (g := gName 2) (tt := tYes) rfl scLeast.nd (pi_list (pe_callB (call_sortedD rfl) (by rfl) B.sorted (by decide +kernel) (pa_cons (pv 1) pa_nil))) (blkOk_by (N := ["wishes", "found", "word", "one", "other"]) (sc := defScope sLeast) (by decide +kernel))
        (fun _ _ _ _ _ => pg_name (i := 2) scLeast.nd rfl (Or.inl rfl)) (fun _ _ _ _ _ => pts_nil) (fun _ _ _ _ _ => pv 2) (fun _ _ _ _ _ => pe_dget (Rm.u1 hr) (pv 1) (pv 2) (fun _ _ => rfl)))))), ?_⟩
    obtain ⟨dx, tw, tp, ps, hi, htw, htp, hps⟩ := id hx
    intro d hd
    have sd := (Same.refl H).add hd (.dK [])
    have h50 := wf.few
    refine ⟨_, rfl, x, W, PP, rs, rfl, hx.same sd, wf, hrs, fun en => ?_, fun ring er => (qx ring er).same sd⟩
    obtain ⟨⟨rk, R⟩, q⟩ := q en
    refine ⟨⟨W.length, rk, R⟩, fun H2 l s2 hl hl2 => ⟨l, rfl, ⟨_, SqL.of hl2⟩, ?_⟩⟩
    have pm := WM.ord_perm R W.length (srtS W) (srtS_len W)
    have topo := WM.ord_topo R W.length (srtS W) (srtS_len W)
    have hnd : (WM.ordT PP W.length (srtS W)).Nodup := pm.nodup_iff.mpr ((srtS_asc wf.nd).nodup slt_lin)
    generalize WM.ordT PP W.length (srtS W) = ord at pm topo hnd hl2 ⊢
    have hol : ord.length = W.length := by rw [pm.length_eq, srtS_len]
    have hld : l ≠ d := (ne_of_none upd_same hl).symm
    have sH := sd.trans s2
    refine for_list (K := K) (a := l) (xs := ord.map V.str) (fun i σ H' => (∃ v2, σ = [some (.ref x), some (.ref d), v2, none, none]) ∧ Same H H' ∧ H' l = some (.lst (ord.map V.str)) ∧ H' d = some (.dK (dct (ord.take i) (nmV (WM.Lf PP W.length)))))
      ⟨⟨_, rfl⟩, sH, hl2, s2 _ _ upd_same⟩ (fun i σ H' _ h => SqL.of h.2.2.1) ?_ ?_
    · rintro i y σ H3 hi3 ⟨⟨v2, rfl⟩, s3, hl3, hd3⟩
      obtain ⟨wd, hwd, rfl⟩ := map_at hi3
      have hsplit : ord = ord.take i ++ wd :: ord.drop (i + 1) := by
        obtain ⟨h1, h2⟩ := List.getElem?_eq_some_iff.mp hwd
        rw [← h2, ← List.drop_eq_getElem_cons h1, List.take_append_drop]
      refine ⟨(by show 1 ≤ sizeLine; decide), fun z hz => ?_⟩
      have s4 := (Same.refl H3).add hz (.lst [V.int 0])
      refine ⟨_, rfl, x, C, dx, _, _, rfl, s4 _ _ (s3 _ _ hi), T.cl, T.nP, wfs_pairs _ _, tp, rfl, ⟨_, SqT.of (s4 _ _ (s3 _ _ htp))⟩, fun D hD => ?_⟩
      refine lc_fmp (fun p => if p.2 = wd then some (V.int (WM.Lf PP W.length p.1 + 1)) else none) (s4 _ _ (s3 _ _ htp)) ((hps.same s3).same s4) hD (Nat.le_trans wf.fewP (by decide)) (fun p t H4 hp ht s5 N N0 hy h0 => ?_) fun H4 s5 hD4 => ?_
      · refine ⟨t, _, rfl, SqT.of ht, rfl, _, _, rfl, _, _, rfl, rfl, rfl, _, rfl, _, rfl, rfl, _, rfl, ite2 (fun e => ?_) (fun e => h0 _ (if_neg fun z => e (decide_eq_true (congrArg V.str z))) (Same.refl _))⟩
        have e' : p.2 = wd := V.str.inj (of_decide_eq_true e)
        have hp1 : p.1 ∈ ord.take i := topo _ _ _ hsplit p.1 (by rw [← e']; exact hp) (mem_srtS.mpr (wf.mem p hp).1)
        exact ⟨_, rfl, _, rfl, d, _, rfl, .inl ⟨_, kS p.1, .inl (s5 _ _ (s4 _ _ hd3)), rfl, (dct_in hp1).symm⟩, _, _, rfl, rfl, hy _ _ (if_pos e') (Same.refl _)⟩
      · rw [fm_preds] at hD4
        have hz4 := s5 _ _ (upd_same (H := H3) (a := z) (o := .lst [V.int 0]))
        refine ⟨z, D, _, _, rfl, rfl, hz4, hD4, ?_, fun g hg => ?_⟩
        · have h1 : ((WM.preds PP wd).map fun o => WM.Lf PP W.length o + 1).length ≤ 60 := by
            rw [List.length_map]
            unfold WM.preds
            rw [List.length_map]
            exact Nat.le_trans (List.length_filter_le _ _) wf.fewP
          rw [List.length_map]
          simp only [List.length_singleton]
          exact Nat.le_trans (show _ ≤ 1000 by omega) (by decide)
        · refine ⟨g, (0 : Int) :: ((WM.preds PP wd).map fun o => WM.Lf PP W.length o + 1), rfl, SqL.of upd_same, by simp, fun m hm hge => ?_⟩
          have hm2 : m = WM.Lf PP W.length wd := by rw [WM.Lf_fix R wd]; exact WM.mx0_eq hm hge
          have s6 := (s4.trans s5).add hg (.lst ([V.int 0] ++ ((WM.preds PP wd).map fun o => WM.Lf PP W.length o + 1).map V.int))
          have hd6 := s6 _ _ hd3
          have hnt := nd_take hnd hwd
          refine ⟨_, rfl, _, rfl, d, _, rfl, .inl ⟨_, kS wd, hd6, rfl, ?_, rfl⟩, ⟨_, rfl⟩, ?_, ?_, ?_⟩
          · rw [dct_len]
            exact small1000 (Nat.le_trans (List.length_take_le' _ _) (by omega))
          · exact fun b o e => by
              rw [upd_ne (ne_of_none e hd)]
              exact (s3.trans s6) _ _ e
          · rw [upd_ne hld]
            exact s6 _ _ hl3
          · rw [upd_same, dct_new hnt _ (by rw [hm2]; rfl), take_more hwd]
    · rintro σ H3 ⟨⟨v2, rfl⟩, s3, hl3, hd3⟩
      rw [List.length_map, List.take_length] at hd3
      refine ⟨_, rfl, d, _, ord, rfl, .inl hd3, dct_keys _ _, by omega, fun ys p hp hs hn => ?_⟩
      have eys : ys = srtS W := srtS_eq wf.nd (hp.trans (pm.trans (srtS_perm W))) hs
      subst eys
      have sp := (Same.refl H3).add hn (.lst ((srtS W).map V.str))
      generalize hHb : upd H3 p (.lst ((srtS W).map V.str)) = Hb at sp ⊢
      have hpb : Hb p = some (.lst ((srtS W).map V.str)) := by rw [← hHb, upd_same]
      refine ⟨p, rfl, ⟨_, SqL.of hpb⟩, fun D2 hD2 => ?_⟩
      have hndS : (srtS W).Nodup := (srtS_asc wf.nd).nodup slt_lin
      refine dc_it (walk_list (K := K) (a := p) (xs := (srtS W).map V.str)) (fun i H' => Same Hb H' ∧ H' D2 = some (.dK (dct ((srtS W).take i) (nmV (WM.Lf PP W.length))))) ⟨(Same.refl Hb).new hD2 _, upd_same⟩ (fun i H' _ h => SqL.of (h.1 _ _ hpb)) ?_ ?_
      · rintro i y H5 _ hi5 ⟨s5, hD5⟩ ⟨rfl, hy⟩
        obtain ⟨wd, hwd, rfl⟩ := map_at hy
        have hwS : wd ∈ srtS W := List.mem_of_getElem? hwd
        refine ⟨rfl, _, rfl, _, rfl, _, rfl, d, _, rfl, .inl ⟨_, kS wd, .inl (s5 _ _ (sp _ _ hd3)), rfl, (dct_in (pm.mem_iff.mpr hwS)).symm⟩, _, kS wd, rfl, hD5, ?_, s5.new hD2 _, ?_⟩
        · rw [dct_len]
          exact small1000 (Nat.le_trans (List.length_take_le' _ _) (by rw [srtS_len]; omega))
        · rw [upd_same, dct_new (nd_take hndS hwd) _ rfl, take_more hwd]
      · rintro H5 ⟨s5, hD5⟩
        rw [List.length_map, List.take_length] at hD5
        have sF := (s3.trans sp)
        exact q H5 D2 (sF.trans s5) (sF.free hD2) hD5
end
end Lk

set_option Elab.async false
set_option linter.all false
set_option maxRecDepth 100000
set_option maxHeartbeats 4000000
namespace Lk
open PySem PySem.Spec PyProof.Rows L2
abbrev sLong : Stmt := top 23
theorem Sm.same {a : Addr} {H H1 H2 : Hp} (s : Same H H1) (m : Sm a H1 H2) (n : H a = none) : Same H H2 := fun b o e => m b o (ne_of_none e n) (s _ _ e)
theorem chain_nil (S : List Str) (PP : List (Str × Str)) (k : Nat) : WM.chainT S PP k [] = [] := by
  cases k with
  | zero => rfl
  | succ k => simp [WM.chainT]
abbrev chT (W : List Str) (PP : List (Str × Str)) : List Str := WM.chainT (srtS W) PP (srtS W).length (srtS W)
def spLong (C CR : Addr) : Sp := fun vs H Q E => ∃ (x : Addr) (W : List Str) (PP : List (Str × Str)) (rs : Str → Option (List Str)), vs = [.ref x] ∧ WishAt C H x W PP ∧ Wf W PP ∧ RingsAt W PP rs ∧
  (WM.wishRing rs (srtS W) = none → (∃ rk : Str → Nat, WM.Ok slt (srtS W) PP rk) ∧ ∀ H' l, Same H H' → H l = none → H' l = some (.lst ((chT W PP).map .str)) → Q (.ref l) H') ∧ ∀ ring, WM.wishRing rs (srtS W) = some ring → RgX CR E H ring
section
variable {P : Program} {w : World} {K : PySem.W.Frag} {mg : Str → Option Value} {base : Heap}
theorem scLong : FnScope ["wishes", "behind", "heights", "word", "found", "fit", "best", "other"] ["wishes"] (defScope sLong) := ⟨rfl, rfl, rfl, by decide +kernel, rfl, by decide +kernel, by decide +kernel⟩
theorem cal_long {C CR : Addr} (B : Blt mg) (D : Def K mg "longest_chain" sLong) (C0 : Cal P w K mg base CX0 1 "behind_all" (spBehind C)) (C1 : Cal P w K mg base (L2.CX P w) 4 "first_order" (spFirst C CR)) : Cal P w K mg base (L2.CX P w) 5 "longest_chain" (spLong C CR) := by
  refine D.calX scLong (fun vs H Q E h => ?_) (fun _ _ _ _ _ _ us hl => match us, hl with | [_], _ => rfl) (fun f cdv A outer s H vs Q E hr h => ?_)
  · obtain ⟨_, _, _, _, rfl, _⟩ := h
    rfl
  · obtain ⟨x, W, PP, rs, rfl, hx, wf, hrs, q, qx⟩ := h
    refine ⟨_, pss_cons (ps_asg (pe_tup (pa_cons (pe_cc C0 hr (by decide) pass0 (pa_cons (pv 0) pa_nil)) (pa_cons pe_dnewK pa_nil))) (pg_tup rfl (pgs_cons (pg_name (i := 1) scLong.nd rfl (Or.inl rfl)) (pgs_cons (pg_name (i := 2) scLong.nd rfl (Or.inr rfl)) pgs_nil))))
      (pss_cons (ps_for (passes_of rfl) rfl (pi_list (pe_revL (pe_cc C1 hr (by decide) (passes_call (takes_of rfl rfl rfl rfl) (fun _ _ _ _ h => h)) (pa_cons (pv 0) pa_nil)))) (pg_name (i := 3) scLong.nd rfl (Or.inl rfl))
        (pss_one (ps_dput (Rm.u1 hr) (pv 2) (pv 3) (pe_callB (cr_max rfl) (by rfl) B.max (by decide +kernel) (pa_cons (pe_op op_cat (pe_lst (pa_cons pe_int pa_nil))
          (pe_lc (own := [("other", 7)]) (g := gName 7) (tt := tYes) rfl scLong.nd (pi_list (pe_dget (Rm.u1 hr) (pv 1) (pv 3) (fun _ _ => rfl))) (blkOk_by (N := ["wishes", "behind", "heights", "word", "found", "fit", "best", "other"]) (sc := defScope sLong) (by decide +kernel))
            (fun _ _ _ _ _ => pg_name (i := 7) scLong.nd rfl (Or.inl rfl)) (fun _ _ _ _ _ => pts_nil) (fun _ _ _ _ _ => pe_op op_add (pe_dget (Rm.u1 hr) (pv 2) (pv 7) (fun _ _ => rfl)) pe_int))) pa_nil)) rfl)))
      (pss_cons (ps_par (i := 4) (j := 5) (by rfl) scLong.nd rfl rfl (by decide) rfl rfl (pa_cons (pe_lst pa_nil) (pa_cons (pe_callTy (call_listD rfl) (by rfl) B.list (by decide +kernel) (pa_cons (pv 1) pa_nil)) pa_nil)) (by rfl))
      (pss_cons (ps_while (passes_of rfl) (pt_cmpR (op_neD hr.units) (pv 5) (pe_lst pa_nil) (nomark _))
        (pss_cons (ps_set (i := 6) scLong.nd rfl (Or.inr rfl) (pe_callB (cr_max rfl) (by rfl) B.max (by decide +kernel) (pa_cons (pe_lc (own := [("word", 3)]) (g := gName 3) (tt := tYes) rfl scLong.nd (pi_list (pv 5)) (blkOk_by (N := ["wishes", "behind", "heights", "word", "found", "fit", "best", "other"]) (sc := defScope sLong) (by decide +kernel))
            (fun _ _ _ _ _ => pg_name (i := 3) scLong.nd rfl (Or.inl rfl)) (fun _ _ _ _ _ => pts_nil) (fun _ _ _ _ _ => pe_dget (Rm.u1 hr) (pv 2) (pv 3) (fun _ _ => rfl))) pa_nil)))
        (pss_cons (ps_expr (pe_bm PySem.F.plainAttrs_list PySem.F.slot_list_append PySem.F.type_list_append mt_append (pv 4) (pa_cons (pe_ix ix_list (pe_lc (own := [("word", 3)]) (g := gName 3) rfl scLong.nd (pi_list (pv 5)) (blkOk_by (N := ["wishes", "behind", "heights", "word", "found", "fit", "best", "other"]) (sc := defScope sLong) (by decide +kernel))
            (fun _ _ _ _ _ => pg_name (i := 3) scLong.nd rfl (Or.inl rfl)) (fun _ _ _ _ _ => pts_one (pt_cmpR op_eq (pe_dget (Rm.u1 hr) (pv 2) (pv 3) (fun _ _ => rfl)) (pv 6) (nomark _))) (fun _ _ _ _ _ => pv 3)) pe_int (fun _ _ => rfl)) pa_nil)))
        (pss_one (ps_set (i := 5) scLong.nd rfl (Or.inl rfl) (pe_dget (Rm.u1 hr) (pv 1) (pe_ix ix_list (pv 4) (pe_un un_neg pe_int) (fun _ _ => rfl)) (fun _ _ => rfl)))))))
      (pss_one (ps_ret (pv 4)))))), ?_⟩
    refine ⟨_, rfl, x, W, PP, rfl, hx, wf, fun H1 d al s1 hd hd1 hb1 e he => ⟨(by show 2 ≤ sizeLine; decide), fun t ht => ⟨t, _, rfl, SqT.of upd_same, rfl, _, _, rfl, _, _, rfl, rfl, ?_⟩⟩⟩
    have s2 := s1.add he (.dK [])
    have s3 := s2.add ht (.tup [.ref d, .ref e])
    have s13 := ((Same.refl H1).add he (.dK [])).add ht (.tup [.ref d, .ref e])
    have heH : H e = none := s1.free he
    have he3 : upd (upd H1 e (.dK [])) t (.tup [.ref d, .ref e]) e = some (.dK []) := by rw [upd_ne (ne_of_none upd_same ht), upd_same]
    refine ⟨_, rfl, x, W, PP, rs, rfl, hx.same s3, wf, hrs, fun en => ?_, fun ring er => (qx ring er).same s3⟩
    obtain ⟨⟨rk, KO⟩, q⟩ := q en
    have h50 := wf.few
    refine ⟨⟨_, rk, KO.rank⟩, fun H2 l s4 hl hl2 => ⟨l, _, rfl, SqL.of hl2, fun rv hrv => ⟨rv, rfl, ⟨_, SqL.of upd_same⟩, ?_⟩⟩⟩
    have pm := WM.ord_perm KO.rank (srtS W).length (srtS W) rfl
    have bk : ∀ {A B w} (o : Str), WM.ordT PP (srtS W).length (srtS W) = A ++ w :: B → (w, o) ∈ PP → o ∈ srtS W → o ∈ B := fun {A B w} o e hp ho => WM.ord_back KO.rank ((srtS_asc wf.nd).nodup slt_lin) e hp ho
    have s5 := (Same.refl H2).add hrv (.lst ((WM.ordT PP W.length (srtS W)).map V.str).reverse)
    rw [← srtS_len W] at s5 ⊢
    have hnd : (WM.ordT PP (srtS W).length (srtS W)).Nodup := pm.nodup_iff.mpr ((srtS_asc wf.nd).nodup slt_lin)
    generalize WM.ordT PP (srtS W).length (srtS W) = ord at pm bk hnd s5 ⊢
    have hol : ord.length = W.length := by rw [pm.length_eq, srtS_len]
    rw [← List.map_reverse] at s5 ⊢
    have hrn : ord.reverse.Nodup := (List.reverse_perm ord).nodup_iff.mpr hnd
    have hrp : ord.reverse.Perm (srtS W) := (List.reverse_perm ord).trans pm
    have hrl : ord.reverse.length = W.length := by rw [List.length_reverse, hol]
    have sb := (s3.trans s4).trans s5
    have s1b := (s13.trans s4).trans s5
    have heb := s5 _ _ (s4 _ _ he3)
    generalize hHb : upd H2 rv (.lst (ord.reverse.map V.str)) = Hb at sb s1b heb ⊢
    have hrb : Hb rv = some (.lst (ord.reverse.map V.str)) := by rw [← hHb, upd_same]
    have nre : rv ≠ e := fun z => by rw [z, heb] at hrb; cases hrb
    have hdb := s1b _ _ hd1
    have hbb := hb1.same s1b
    have nde : d ≠ e := ne_of_none hd1 he
    have nae : ∀ w ∈ W, al w ≠ e := fun w hw => ne_of_none (hb1 w hw) he
    refine for_list (K := K) (a := rv) (xs := ord.reverse.map V.str) (fun i σ H' => (∃ v3, σ = [some (.ref x), some (.ref d), some (.ref e), v3, none, none, none, none]) ∧ Sm e Hb H' ∧ H' e = some (.dK (dct (ord.reverse.take i) (nmV (WM.Hf PP (srtS W).length)))))
      ⟨⟨_, rfl⟩, Sm.refl _ _, heb⟩ (fun i σ H' _ h => SqL.of (h.2.1 _ _ nre hrb)) ?_ ?_
    · rintro i y σ H3 hi3 ⟨⟨v3, rfl⟩, sm, he3⟩
      obtain ⟨wd, hwd, rfl⟩ := map_at hi3
      have hsplit : ord.reverse = ord.reverse.take i ++ wd :: ord.reverse.drop (i + 1) := by
        obtain ⟨h1, h2⟩ := List.getElem?_eq_some_iff.mp hwd
        rw [← h2, ← List.drop_eq_getElem_cons h1, List.take_append_drop]
      have hsp2 : ord = (ord.reverse.drop (i + 1)).reverse ++ wd :: (ord.reverse.take i).reverse := by
        have := congrArg List.reverse hsplit
        rw [List.reverse_reverse] at this
        refine this.trans ?_
        rw [List.reverse_append, List.reverse_cons, List.append_assoc]
        rfl
      have hwS : wd ∈ srtS W := hrp.mem_iff.mp (List.mem_of_getElem? hwd)
      have hwW := mem_srtS.mp hwS
      refine ⟨(by show 1 ≤ sizeLine; decide), fun z hz => ?_⟩
      have s6 := (Same.refl H3).add hz (.lst [V.int 0])
      have hd3 := s6 _ _ (sm _ _ nde hdb)
      have hw3 := s6 _ _ (sm _ _ (nae wd hwW) (hbb wd hwW))
      have he6 := s6 _ _ he3
      refine ⟨_, rfl, _, rfl, d, _, rfl, .inl ⟨_, kS wd, .inl hd3, rfl, (dct_in hwS).symm⟩, al wd, rfl, ⟨_, SqL.of hw3⟩, fun D hD => ?_⟩
      refine lc_fml (xs := (WM.bh (srtS W) PP wd).map V.str) (onStr fun o => some (.int (WM.Hf PP (srtS W).length o + 1))) (fun H4 s => SqL.of (s _ _ hw3)) hD ?_ (fun j u H4 hu s7 N N0 hy h0 => ?_) fun H4 s7 hD4 => ?_
      · rw [List.length_map]
        exact Nat.le_trans (List.length_filter_le _ _) (by rw [srtS_len]; omega)
      · obtain ⟨o, ho, rfl⟩ := map_at hu
        obtain ⟨hoS, hop⟩ := WM.mem_bh.mp (List.mem_of_getElem? ho)
        have hin : o ∈ ord.reverse.take i := List.mem_reverse.mp (bk o hsp2 hop hoS)
        exact ⟨rfl, _, rfl, _, rfl, e, _, rfl, .inl ⟨_, kS o, .inl (s7 _ _ he6), rfl, (dct_in hin).symm⟩, _, _, rfl, rfl, hy _ _ rfl (Same.refl _)⟩
      · rw [fm_on, fm_some, show (fun z => V.int (WM.Hf PP (srtS W).length z + 1)) = V.int ∘ fun z => WM.Hf PP (srtS W).length z + 1 from rfl, ← List.map_map] at hD4
        have hz4 := s7 _ _ (upd_same (H := H3) (a := z) (o := .lst [V.int 0]))
        refine ⟨z, D, _, _, rfl, rfl, hz4, hD4, ?_, fun g hg => ?_⟩
        · rw [List.length_map, List.length_map]
          simp only [List.length_singleton]
          have : (WM.bh (srtS W) PP wd).length ≤ 50 := Nat.le_trans (List.length_filter_le _ _) (by rw [srtS_len]; omega)
          exact Nat.le_trans (show _ ≤ 1000 by omega) (by decide)
        · refine ⟨g, (0 : Int) :: ((WM.bh (srtS W) PP wd).map fun o => WM.Hf PP (srtS W).length o + 1), rfl, SqL.of upd_same, by simp, fun m hm hge => ?_⟩
          have hm2 : m = WM.Hf PP (srtS W).length wd := by rw [WM.Hf_fix KO wd]; exact WM.mx0_eq hm hge
          have s8 := (s6.trans s7).add hg (.lst ([V.int 0] ++ ((WM.bh (srtS W) PP wd).map fun o => WM.Hf PP (srtS W).length o + 1).map V.int))
          refine ⟨_, rfl, _, rfl, e, _, rfl, .inl ⟨_, kS wd, s8 _ _ he3, rfl, ?_, rfl⟩, ⟨_, rfl⟩, ?_, ?_⟩
          · rw [dct_len]
            exact small1000 (Nat.le_trans (List.length_take_le' _ _) (by omega))
          · exact (sm.trans (Sm.of s8)).put _
          · rw [upd_same, dct_new (nd_take hrn hwd) _ (by rw [hm2]; rfl), take_more hwd]
    · rintro σ H3 ⟨⟨v3, rfl⟩, sm, he3⟩
      rw [List.length_map, List.take_length] at he3
      have hd3 := sm _ _ nde hdb
      have hb3 : Bl H3 W PP al := fun w hw => sm _ _ (nae w hw) (hbb w hw)
      have sH3 : Same H H3 := Sm.same sb sm heH
      refine ⟨Nat.zero_le _, fun g hg => ⟨_, rfl, d, _, rfl, .inl ((Same.refl H3).add hg _ _ _ hd3), fun ft hft => ⟨_, _, rfl, ?_⟩⟩⟩
      have s9 := ((Same.refl H3).add hg (.lst [])).add hft (.lst ((dct (srtS W) fun w => V.ref (al w)).map fun kv => kV kv.1))
      have ngf : g ≠ ft := ne_of_none upd_same hft
      have hgH : H g = none := sH3.free hg
      have ekeys : ((dct (srtS W) fun w => V.ref (al w)).map fun kv => kV kv.1) = (srtS W).map V.str := by
        unfold dct
        rw [List.map_map]
        rfl
      rw [ekeys] at s9 ⊢
      generalize hHc : upd (upd H3 g (.lst [])) ft (.lst ((srtS W).map V.str)) = Hc at s9 ⊢
      have hgc : Hc g = some (.lst []) := by rw [← hHc, upd_ne ngf, upd_same]
      have hfc : Hc ft = some (.lst ((srtS W).map V.str)) := by rw [← hHc, upd_same]
      have hdc := s9 _ _ hd3
      have hec := s9 _ _ he3
      have hbc := hb3.same s9
      have sHc := sH3.trans s9
      have ndg : d ≠ g := ne_of_none hd3 hg
      have neg : e ≠ g := ne_of_none he3 hg
      have nag : ∀ w ∈ W, al w ≠ g := fun w hw => ne_of_none (hb3 w hw) hg
      have hin : ∀ {z}, z ∈ srtS W → z ∈ ord.reverse := fun h => hrp.mem_iff.mpr h
      refine ⟨fun k σ H' => ∃ v3 v6 ft F found, σ = [some (.ref x), some (.ref d), some (.ref e), v3, some (.ref g), some (.ref ft), v6, none] ∧ Sm g Hc H' ∧ H' g = some (.lst (found.map V.str)) ∧ H' ft = some (.lst (F.map V.str)) ∧ ft ≠ g ∧
          (∀ z ∈ F, z ∈ srtS W ∧ WM.Hf PP (srtS W).length z < (k : Int)) ∧ F.length ≤ 50 ∧ found ++ WM.chainT (srtS W) PP k F = chT W PP ∧ found.length + k ≤ 50,
        ⟨(srtS W).length, _, _, ft, srtS W, [], rfl, Sm.refl _ _, hgc, hfc, ngf.symm, fun z hz => ⟨hz, WM.Hf_bound KO z hz⟩, by rw [srtS_len]; omega, rfl, by rw [srtS_len]; simp; omega⟩, ?_⟩
      rintro k σ H4 ⟨v3, v6, ft, F, found, rfl, sm, hg4, hf4, nfg, hF, hFl, hch, hfk⟩
      have hwF : Wds F := fun z hz => wf.wds z (mem_srtS.mp (hF z hz).1)
      refine ⟨_, rfl, Nat.zero_le _, fun e0 he0 => ?_⟩
      have s10 := (Same.refl H4).add he0 (.lst [])
      refine ⟨_, _, dp_list (s10 _ _ hf4) (all_strs hwF), .lst (SqL.of upd_same) .nil, shp_dat (all_strs hwF), shp_nil, ?_⟩
      rw [eqv_nil]
      cases hFe : F with
      | nil =>
        subst hFe
        rw [chain_nil, List.append_nil] at hch
        refine ⟨_, rfl, iteF ⟨_, rfl, q _ g (Sm.same sHc (sm.trans (Sm.of s10)) hgH) hgH ?_⟩⟩
        rw [← hch]
        exact s10 _ _ hg4
      | cons f0 F0 =>
        rw [← hFe]
        have hne : F ≠ [] := by rw [hFe]; simp
        have e0 : (!(F.map V.str).isEmpty) = true := by rw [hFe]; rfl
        rw [e0]
        obtain ⟨b0, hb0, hbest⟩ := WM.best_mem (P := PP) (n := (srtS W).length) hne
        have hk : 0 < k := by
          have h1 := (hF b0 hb0).2
          have h2 := WM.Hf_nn PP (srtS W).length b0
          omega
        obtain ⟨k, rfl⟩ : ∃ j, k = j + 1 := ⟨k - 1, by omega⟩
        have sm2 := sm.trans (Sm.of (a := g) s10)
        have hg5 := s10 _ _ hg4
        have hf5 := s10 _ _ hf4
        have hd5 := sm2 _ _ ndg hdc
        have he5 := sm2 _ _ neg hec
        refine ⟨_, rfl, iteT ⟨fun σ H' => ∃ v3 v6 ft F found, σ = [some (.ref x), some (.ref d), some (.ref e), v3, some (.ref g), some (.ref ft), v6, none] ∧ Sm g Hc H' ∧ H' g = some (.lst (found.map V.str)) ∧ H' ft = some (.lst (F.map V.str)) ∧ ft ≠ g ∧
          (∀ z ∈ F, z ∈ srtS W ∧ WM.Hf PP (srtS W).length z < (k : Int)) ∧ F.length ≤ 50 ∧ found ++ WM.chainT (srtS W) PP k F = chT W PP ∧ found.length + k ≤ 50, fun σ' H' h => ⟨k, Nat.lt_succ_self _, h⟩, ?_⟩⟩
        -- best
        refine ⟨_, rfl, ft, rfl, ⟨_, SqL.of hf5⟩, fun D hD => ?_⟩
        refine lc_fml (xs := F.map V.str) (onStr fun o => some (.int (WM.Hf PP (srtS W).length o))) (fun H4 s => SqL.of (s _ _ hf5)) hD (by rw [List.length_map]; omega) (fun j u H6 hu s11 N N0 hy h0 => ?_) fun H6 s11 hD6 => ?_
        · obtain ⟨o, ho, rfl⟩ := map_at hu
          have hoS := (hF o (List.mem_of_getElem? ho)).1
          exact ⟨rfl, _, rfl, _, rfl, e, _, rfl, .inl ⟨_, kS o, .inl (s11 _ _ he5), rfl, (dct_in (hin hoS)).symm⟩, hy _ _ rfl (Same.refl _)⟩
        · rw [fm_on, fm_some, show (fun z => V.int (WM.Hf PP (srtS W).length z)) = V.int ∘ WM.Hf PP (srtS W).length from rfl, ← List.map_map] at hD6
          refine ⟨D, F.map (WM.Hf PP (srtS W).length), rfl, SqL.of hD6, by rw [List.length_map]; exact List.length_pos_iff.mpr hne, fun m hm hge => ?_⟩
          have hmb : m = WM.best PP (srtS W).length F := by
            refine WM.mx0_eq (List.mem_cons_of_mem _ hm) fun z hz => ?_
            rcases List.mem_cons.mp hz with q | q
            · rw [q]
              obtain ⟨o, _, rfl⟩ := List.mem_map.mp hm
              exact WM.Hf_nn _ _ _
            · exact hge z q
          have hg6 := s11 _ _ hg5
          have hf6 := s11 _ _ hf5
          have he6 := s11 _ _ he5
          have hd6 := s11 _ _ hd5
          refine ⟨_, rfl, .inl ⟨rfl, _, SqL.of hg6⟩, _, rfl, ft, rfl, ⟨_, SqL.of hf6⟩, fun D2 hD2 => ?_⟩
          subst hmb
          refine lc_fml (xs := F.map V.str) (onStr fun o => if (decide (WM.Hf PP (srtS W).length o = WM.best PP (srtS W).length F)) = true then some (.str o) else none) (fun H4 s => SqL.of (s _ _ hf6)) hD2 (by rw [List.length_map]; omega) (fun j u H7 hu s12 N N0 hy h0 => ?_) fun H7 s12 hD7 => ?_
          · obtain ⟨o, ho, rfl⟩ := map_at hu
            have hoS := (hF o (List.mem_of_getElem? ho)).1
            refine ⟨rfl, _, rfl, _, rfl, e, _, rfl, .inl ⟨_, kS o, .inl (s12 _ _ he6), rfl, (dct_in (hin hoS)).symm⟩, _, rfl, rfl, _, rfl, ite2 (fun z => ?_) (fun z => ?_)⟩
            · exact ⟨_, rfl, hy _ _ (if_pos (decide_eq_true (V.int.inj (of_decide_eq_true z)))) (Same.refl _)⟩
            · exact h0 _ (if_neg fun q => z (decide_eq_true (congrArg V.int (of_decide_eq_true q)))) (Same.refl _)
          · rw [fm_on, fm_filter] at hD7
            have hfmem : ∀ z, z ∈ (F.filter fun o => decide (WM.Hf PP (srtS W).length o = WM.best PP (srtS W).length F)) → z ∈ F := fun z hz => (List.mem_filter.mp hz).1
            have hfb : b0 ∈ (F.filter fun o => decide (WM.Hf PP (srtS W).length o = WM.best PP (srtS W).length F)) := List.mem_filter.mpr ⟨hb0, decide_eq_true hbest⟩
            rw [WM.chainT] at hch
            cases hfl : (F.filter fun o => decide (WM.Hf PP (srtS W).length o = WM.best PP (srtS W).length F)) with
            | nil => rw [hfl] at hfb; cases hfb
            | cons c rest =>
              rw [hfl] at hD7 hch
              have hcF : c ∈ F := hfmem c (by rw [hfl]; exact List.mem_cons_self)
              have hcS := (hF c hcF).1
              have hcW := mem_srtS.mp hcS
              have hg7 := s12 _ _ hg6
              have hd7 := s12 _ _ hd6
              have sm7 := (sm2.trans (Sm.of s11)).trans (Sm.of s12)
              have e1 : found.map V.str ++ [V.str c] = (found ++ [c]).map V.str := by rw [List.map_append]; rfl
              have hcn : found ++ [c] ≠ [] := by simp
              have hal7 := sm7 _ _ (nag c hcW) (hbc c hcW)
              refine ⟨D2, _, 0, _, rfl, rfl, SqL.of hD7, atI_head, g, _, _, rfl, rfl, hg7, small1000 (by rw [List.length_map]; omega), ?_⟩
              rw [e1]
              refine ⟨_, rfl, _, rfl, _, rfl, g, _, _, _, rfl, rfl, SqL.of upd_same, atI_last (w := c) hcn, d, _, rfl, .inl ⟨_, kS (WM.lastD c (found ++ [c])), .inl (by rw [upd_ne ndg]; exact hd7), rfl, (dct_in (by rw [WM.lastD_snoc]; exact hcS)).symm⟩, ?_⟩
              rw [WM.lastD_snoc]
              refine ⟨_, _, al c, WM.bh (srtS W) PP c, found ++ [c], rfl, sm7.put _, upd_same, by rw [upd_ne (nag c hcW)]; exact hal7, nag c hcW, fun z hz => ?_, ?_, ?_, ?_⟩
              · obtain ⟨z1, z2⟩ := WM.mem_bh.mp hz
                have z3 := WM.Hf_lt KO z2
                have z4 := (hF c hcF).2
                exact ⟨z1, by omega⟩
              · exact Nat.le_trans (List.length_filter_le _ _) (by rw [srtS_len]; omega)
              · rw [← hch, List.append_assoc]
                rfl
              · rw [List.length_append, List.length_singleton]
                omega
end
end Lk

set_option Elab.async false
set_option linter.all false
set_option maxRecDepth 100000
set_option maxHeartbeats 4000000
namespace Lk
open PySem PySem.Spec PyProof.Rows L2
abbrev sAre : Stmt := top 24
abbrev sBreak : Stmt := top 25
/-- a thing, and whether it is a dict of numbers for the words -/
def ThingIs (K : PySem.W.Frag) (H : Hp) (th : V) (W : List Str) (b : Bool) : Prop :=
  (∃ t : Value, (∀ H', Same H H' → TyX K H' th t) ∧ PySem.W.kitOne K t (.type "dict") = some false ∧ b = false) ∨
  ∃ (d : Addr) (kvs : List (Key × V)) (res : Str → Bool), th = .ref d ∧ H d = some (.dK kvs) ∧ (∀ w ∈ W, (valV kvs (kS w) = none ∧ res w = false) ∨ ∃ v, valV kvs (kS w) = some v ∧ ∀ H', Same H H' → NatV K H' v (res w)) ∧ b = (decide (kvs.length = W.length) && W.all res)
theorem ThingIs.same {K : PySem.W.Frag} {H H1 : Hp} {th : V} {W : List Str} {b : Bool} (h : ThingIs K H th W b) (s : Same H H1) : ThingIs K H1 th W b := by
  rcases h with ⟨t, h1, h2, h3⟩ | ⟨d, kvs, res, h1, h2, h3, h4⟩
  · exact .inl ⟨t, fun H' s' => h1 H' (s.trans s'), h2, h3⟩
  · refine .inr ⟨d, kvs, res, h1, s _ _ h2, fun w hw => ?_, h4⟩
    rcases h3 w hw with q | ⟨v, q1, q2⟩
    · exact .inl q
    · exact .inr ⟨v, q1, fun H' s' => q2 H' (s.trans s')⟩
def spAre (K : PySem.W.Frag) (C : Addr) : Sp := fun vs H Q _ => ∃ (x : Addr) (th : V) (W : List Str) (PP : List (Str × Str)) (b : Bool), vs = [.ref x, th] ∧ WishAt C H x W PP ∧ Wf W PP ∧ ThingIs K H th W b ∧ ∀ H', Same H H' → Q (.bl b) H'
section
variable {P : Program} {w : World} {K : PySem.W.Frag} {mg : Str → Option Value} {base : Heap}
theorem scAre : FnScope ["wishes", "thing", "word"] ["wishes", "thing"] (defScope sAre) := ⟨rfl, rfl, rfl, by decide +kernel, rfl, by decide +kernel, by decide +kernel⟩
theorem cal_are {C : Addr} (B : Blt mg) (T : TW K C) (D : Def K mg "are_numbers" sAre) (C1 : Cal P w K mg base CX0 2 "is_natural" (spIsNat K)) : Cal P w K mg base CX0 3 "are_numbers" (spAre K C) := by
  refine D.cal scAre (fun vs H Q E h => ?_) (fun _ _ _ _ _ _ us hl => match us, hl with | [_, _], _ => rfl) (fun f cdv A outer s H vs Q E hr h => ?_)
  · obtain ⟨_, _, _, _, _, rfl, _⟩ := h
    rfl
  · obtain ⟨x, th, W, PP, b, rfl, hx, wf, ht, q⟩ := h
    refine ⟨_, pss_cons (ps_if (PW.pt (pw_or (pt_not (pt_val (pe_callB call_isi (by rfl) B.isinstance (by decide +kernel) (pa_cons (pv 1) (pa_cons (pe_bltn (v := .ty "dict") (by rfl) B.dict (by decide +kernel) rfl) pa_nil)))))
        (pw_or1 (pt_cmpR op_ne (pe_callB call_lenD (by rfl) B.len PySem.boot_len (pa_cons (pv 1) pa_nil)) (pe_callB call_len_seq (by rfl) B.len PySem.boot_len (pa_cons (pe_fld (pv 0) rfl) pa_nil)) (nomark _))))) (pss_one (ps_ret pe_bl)) pss_nil)
      (pss_one (ps_ret (pe_callB (cr_all rfl) (by rfl) B.all (by decide +kernel) (pa_cons (pe_lc (own := [("word", 2)]) (g := gName 2) (tt := tYes) rfl scAre.nd (pi_tup (pe_fld (pv 0) rfl)) (blkOk_by (N := ["wishes", "thing", "word"]) (sc := defScope sAre) (by decide +kernel))
        (fun _ _ _ _ _ => pg_name (i := 2) scAre.nd rfl (Or.inl rfl)) (fun _ _ _ _ _ => pts_nil) (fun _ _ _ _ _ => pe_and (pe_cmp (pc_din (Rm.u1 hr) (pv 2) (pv 1))) (pe_one (pe_cc C1 hr (by decide) pass0 (pa_cons (pe_dget (Rm.u1 hr) (pv 1) (pv 2) (fun _ _ => rfl)) pa_nil))))) pa_nil)))), ?_⟩
    obtain ⟨dx, tw, tp, ps, hi, htw, htp, hps⟩ := id hx
    have h50 := wf.few
    rcases ht with ⟨t, h1, h2, rfl⟩ | ⟨d, kvs, res, rfl, hd, hres, rfl⟩
    · exact ⟨_, rfl, th, .ty "dict", t, .type "dict", false, rfl, .ty _, h1 _ (Same.refl _), h2, _, rfl, iteT (iteT (q _ (Same.refl _)))⟩
    · refine ⟨_, rfl, .ref d, .ty "dict", .type "dict", .type "dict", true, rfl, .ty _, .base (.dK hd), kit_ty (by decide +kernel), _, rfl, iteF ?_⟩
      refine ⟨_, rfl, d, kvs, rfl, hd, _, rfl, x, C, dx, _, _, rfl, hi, T.cl, T.nW, wfs_words _ _, tw, _, rfl, .inr (SqT.of htw), rfl, ?_⟩
      refine ⟨_, rfl, ?_⟩
      by_cases hlen : kvs.length = W.length
      · have e1 : (!decide (V.int (kvs.length : Int) = V.int ((W.map V.str).length : Int))) = false := by rw [List.length_map, hlen]; simp
        rw [e1]
        refine iteF ⟨_, rfl, x, C, dx, _, _, rfl, hi, T.cl, T.nW, wfs_words _ _, tw, rfl, ⟨_, SqT.of htw⟩, fun D hD => ?_⟩
        refine lc_fmt (xs := W.map V.str) (onStr fun z => some (.bl (res z))) (fun H2 s => SqT.of (s _ _ htw)) hD (by rw [List.length_map]; omega) (fun i u H2 hu s2 N N0 hy h0 => ?_) fun H2 s2 hD2 => ?_
        · obtain ⟨wd, hwd, rfl⟩ := map_at hu
          refine ⟨rfl, _, rfl, _, rfl, d, _, rfl, .inl ⟨_, kS wd, .inl (s2 _ _ hd), rfl, rfl⟩, ?_⟩
          rcases hres wd (List.mem_of_getElem? hwd) with ⟨e2, e3⟩ | ⟨v, e2, e3⟩
          · rw [e2]
            exact ⟨_, rfl, iteF (hy _ _ (by rw [← e3]; rfl) (Same.refl _))⟩
          · rw [e2]
            exact ⟨_, rfl, iteT ⟨_, rfl, _, rfl, d, v, rfl, .inl ⟨_, kS wd, .inl (s2 _ _ hd), rfl, e2.symm⟩, v, res wd, rfl, e3 H2 s2, hy _ _ rfl (Same.refl _)⟩⟩
        · rw [fm_on, fm_some, show (fun z => V.bl (res z)) = V.bl ∘ res from rfl, ← List.map_map] at hD2
          refine ⟨D, W.map res, rfl, SqL.of hD2, ?_⟩
          have e4 : ((W.map res).all id) = (decide (kvs.length = W.length) && W.all res) := by
            rw [List.all_map, decide_eq_true hlen, Bool.true_and]
            rfl
          rw [e4]
          exact q _ s2
      · have e1 : (!decide (V.int (kvs.length : Int) = V.int ((W.map V.str).length : Int))) = true := by
          rw [List.length_map, decide_eq_false (fun z => hlen (by have := V.int.inj z; omega))]
          rfl
        rw [e1]
        have e2 : (decide (kvs.length = W.length) && W.all res) = false := by rw [decide_eq_false hlen, Bool.false_and]
        rw [e2] at q
        exact iteT (q _ (Same.refl _))
end
end Lk

set_option Elab.async false
set_option linter.all false
set_option maxRecDepth 100000
set_option maxHeartbeats 4000000
namespace Lk
open PySem PySem.Spec PyProof.Rows L2
theorem cutV_lo (xs : List V) (n : Nat) : cutV xs none (some (n : Int)) = xs.take n := by
  unfold cutV
  rw [HT.sIx_none, HT.sIx_nat, List.drop_zero, Nat.sub_zero]
  rcases Nat.le_total n xs.length with h | h
  · rw [Nat.min_eq_left h]
  · rw [Nat.min_eq_right h, List.take_length, List.take_of_length_le h]
theorem cutV_hi (xs : List V) (n : Nat) : cutV xs (some (n : Int)) none = xs.drop n := by
  unfold cutV
  rw [HT.sIx_none, HT.sIx_nat]
  rcases Nat.le_total n xs.length with h | h
  · rw [Nat.min_eq_left h]
    exact List.take_of_length_le (by rw [List.length_drop]; exact Nat.le_refl _)
  · rw [Nat.min_eq_right h, List.drop_length, List.drop_of_length_le h]
    simp
theorem cutV_lo1 (xs : List V) (n : Nat) : cutV xs none (some ((n : Int) + 1)) = xs.take (n + 1) := cutV_lo xs (n + 1)
theorem cutV_hi1 (xs : List V) (n : Nat) : cutV xs (some ((n : Int) + 1)) none = xs.drop (n + 1) := cutV_hi xs (n + 1)
theorem idx_at {w : Str} : ∀ {L : List Str}, w ∈ L → L[L.idxOf w]? = some w ∧ ∀ m, m < L.idxOf w → L[m]? ≠ some w
  | x :: L, h => by
    by_cases e : x = w
    · rw [e, WM.ix_self]
      exact ⟨rfl, fun m hm => by omega⟩
    · rw [WM.ix_ne _ e]
      obtain ⟨h1, h2⟩ := idx_at ((List.mem_cons.mp h).resolve_left fun z => e z.symm)
      refine ⟨h1, fun m hm => ?_⟩
      cases m with
      | zero => exact fun q => e (Option.some.inj q)
      | succ m => exact h2 m (by omega)
theorem idx_no {L : List Str} {w : Str} {j : Nat} (h : ∀ m, m < j → L[m]? ≠ some w) : ∀ (m : Nat) (z' : V), m < j → (L.map V.str)[m]? = some z' → eqV z' (.str w) = false := fun m z hm hz => by
  obtain ⟨y, hy, rfl⟩ := map_at hz
  show (y == w) = false
  exact beq_eq_false_iff_ne.mpr fun e => h m hm (by rw [hy, e])
theorem idx_ans {K : PySem.W.Frag} {H : Hp} {a : Addr} {L : List Str} {w : Str} {Q : VK} (h : SqL K H a (L.map V.str)) (hw : w ∈ L) (q : Q (.int (L.idxOf w : Nat)) H) : rIndex K (.ref a) [.str w] H Q := by
  obtain ⟨h1, h2⟩ := idx_at hw
  refine ⟨a, _, .str w, L.idxOf w, .str w, rfl, rfl, h, rfl, flat_strs _, by rw [List.getElem?_map, h1]; rfl, beq_self_eq_true w, fun m z hm hz => ?_, q⟩
  obtain ⟨y, hy, rfl⟩ := map_at hz
  show (y == w) = false
  exact beq_eq_false_iff_ne.mpr fun e => h2 m hm (by rw [hy, e])
/-- BadNumbers(thing) goes out -/
def NmX (CN : Addr) (E : XK) (H : Hp) (th : V) : Prop := ∀ H' dd, Same H H' → H' dd = some (.xd [(("thing" : Str), th)]) → E (.ref CN) (some dd) H'
/-- what the dict at d says of the words -/
def NumsAt (H : Hp) (d : Addr) (W : List Str) (N : Str → Int) : Prop := ∃ kvs, H d = some (.dK kvs) ∧ ∀ w ∈ W, valV kvs (kS w) = some (.int (N w))
theorem NumsAt.same {H H' : Hp} {d : Addr} {W : List Str} {N : Str → Int} (h : NumsAt H d W N) (s : Same H H') : NumsAt H' d W N := by
  obtain ⟨kvs, h1, h2⟩ := h
  exact ⟨kvs, s _ _ h1, h2⟩
theorem NumsAt.get {H : Hp} {d : Addr} {W : List Str} {N : Str → Int} {w : Str} (h : NumsAt H d W N) (hw : w ∈ W) : DGet H d (.str w) (some (.int (N w))) := by
  obtain ⟨kvs, h1, h2⟩ := h
  exact .inl ⟨kvs, kS w, .inl h1, rfl, (h2 w hw).symm⟩
/-- in the loop: the rows that told so far at g -/
def BrkI (H : Hp) (x d l g : Addr) (W : List Str) (PP : List (Str × Str)) (N : Str → Int) (i : Nat) (σ : L2.St) (H' : Hp) : Prop := ∃ (v4 v5 v6 v7 : Option V) (ls : List Addr), σ = [some (.ref x), some (.ref d), some (.ref l), some (.ref g), v4, v5, v6, v7, none] ∧ Same H H' ∧ H' l = some (.lst ((srtS W).map V.str)) ∧
  H' g = some (.lst (ls.map V.ref)) ∧ Rws H' ls ((PP.take i).filterMap (WM.brk1 slt N (srtS W))) ∧ g ∉ ls ∧ ls.length ≤ i
def spBreak (K : PySem.W.Frag) (C CR CN : Addr) : Sp := fun vs H Q E => ∃ (x : Addr) (th : V) (W : List Str) (PP : List (Str × Str)) (rs : Str → Option (List Str)), vs = [.ref x, th] ∧ WishAt C H x W PP ∧ Wf W PP ∧ RingsAt W PP rs ∧
  (WM.wishRing rs (srtS W) = none → ∃ b, ThingIs K H th W b ∧ (b = false → NmX CN E H th) ∧ (b = true → ∃ (d : Addr) (N : Str → Int), th = .ref d ∧ NumsAt H d W N ∧
    (WM.told slt N (srtS W) PP = [] → ∀ H', Same H H' → Q .non H') ∧ ∀ H' a r, Same H H' → r ∈ WM.told slt N (srtS W) PP → (∀ y ∈ WM.told slt N (srtS W) PP, WM.llt slt y r = false) → H' a = some (.lst (r.map .str)) → Q (.ref a) H')) ∧
  ∀ ring, WM.wishRing rs (srtS W) = some ring → RgX CR E H ring
section
variable {P : Program} {w : World} {K : PySem.W.Frag} {mg : Str → Option Value} {base : Heap}
theorem scBreak : FnScope ["wishes", "numbers", "plain", "found", "one", "other", "rest", "at", "word"] ["wishes", "numbers"] (defScope sBreak) := ⟨rfl, rfl, rfl, by decide +kernel, rfl, by decide +kernel, by decide +kernel⟩
theorem cal_break {C CR CN : Addr} (B : Blt mg) (T : TW K C) (D : Def K mg "breaking_line" sBreak) (C1 : Cal P w K mg base (L2.CX P w) 3 "check_ringless" (spCheck C CR)) (C2 : Cal P w K mg base CX0 3 "are_numbers" (spAre K C)) (EN : Err P w K mg base "BadNumbers" "thing" CN) :
    Cal P w K mg base (L2.CX P w) 4 "breaking_line" (spBreak K C CR CN) := by
  refine D.calX scBreak (fun vs H Q E h => ?_) (fun _ _ _ _ _ _ us hl => match us, hl with | [_, _], _ => rfl) (fun f cdv A outer s H vs Q E hr h => ?_)
  · obtain ⟨_, _, _, _, _, rfl, _⟩ := h
    rfl
  · obtain ⟨x, th, W, PP, rs, rfl, hx, wf, hrs, q, qx⟩ := h
    obtain ⟨fI, fd, F1, iC, tI, hb⟩ := EN.init
    refine ⟨_, pss_cons (ps_expr (pe_cc C1 hr (by decide) (passes_call (takes_of rfl rfl rfl rfl) (fun _ _ _ _ h => h)) (pa_cons (pv 0) pa_nil)))
      (pss_cons (ps_if (pt_not (pt_val (pe_cc C2 hr (by decide) pass0 (pa_cons (pv 0) (pa_cons (pv 1) pa_nil))))) (pss_one (ps_raise rfl (takes_of rfl rfl rfl rfl) (pmk_oex EN.oex iC tI F1 (hr.mono (by decide)) hb .nil (fun _ _ _ _ _ _ _ h => h.elim) rfl EN.gC (pa_cons (pv 1) pa_nil)))) pss_nil)
      (pss_cons (ps_par (i := 2) (j := 3) (by rfl) scBreak.nd rfl rfl (by decide) rfl rfl (pa_cons (pe_callB (cr_sortedW rfl) (by rfl) B.sorted (by decide +kernel) (pa_cons (pe_fld (pv 0) rfl) pa_nil)) (pa_cons (pe_lst pa_nil) pa_nil)) (by rfl))
      (pss_cons (ps_for (passes_of rfl) rfl (pi_tup (pe_fld (pv 0) rfl)) (pg_tup rfl (pgs_cons (pg_name (i := 4) scBreak.nd rfl (Or.inr rfl)) (pgs_cons (pg_name (i := 5) scBreak.nd rfl (Or.inl rfl)) pgs_nil)))
        (pss_one (ps_if (PW.pt (pw_or (pt_cmpR op_gt (pe_dget (Rm.u1 hr) (pv 1) (pv 4) (fun _ _ => rfl)) (pe_dget (Rm.u1 hr) (pv 1) (pv 5) (fun _ _ => rfl)) (nomark _))
            (pw_or1 (PW.pt (pw_and (pt_cmpR op_eq (pe_dget (Rm.u1 hr) (pv 1) (pv 4) (fun _ _ => rfl)) (pe_dget (Rm.u1 hr) (pv 1) (pv 5) (fun _ _ => rfl)) (nomark _)) (pw_and1 (pt_cmpR op_lt_str (pv 5) (pv 4) (nomark _))))))))
          (pss_one (ps_expr (pe_bm PySem.F.plainAttrs_list PySem.F.slot_list_append PySem.F.type_list_append mt_append (pv 3) (pa_cons (pv 2) pa_nil))))
          (pss_one (ps_if (pt_cmpR op_eq (pe_dget (Rm.u1 hr) (pv 1) (pv 4) (fun _ _ => rfl)) (pe_dget (Rm.u1 hr) (pv 1) (pv 5) (fun _ _ => rfl)) (nomark _))
            (pss_cons (ps_setLc (i := 6) (own := [("word", 8)]) (g := gName 8) rfl scBreak.nd rfl rfl (sw_true rfl rfl rfl (by decide +kernel)) (pi_list (pv 2)) (blkOk_by (N := ["wishes", "numbers", "plain", "found", "one", "other", "rest", "at", "word"]) (sc := defScope sBreak) (by decide +kernel))
              (fun _ _ _ _ _ => pg_name (i := 8) scBreak.nd rfl (Or.inl rfl)) (fun _ _ _ _ _ => pts_one (pt_cmpR op_ne (pv 8) (pv 4) (nomark _))) (fun _ _ _ _ _ => pv 8))
            (pss_cons (ps_set (i := 7) scBreak.nd rfl (Or.inl rfl) (pe_op op_add (pe_bm PySem.F.plainAttrs_list PySem.F.slot_list_index PySem.F.type_list_index mt_index (pv 6) (pa_cons (pv 5) pa_nil)) pe_int))
            (pss_one (ps_expr (pe_bm PySem.F.plainAttrs_list PySem.F.slot_list_append PySem.F.type_list_append mt_append (pv 3) (pa_cons (pe_op op_cat (pe_op op_cat (pe_slice sl_list (pv 6) po_none (po_some (pv 7))) (pe_lst (pa_cons (pv 4) pa_nil))) (pe_slice sl_list (pv 6) (po_some (pv 7)) po_none)) pa_nil)))))) pss_nil)))))
      (pss_one (ps_ret (pe_ifExp (pt_cmpR (op_neD hr.units) (pv 3) (pe_lst pa_nil) (nomark _)) (pe_callB (cr_minL rfl (Rm.u65 hr)) (by rfl) B.min (by decide +kernel) (pa_cons (pv 3) pa_nil)) pe_non)))))), ?_⟩
    obtain ⟨dx, tw, tp, ps, hi, htw, htp, hps⟩ := id hx
    have h50 := wf.few
    have h64 := few64 wf
    refine ⟨_, rfl, x, W, PP, rs, rfl, hx, wf, hrs, fun en H1 s1 => ?_, qx⟩
    obtain ⟨b, hth, hbad, hgood⟩ := q en
    refine ⟨_, rfl, _, rfl, x, th, W, PP, b, rfl, hx.same s1, wf, hth.same s1, fun H2 s2 => ?_⟩
    have s12 := s1.trans s2
    cases b with
    | false =>
      refine ⟨_, rfl, iteT ?_⟩
      exact mk_ans (H1 := H2) (y := th) EN.oex EN.no (fun R h => ⟨_, rfl, h⟩) fun H' dd s3 hn hdd => hbad rfl H' dd (s12.trans s3) hdd
    | true =>
      obtain ⟨d, N, rfl, hN, qn, qs⟩ := hgood rfl
      refine ⟨_, rfl, iteF ?_⟩
      refine ⟨_, rfl, x, C, dx, _, _, rfl, s12 _ _ hi, T.cl, T.nW, wfs_words _ _, tw, W, rfl, .inr (SqT.of (s12 _ _ htw)), h64, wf.nd, fun l hl => ⟨Nat.zero_le _, fun g hg => ⟨_, _, rfl, ?_⟩⟩⟩
      have sl := s12.add hl (.lst ((srtS W).map V.str))
      have sg := sl.add hg (.lst [])
      have nlg : l ≠ g := ne_of_none upd_same hg
      have hgH : H g = none := sl.free hg
      have hndS : (srtS W).Nodup := (srtS_asc wf.nd).nodup slt_lin
      refine ⟨_, rfl, x, C, dx, _, _, rfl, sg _ _ hi, T.cl, T.nP, wfs_pairs _ _, tp, rfl, ⟨_, SqT.of (sg _ _ htp)⟩, ?_⟩
      have wdS : ∀ r ∈ WM.told slt N (srtS W) PP, ∀ z ∈ r, z ∈ W := fun r hr z hz => by
        obtain ⟨p, hp, e⟩ := List.mem_filterMap.mp hr
        unfold WM.brk1 at e
        split at e
        · rw [← Option.some.inj e] at hz
          exact mem_srtS.mp hz
        · split at e
          · rw [← Option.some.inj e] at hz
            obtain ⟨m1, m2, m3⟩ := wf.mem p hp
            have := (WM.lineOf_perm (S := srtS W) (o := p.1) (t := p.2) hndS (mem_srtS.mpr m1)).mem_iff.mp hz
            exact mem_srtS.mp this
          · cases e
      refine for_it (walk_tup (K := K) (a := tp) (xs := ps.map V.ref)) (BrkI H x d l g W PP N)
        ⟨_, _, _, _, [], rfl, sg, by rw [upd_ne nlg, upd_same], upd_same, .nil, by simp, Nat.le_refl _⟩ (fun i σ H' _ ⟨_, _, _, _, _, _, h, _⟩ => SqT.of (h _ _ htp)) ?_ ?_
      · rintro i y σ _ H3 hi3 ⟨v4, v5, v6, v7, ls, rfl, s3, hl3, hg3, hrw, hgl, hll⟩ ⟨rfl, hy⟩
        obtain ⟨t, ht, rfl⟩ := map_at hy
        obtain ⟨p, hp, hr2⟩ := Paired.at' hps ht
        obtain ⟨m1, m2, m3⟩ := wf.mem p (List.mem_of_getElem? hp)
        have ht3 := s3 _ _ hr2
        have hN3 := hN.same s3
        have hi60 : i < 60 := by
          rw [List.length_map, hps.len] at hi3
          have := wf.fewP
          omega
        have hnew : (PP.take (i + 1)).filterMap (WM.brk1 slt N (srtS W)) = (PP.take i).filterMap (WM.brk1 slt N (srtS W)) ++ [p].filterMap (WM.brk1 slt N (srtS W)) := by rw [take_more hp, List.filterMap_append]
        have D1 : DGet H3 d (.str p.1) (some (.int (N p.1))) := hN3.get m1
        have D2 : DGet H3 d (.str p.2) (some (.int (N p.2))) := hN3.get m2
        have app : ∀ (H4 : Hp) (a : Addr) (r : List Str) (v4 v5 v6 v7 : Option V), Same H3 H4 → H4 a = some (.lst (r.map .str)) → a ≠ g → WM.brk1 slt N (srtS W) p = some r →
            BrkI H x d l g W PP N (i + 1) [some (.ref x), some (.ref d), some (.ref l), some (.ref g), v4, v5, v6, v7, none] (upd H4 g (.lst (ls.map V.ref ++ [.ref a]))) := fun H4 a r v4 v5 v6 v7 s4 ha nag hbk => by
          refine ⟨v4, v5, v6, v7, ls ++ [a], rfl, fun b o e => ?_, ?_, ?_, ?_, ?_, ?_⟩
          · rw [upd_ne (ne_of_none e hgH)]
            exact s4 _ _ (s3 _ _ e)
          · rw [upd_ne nlg]
            exact s4 _ _ hl3
          · rw [upd_same, List.map_append]
            rfl
          · rw [hnew, List.filterMap_cons, hbk]
            refine rws_snoc (rws_sm hrw (x := g) ((Sm.of s4).put _) hgl) ?_
            rw [upd_ne nag]
            exact ha
          · exact fun z => (List.mem_append.mp z).elim hgl fun q => nag (List.mem_singleton.mp q).symm
          · rw [List.length_append, List.length_singleton]
            omega
        refine ⟨t, _, rfl, SqT.of ht3, rfl, _, _, rfl, _, _, rfl, rfl, ?_⟩
        have sm60 : (ls.map V.ref).length < sizeLine := small1000 (by rw [List.length_map]; omega)
        refine ⟨_, rfl, _, rfl, d, _, rfl, D1, _, rfl, _, rfl, d, _, rfl, D2, _, _, rfl, rfl, ?_⟩
        by_cases c1 : N p.2 < N p.1
        · have hbk : WM.brk1 slt N (srtS W) p = some (srtS W) := if_pos (.inl c1)
          exact ⟨true, congrArg V.bl (decide_eq_true c1), iteT (iteT ⟨_, rfl, .inl ⟨rfl, _, SqL.of hg3⟩, _, rfl, g, _, _, rfl, rfl, hg3, sm60, app H3 l (srtS W) _ _ _ _ (Same.refl _) hl3 nlg hbk⟩)⟩
        · refine ⟨false, congrArg V.bl (decide_eq_false c1), iteF ?_⟩
          refine ⟨_, rfl, _, rfl, d, _, rfl, D1, _, rfl, _, rfl, d, _, rfl, D2, rfl, ?_⟩
          by_cases c2 : N p.1 = N p.2
          · refine ⟨true, congrArg V.bl (decide_eq_true (congrArg V.int c2)), iteT ⟨_, rfl, _, rfl, _, _, rfl, rfl, ?_⟩⟩
            by_cases c3 : slt p.2 p.1 = true
            · have hbk : WM.brk1 slt N (srtS W) p = some (srtS W) := if_pos (.inr ⟨c2, c3⟩)
              exact ⟨true, congrArg V.bl c3, iteT ⟨_, rfl, .inl ⟨rfl, _, SqL.of hg3⟩, _, rfl, g, _, _, rfl, rfl, hg3, sm60, app H3 l (srtS W) _ _ _ _ (Same.refl _) hl3 nlg hbk⟩⟩
            · have c3' : slt p.2 p.1 = false := by simpa using c3
              have hbk : WM.brk1 slt N (srtS W) p = some (WM.lineOf p.1 p.2 (srtS W)) := by
                unfold WM.brk1
                rw [if_neg (fun z => z.elim (fun q => c1 q) fun q => c3 q.2), if_pos c2]
              refine ⟨false, congrArg V.bl c3', iteF ?_⟩
              refine ⟨_, rfl, _, rfl, d, _, rfl, D1, _, rfl, _, rfl, d, _, rfl, D2, rfl, true, congrArg V.bl (decide_eq_true (congrArg V.int c2)), iteT ?_⟩
              refine ⟨_, rfl, l, rfl, ⟨_, SqL.of hl3⟩, fun E1 hE1 => ?_⟩
              refine lc_fml (xs := (srtS W).map V.str) (onStr fun z => if (decide (z ≠ p.1)) = true then some (.str z) else none) (fun H2 s => SqL.of (s _ _ hl3)) hE1 (by rw [List.length_map, srtS_len]; omega) (fun j u H4 hu s4 N1 N0 hy h0 => ?_) fun H4 s4 hE4 => ?_
              · obtain ⟨z, hz, rfl⟩ := map_at hu
                refine ⟨rfl, _, rfl, _, rfl, rfl, ?_⟩
                by_cases e : z = p.1
                · exact ⟨false, by rw [e]; simp, iteF (h0 _ (if_neg (by simp [e])) (Same.refl _))⟩
                · exact ⟨true, by simp [e], iteT ⟨_, rfl, hy _ _ (if_pos (decide_eq_true e)) (Same.refl _)⟩⟩
              · rw [fm_on, fm_filter] at hE4
                have hin : p.2 ∈ (srtS W).filter fun z => decide (z ≠ p.1) := List.mem_filter.mpr ⟨mem_srtS.mpr m2, decide_eq_true m3.symm⟩
                have hcut : WM.lineOf p.1 p.2 (srtS W) = _ := WM.behindT_cut hin
                have hrl : ((srtS W).filter fun z => decide (z ≠ p.1)).length ≤ 50 := Nat.le_trans (List.length_filter_le _ _) (by rw [srtS_len]; omega)
                generalize ((srtS W).filter fun z => decide (z ≠ p.1)) = rest at hE4 hin hcut hrl
                refine ⟨_, rfl, .inl ⟨rfl, _, SqL.of hE4⟩, _, rfl, ?_⟩
                obtain ⟨ix1, ix2⟩ := idx_at hin
                refine ⟨E1, _, .str p.2, rest.idxOf p.2, .str p.2, rfl, rfl, SqL.of hE4, rfl, flat_strs _, by rw [List.getElem?_map, ix1]; rfl, beq_self_eq_true p.2, idx_no ix2, _, _, rfl, rfl, ?_⟩
                have hg4 := s4 _ _ hg3
                refine ⟨_, rfl, .inl ⟨rfl, _, SqL.of hg4⟩, _, rfl, _, rfl, _, rfl, E1, _, rfl, SqL.of hE4, fun p1 hp1 => ⟨_, rfl, (by show 1 ≤ sizeLine; decide), fun p2 hp2 => ?_⟩⟩
                have t1 := (Same.refl H4).add hp1 (.lst (cutV (rest.map V.str) none (some ((rest.idxOf p.2 : Nat) + 1 : Int))))
                have t2 := t1.add hp2 (.lst [V.str p.1])
                have k1 : upd (upd H4 p1 (.lst (cutV (rest.map V.str) none (some ((rest.idxOf p.2 : Nat) + 1 : Int))))) p2 (.lst [V.str p.1]) p1 = some (.lst (cutV (rest.map V.str) none (some ((rest.idxOf p.2 : Nat) + 1 : Int)))) := by rw [upd_ne (ne_of_none upd_same hp2), upd_same]
                have z1 := cutV_length (rest.map V.str) none (some ((rest.idxOf p.2 : Nat) + 1 : Int))
                have z2 := cutV_length (rest.map V.str) (some ((rest.idxOf p.2 : Nat) + 1 : Int)) none
                rw [List.length_map] at z1 z2
                have big : (1000 : Nat) ≤ sizeLine := by decide
                refine ⟨p1, p2, _, _, rfl, rfl, k1, upd_same, Nat.le_trans (by simp only [List.length_singleton]; omega) big, fun p3 hp3 => ?_⟩
                have t3 := t2.add hp3 (.lst (cutV (rest.map V.str) none (some ((rest.idxOf p.2 : Nat) + 1 : Int)) ++ [V.str p.1]))
                refine ⟨_, rfl, _, rfl, _, rfl, E1, _, rfl, SqL.of (t3 _ _ hE4), fun p4 hp4 => ?_⟩
                have t4 := t3.add hp4 (.lst (cutV (rest.map V.str) (some ((rest.idxOf p.2 : Nat) + 1 : Int)) none))
                refine ⟨p3, p4, _, _, rfl, rfl, by rw [upd_ne (ne_of_none upd_same hp4), upd_same], upd_same, Nat.le_trans (by simp only [List.length_append, List.length_singleton]; omega) big, fun p5 hp5 => ?_⟩
                have t5 := t4.add hp5 (.lst (cutV (rest.map V.str) none (some ((rest.idxOf p.2 : Nat) + 1 : Int)) ++ [V.str p.1] ++ cutV (rest.map V.str) (some ((rest.idxOf p.2 : Nat) + 1 : Int)) none))
                have er : cutV (rest.map V.str) none (some ((rest.idxOf p.2 : Nat) + 1 : Int)) ++ [V.str p.1] ++ cutV (rest.map V.str) (some ((rest.idxOf p.2 : Nat) + 1 : Int)) none = (WM.lineOf p.1 p.2 (srtS W)).map V.str := by
                  rw [hcut, cutV_lo1, cutV_hi1, List.map_append, List.map_cons, List.map_take, List.map_drop, List.append_assoc]
                  rfl
                have hg5 := t5 _ _ hg4
                have n5 : p5 ≠ g := (ne_of_none (t4 _ _ hg4) hp5).symm
                refine ⟨g, _, _, rfl, rfl, hg5, sm60, app _ p5 (WM.lineOf p.1 p.2 (srtS W)) _ _ _ _ (s4.trans t5) ?_ n5 hbk⟩
                rw [← er]
                exact upd_same
          · have hbk : WM.brk1 slt N (srtS W) p = none := by
              unfold WM.brk1
              rw [if_neg (fun z => z.elim (fun q => c1 q) fun q => c2 q.1), if_neg c2]
            refine ⟨false, congrArg V.bl (decide_eq_false fun z => c2 (V.int.inj z)), iteF (iteF ⟨_, rfl, _, rfl, d, _, rfl, D1, _, rfl, _, rfl, d, _, rfl, D2, rfl, false, congrArg V.bl (decide_eq_false fun z => c2 (V.int.inj z)), iteF ⟨_, _, _, _, ls, rfl, s3, hl3, hg3, by rw [hnew, List.filterMap_cons, hbk]; simpa using hrw, hgl, by omega⟩⟩)⟩
      · rintro σ H3 ⟨v4, v5, v6, v7, ls, rfl, s3, hl3, hg3, hrw, hgl, hll⟩
        have eL : PP.take (ps.map V.ref).length = PP := by rw [List.length_map, hps.len, List.take_length]
        rw [eL] at hrw
        change Rws H3 ls (WM.told slt N (srtS W) PP) at hrw
        refine ⟨_, rfl, Nat.zero_le _, fun e he => ?_⟩
        have s4 := (Same.refl H3).add he (.lst [])
        have hrw4 : Rws (upd H3 e (.lst [])) ls (WM.told slt N (srtS W) PP) := rws_sm hrw (x := e) (Sm.of s4) fun z => by
          obtain ⟨r, hr⟩ := rws_at hrw z
          rw [hr] at he
          cases he
        refine ⟨_, _, .lst (SqL.of (s4 _ _ hg3)) (dp_rows hrw4), .lst (SqL.of upd_same) .nil, shp_rows wf.wds wdS, shp_nil, ?_⟩
        rw [eqv_nil]
        refine ⟨_, rfl, ?_⟩
        cases ht : WM.told slt N (srtS W) PP with
        | nil => exact iteF (qn ht _ (s3.trans s4))
        | cons r0 rs0 =>
          rw [← ht]
          have e1 : (!(WM.told slt N (srtS W) PP).isEmpty) = true := by rw [ht]; rfl
          rw [e1]
          refine iteT ⟨_, rfl, g, ls, _, rfl, s4 _ _ hg3, hrw4, by rw [ht]; simp, fun i a r ha hr0 hmin => ?_⟩
          obtain ⟨r', h1, h2⟩ := Paired.at' hrw4 ha
          have e2 : r' = r := Option.some.inj (h1.symm.trans hr0)
          rw [e2] at h2
          exact qs _ a r (s3.trans s4) (List.mem_of_getElem? hr0) hmin h2
end
end Lk

set_option Elab.async false
set_option linter.all false
set_option maxRecDepth 100000
set_option maxHeartbeats 4000000
namespace Lk
open PySem PySem.Spec PyProof.Rows L2
abbrev sRows : Stmt := top 33
theorem more_len (S row : List Str) : (WM.more S row).length ≤ S.length := by
  unfold WM.more
  rw [List.length_map]
  exact List.length_filter_le _ _
theorem flat_len {α β : Type} (f : α → List β) (n : Nat) (h : ∀ x, (f x).length ≤ n) : ∀ l : List α, (l.flatMap f).length ≤ l.length * n
  | [] => by simp
  | x :: l => by
    rw [List.flatMap_cons, List.length_append, List.length_cons, Nat.succ_mul]
    have := flat_len f n h l
    have := h x
    omega
theorem rows_len {S : List Str} (hS : S.length ≤ 5) : ∀ k, (WM.rowsT S k).length ≤ 5 ^ k
  | 0 => Nat.le_refl _
  | k + 1 => by
    have h1 := flat_len (WM.more S) 5 (fun x => Nat.le_trans (more_len S x) hS) (WM.rowsT S k)
    have h2 := Nat.mul_le_mul_right 5 (rows_len hS k)
    exact Nat.le_trans h1 (by rw [Nat.pow_succ]; exact h2)
theorem rws_at2 {H : Hp} {ls : List Addr} {rows : List (List Str)} (h : Rws H ls rows) {a : Addr} (ha : a ∈ ls) : ∃ r ∈ rows, H a = some (.lst (r.map .str)) := by
  induction h with
  | nil => cases ha
  | cons r t ih =>
    rcases List.mem_cons.mp ha with e | e
    · rw [e]; exact ⟨_, List.mem_cons_self, r⟩
    · obtain ⟨r, h1, h2⟩ := ih e
      exact ⟨r, List.mem_cons_of_mem _ h1, h2⟩
theorem rws_app {H : Hp} {ls ms : List Addr} {rows rows' : List (List Str)} (h : Rws H ls rows) (h' : Rws H ms rows') : Rws H (ls ++ ms) (rows ++ rows') := by
  induction h with
  | nil => exact h'
  | cons r t ih => exact .cons r ih
def spRows (K : PySem.W.Frag) : Sp := fun vs H Q _ => ∃ (a : Addr) (W : List Str) (k : Nat), vs = [.ref a, .int (k : Int)] ∧ H a = some (.lst (W.map V.str)) ∧ W.Nodup ∧ W.length ≤ 5 ∧ k ≤ 5 ∧
  ∀ H' l ls, Same H H' → H l = none → H' l = some (.lst (ls.map V.ref)) → Rws H' ls (WM.rowsT (srtS W) k) → Q (.ref l) H'
theorem fm_more (S row : List Str) : ∀ L : List Str, (L.filterMap fun z => if z ∈ row then none else some (row ++ [z])) = (L.filter fun w => decide (w ∉ row)).map fun w => row ++ [w]
  | [] => rfl
  | z :: L => by
    rw [List.filterMap_cons, List.filter_cons, fm_more S row L]
    by_cases h : z ∈ row
    · rw [if_pos h, if_neg (by simp [h])]
    · rw [if_neg h, if_pos (by simp [h])]
      rfl
section
variable {P : Program} {w : World} {K : PySem.W.Frag} {mg : Str → Option Value} {base : Heap}
theorem scRows : FnScope ["_law_words", "_law_many", "_law_found", "_law_k", "_law_longer", "_law_row", "_law_word"] ["_law_words", "_law_many"] (defScope sRows) := ⟨rfl, rfl, rfl, by decide +kernel, rfl, by decide +kernel, by decide +kernel⟩
theorem cal_rows (B : Blt mg) (D : Def K mg "_law_rows" sRows) : Cal P w K mg base CX0 1 "_law_rows" (spRows K) := by
  refine D.cal scRows (fun vs H Q E h => ?_) (fun _ _ _ _ _ _ us hl => match us, hl with | [_, _], _ => rfl) (fun f cdv A outer s H vs Q E hr h => ?_)
  · obtain ⟨_, _, _, rfl, _⟩ := h
    rfl
  · obtain ⟨a, W, k, rfl, ha, nd, h5, hk, q⟩ := h
    refine ⟨_, pss_cons (ps_set (i := 2) scRows.nd rfl (Or.inl rfl) (pe_lst (pa_cons (pe_lst pa_nil) pa_nil)))
      (pss_cons (ps_for PassesOwn.never rfl (pi_range1 (by rfl) B.range (pa_cons (pv 1) pa_nil)) (pg_name (i := 3) scRows.nd rfl (Or.inl rfl))
        (pss_cons (ps_set (i := 4) scRows.nd rfl (Or.inl rfl) (pe_lst pa_nil))
        (pss_cons (ps_for PassesOwn.never rfl (pi_list (pv 2)) (pg_name (i := 5) scRows.nd rfl (Or.inr rfl))
          (pss_one (ps_expr (pe_bm PySem.F.plainAttrs_list PySem.F.slot_list_extend PySem.F.type_list_extend mt_extend (pv 4) (pa_cons (pe_lc (own := [("_law_word", 6)]) (g := gName 6) rfl scRows.nd (pi_list (pe_callB (cr_sortedW rfl) (by rfl) B.sorted (by decide +kernel) (pa_cons (pv 0) pa_nil))) (blkOk_by (N := ["_law_words", "_law_many", "_law_found", "_law_k", "_law_longer", "_law_row", "_law_word"]) (sc := defScope sRows) (by decide +kernel))
            (fun _ _ _ _ _ => pg_name (i := 6) scRows.nd rfl (Or.inl rfl)) (fun _ _ _ _ _ => pts_one (pt_cmpR (kNotIn K) (pv 6) (pv 5) rfl)) (fun _ _ _ _ _ => pe_op op_cat (pv 5) (pe_lst (pa_cons (pv 6) pa_nil)))) pa_nil)))))
        (pss_one (ps_set (i := 2) scRows.nd rfl (Or.inl rfl) (pe_callTy call_list_of (by rfl) B.list (by decide +kernel) (pa_cons (pv 4) pa_nil)))))))
      (pss_one (ps_ret (pv 2)))), ?_⟩
    refine ⟨(by show 0 ≤ sizeLine; decide), fun r0 hr0 => ⟨(by show 1 ≤ sizeLine; decide), fun f0 hf0 => ?_⟩⟩
    have s0 := ((Same.refl H).add hr0 (.lst [])).add hf0 (.lst [V.ref r0])
    have n0 : r0 ≠ f0 := ne_of_none upd_same hf0
    have hS5 : (srtS W).length ≤ 5 := by rw [srtS_len]; exact h5
    refine ⟨_, rfl, (k : Int), rfl, by omega, by omega, ?_⟩
    rw [Int.toNat_natCast]
    refine for_range (lo := 0) (n := k) (fun i σ H' => ∃ v3 v4 v5 l ls, σ = [some (.ref a), some (.int (k : Int)), some (.ref l), v3, v4, v5, none] ∧ Same H H' ∧ H l = none ∧ H' l = some (.lst (ls.map V.ref)) ∧ Rws H' ls (WM.rowsT (srtS W) i))
      ⟨_, _, _, f0, [r0], rfl, s0, ((Same.refl H).add hr0 (.lst [])).free hf0, upd_same, .cons (by rw [upd_ne n0, upd_same]; rfl) .nil⟩ ?_ ?_
    · rintro i σ H1 hi ⟨v3, v4, v5, l, ls, rfl, s1, hlH, hl, hrw⟩
      refine ⟨Nat.zero_le _, fun g hg => ?_⟩
      have s2 := (Same.refl H1).add hg (.lst [])
      have hgH : H g = none := s1.free hg
      have ngl : l ≠ g := ne_of_none hl hg
      have hgls : g ∉ ls := fun z => by
        obtain ⟨r, hr⟩ := rws_at hrw z
        rw [hr] at hg
        cases hg
      have hlen : (WM.rowsT (srtS W) i).length ≤ 3125 := Nat.le_trans (rows_len hS5 i) (Nat.le_trans (Nat.pow_le_pow_right (by decide) (show i ≤ 5 by omega)) (by decide))
      refine ⟨_, rfl, l, rfl, ⟨_, SqL.of (s2 _ _ hl)⟩, ?_⟩
      refine for_list (K := K) (a := l) (xs := ls.map V.ref) (fun j σ H' => ∃ v5 qs, σ = [some (.ref a), some (.int (k : Int)), some (.ref l), some (.int (0 + (i : Nat))), some (.ref g), v5, none] ∧ Same H1 H' ∧ H' g = some (.lst (qs.map V.ref)) ∧ Rws H' qs (((WM.rowsT (srtS W) i).take j).flatMap (WM.more (srtS W))) ∧ g ∉ qs)
        ⟨_, [], rfl, s2, upd_same, .nil, by simp⟩ (fun j σ H' _ ⟨_, _, _, h, _⟩ => SqL.of (h _ _ hl)) ?_ ?_
      · rintro j y σ H3 hj ⟨v5, qs, rfl, s3, hg3, hq3, hgq⟩
        obtain ⟨ra, hra, rfl⟩ := map_at hj
        obtain ⟨row, hrow, hrH⟩ := Paired.at' hrw hra
        have hr3 := s3 _ _ hrH
        obtain ⟨rl1, rl2, rl3⟩ := WM.mem_rows.mp (List.mem_of_getElem? hrow)
        refine ⟨_, rfl, .inl ⟨rfl, _, SqL.of hg3⟩, _, rfl, a, W, rfl, .inl (SqL.of (s3 _ _ (s1 _ _ ha))), by omega, nd, fun p hp => ?_⟩
        have sp := (Same.refl H3).add hp (.lst ((srtS W).map V.str))
        refine ⟨p, rfl, ⟨_, SqL.of upd_same⟩, fun E1 hE1 => ?_⟩
        generalize hHb : upd H3 p (.lst ((srtS W).map V.str)) = Hb at sp hE1 ⊢
        have hpb : Hb p = some (.lst ((srtS W).map V.str)) := by rw [← hHb, upd_same]
        refine lc_it (walk_list (K := K) (a := p) (xs := (srtS W).map V.str)) (fun m H' => Same Hb H' ∧ ∃ ns, H' E1 = some (.lst (ns.map V.ref)) ∧ Rws H' ns (((srtS W).take m).filterMap fun z => if z ∈ row then none else some (row ++ [z])) ∧ E1 ∉ ns ∧ ns.length ≤ m)
          ⟨(Same.refl Hb).new hE1 _, [], upd_same, .nil, by simp, Nat.le_refl _⟩ (fun m H' _ h => SqL.of (h.1 _ _ hpb)) ?_ ?_
        · rintro m z _ H5 hm ⟨s5, ns, hns, hn5, hEn, hnl⟩ ⟨rfl, hz⟩
          obtain ⟨wd, hwd, rfl⟩ := map_at hz
          have hm5 : m < 5 := by rw [List.length_map] at hm; omega
          have hr5 := s5 _ _ (sp _ _ hr3)
          have htake : ((srtS W).take (m + 1)).filterMap (fun z => if z ∈ row then none else some (row ++ [z])) = ((srtS W).take m).filterMap (fun z => if z ∈ row then none else some (row ++ [z])) ++ [wd].filterMap (fun z => if z ∈ row then none else some (row ++ [z])) := by rw [take_more hwd, List.filterMap_append]
          refine ⟨rfl, _, rfl, _, rfl, ra, _, rfl, .inl (SqL.of hr5), rfl, flat_strs _, ?_⟩
          rw [if_pos rfl, inV_strs]
          by_cases hin : wd ∈ row
          · refine ⟨false, by rw [decide_eq_true hin]; rfl, iteF ⟨s5, ns, hns, ?_, hEn, by omega⟩⟩
            rw [htake, List.filterMap_cons, if_pos hin]
            simpa using hn5
          · refine ⟨true, by rw [decide_eq_false hin]; rfl, iteT ⟨_, rfl, _, rfl, (by show 1 ≤ sizeLine; decide), fun e1 he1 => ?_⟩⟩
            have t1 := (Same.refl H5).add he1 (.lst [V.str wd])
            refine ⟨ra, e1, _, _, rfl, rfl, t1 _ _ hr5, upd_same, Nat.le_trans (show _ ≤ 1000 by simp only [List.length_map, List.length_singleton]; omega) (by decide), fun e2 he2 => ?_⟩
            have t2 := t1.add he2 (.lst (row.map V.str ++ [V.str wd]))
            have hE2 : E1 ≠ e2 := ne_of_none (t1 _ _ hns) he2
            refine ⟨_, t2 _ _ hns, small1000 (by rw [List.length_map]; omega), ?_, ns ++ [e2], by rw [upd_same, List.map_append]; rfl, ?_, ?_, ?_⟩
            · exact (s5.trans t2).new hE1 _
            · rw [htake, List.filterMap_cons, if_neg hin]
              refine rws_snoc (rws_sm hn5 (x := E1) ((Sm.of t2).put _) hEn) ?_
              rw [upd_ne hE2.symm, upd_same, List.map_append]
              rfl
            · exact fun z => (List.mem_append.mp z).elim hEn fun q => hE2 (List.mem_singleton.mp q)
            · rw [List.length_append, List.length_singleton]
              omega
        · rintro H5 ⟨s5, ns, hns, hn5, hEn, hnl⟩
          rw [List.length_map, List.take_length, fm_more (srtS W) row] at hn5
          change Rws H5 ns (WM.more (srtS W) row) at hn5
          have hg5 := s5 _ _ (sp _ _ hg3)
          have hq5 : Rws H5 qs (((WM.rowsT (srtS W) i).take j).flatMap (WM.more (srtS W))) := rws_sm hq3 (x := p) (Sm.of (sp.trans s5)) fun z => by
            obtain ⟨r, hr⟩ := rws_at hq3 z
            rw [hr] at hp
            cases hp
          have hgE : g ≠ E1 := ne_of_none (sp _ _ hg3) hE1
          have gns : Rws H5 ns (WM.more (srtS W) row) → H5 g = some (.lst (qs.map V.ref)) → g ∉ ns := fun hn hg z => by
            obtain ⟨r, hr, e⟩ := rws_at2 hn z
            obtain ⟨u, _, _, rfl⟩ := WM.mem_more.mp hr
            rw [hg] at e
            have e2 : qs.map V.ref = (row ++ [u]).map V.str := HO.lst.inj (Option.some.inj e)
            have e3 : V.str u ∈ qs.map V.ref := by rw [e2]; simp
            obtain ⟨_, _, e4⟩ := List.mem_map.mp e3
            cases e4
          refine ⟨g, E1, _, _, rfl, rfl, hg5, hns, ?_, ?_⟩
          · have h1 := flat_len (WM.more (srtS W)) 5 (fun x => Nat.le_trans (more_len _ x) hS5) ((WM.rowsT (srtS W) i).take j)
            have h2 : ((WM.rowsT (srtS W) i).take j).length ≤ 3125 := Nat.le_trans (List.length_take_le' _ _) hlen
            rw [List.length_map, List.length_map, hq3.length, hn5.length]
            have h3 := more_len (srtS W) row
            exact Nat.le_trans (show _ ≤ 100000 by omega) (by decide)
          · refine ⟨_, qs ++ ns, rfl, ?_, by rw [upd_same, List.map_append], ?_, ?_⟩
            · exact fun b o e => by
                rw [upd_ne (ne_of_none e hg)]
                exact s5 _ _ (sp _ _ (s3 _ _ e))
            · rw [take_more hrow, List.flatMap_append, List.flatMap_singleton]
              exact rws_app (rws_sm hq5 (x := g) ((Sm.refl _ _).put _) hgq) (rws_sm hn5 (x := g) ((Sm.refl _ _).put _) (gns hn5 hg5))
            · exact fun z => (List.mem_append.mp z).elim hgq (gns hn5 hg5)
      · rintro σ H3 ⟨v5, qs, rfl, s3, hg3, hq3, hgq⟩
        rw [List.length_map, hrw.length, List.take_length] at hq3
        refine ⟨_, rfl, g, _, rfl, .inl (SqL.of hg3), fun l2 hl2 => ?_⟩
        have s4 := (Same.refl H3).add hl2 (.lst (qs.map V.ref))
        have sA := s1.trans s3
        refine ⟨_, _, _, l2, qs, rfl, sA.trans s4, sA.free hl2, upd_same, rws_sm hq3 (x := l2) (Sm.of s4) fun z => ?_⟩
        obtain ⟨r, hr⟩ := rws_at hq3 z
        rw [hr] at hl2
        cases hl2
    · rintro σ H1 ⟨v3, v4, v5, l, ls, rfl, s1, hlH, hl, hrw⟩
      exact ⟨_, rfl, q _ l ls s1 hlH hl hrw⟩
end
end Lk

set_option Elab.async false
set_option linter.all false
set_option maxRecDepth 100000
set_option maxHeartbeats 4000000
namespace Lk
open PySem PySem.Spec PyProof.Rows L2
abbrev sChain : Stmt := top 36
/-- the pairs at b, a list -/
def PrsL (H : Hp) (b : Addr) (PP : List (Str × Str)) : Prop := ∃ ps : List Addr, H b = some (.lst (ps.map V.ref)) ∧ Prs H ps PP
theorem PrsL.same {H H' : Hp} {b : Addr} {PP : List (Str × Str)} (h : PrsL H b PP) (s : Same H H') : PrsL H' b PP := by
  obtain ⟨ps, h1, h2⟩ := h
  exact ⟨ps, s _ _ h1, h2.same s⟩
theorem dp_prsL {K : PySem.W.Frag} {H : Hp} {b : Addr} {PP : List (Str × Str)} (h : PrsL H b PP) : Dp K H (.ref b) (.list (PP.map dP)) := by
  obtain ⟨ps, h1, h2⟩ := h
  exact .lst (SqL.of h1) (dp_prs h2)
theorem shp_prsL {W : List Str} {PP : List (Str × Str)} (wf : Wf W PP) : SeqAt.shaped (.list (PP.map dP)) = true := shp_list (d := 1) (fun p hp => dP_lay (wf.wds _ (wf.mem p hp).1) (wf.wds _ (wf.mem p hp).2.1)) dP_depth (by decide)
/-- whether the i-th and the next are a pair -/
def stepB (PP : List (Str × Str)) (row : List Str) (i : Nat) : Option Bool := row[i]?.bind fun x => row[i + 1]?.map fun y => decide ((x, y) ∈ PP)
theorem isCh_steps (PP : List (Str × Str)) : ∀ row : List Str, ((List.range (row.length - 1)).filterMap (stepB PP row)).all id = WM.isCh PP row
  | [] => rfl
  | [a] => rfl
  | a :: b :: r => by
    have ih := isCh_steps PP (b :: r)
    have e : (a :: b :: r).length - 1 = ((b :: r).length - 1) + 1 := by simp
    have e2 : stepB PP (a :: b :: r) ∘ Nat.succ = stepB PP (b :: r) := by
      funext i
      unfold stepB
      simp
    rw [e, List.range_succ_eq_map, List.filterMap_cons, List.filterMap_map, e2]
    have e3 : stepB PP (a :: b :: r) 0 = some (decide ((a, b) ∈ PP)) := rfl
    rw [e3]
    show (decide ((a, b) ∈ PP) && ((List.range ((b :: r).length - 1)).filterMap (stepB PP (b :: r))).all id) = _
    rw [ih]
    rfl
theorem find_first {α : Type} {p : α → Bool} : ∀ {l : List α} {j : Nat} {x : α}, l[j]? = some x → p x = true → (∀ r ∈ l.take j, p r = false) → l.find? p = some x
  | [], j, x, h, _, _ => by simp at h
  | a :: l, 0, x, h, hp, _ => by
    have e : a = x := Option.some.inj h
    rw [e, List.find?_cons_of_pos hp]
  | a :: l, j + 1, x, h, hp, hn => by
    have ha := hn a (by simp)
    rw [List.find?_cons_of_neg (by rw [ha]; decide)]
    exact find_first (l := l) (j := j) h hp fun r hr => hn r (by simp [hr])
def spChain (K : PySem.W.Frag) : Sp := fun vs H Q _ => ∃ (a b : Addr) (W : List Str) (PP : List (Str × Str)), vs = [.ref a, .ref b] ∧ H a = some (.lst (W.map V.str)) ∧ PrsL H b PP ∧ Wf W PP ∧ W.length ≤ 5 ∧
  ∀ H' l, Same H H' → H' l = some (.lst ((WM.chainDue (srtS W) PP (srtS W).length).map .str)) → Q (.ref l) H'
section
variable {P : Program} {w : World} {K : PySem.W.Frag} {mg : Str → Option Value} {base : Heap}
theorem scChain : FnScope ["_law_words", "_law_pairs", "_law_many", "_law_row", "_law_at"] ["_law_words", "_law_pairs"] (defScope sChain) := ⟨rfl, rfl, rfl, by decide +kernel, rfl, by decide +kernel, by decide +kernel⟩
theorem cal_chain (B : Blt mg) (D : Def K mg "_law_chain_due" sChain) (C1 : Cal P w K mg base CX0 1 "_law_rows" (spRows K)) : Cal P w K mg base CX0 2 "_law_chain_due" (spChain K) := by
  refine D.cal scChain (fun vs H Q E h => ?_) (fun _ _ _ _ _ _ us hl => match us, hl with | [_, _], _ => rfl) (fun f cdv A outer s H vs Q E hr h => ?_)
  · obtain ⟨_, _, _, _, rfl, _⟩ := h
    rfl
  · obtain ⟨a, b, W, PP, rfl, ha, hb, wf, h5, q⟩ := h
    refine ⟨_, pss_cons (ps_for PassesOwn.never rfl (pi_range3 (by rfl) B.range (pa_cons (pe_callB call_len_seq (by rfl) B.len PySem.boot_len (pa_cons (pv 0) pa_nil)) (pa_cons pe_int (pa_cons (pe_un un_neg pe_int) pa_nil)))) (pg_name (i := 2) scChain.nd rfl (Or.inl rfl))
        (pss_one (ps_for PassesOwn.never rfl (pi_list (pe_cc C1 hr (by decide) pass0 (pa_cons (pv 0) (pa_cons (pv 2) pa_nil)))) (pg_name (i := 3) scChain.nd rfl (Or.inr rfl))
          (pss_one (ps_if (pt_val (pe_callB (cr_all rfl) (by rfl) B.all (by decide +kernel) (pa_cons (pe_lc (own := [("_law_at", 4)]) (g := gName 4) (tt := tYes) rfl scChain.nd (pi_range1 (by rfl) B.range (pa_cons (pe_op op_sub (pv 2) pe_int) pa_nil)) (blkOk_by (N := ["_law_words", "_law_pairs", "_law_many", "_law_row", "_law_at"]) (sc := defScope sChain) (by decide +kernel))
            (fun _ _ _ _ _ => pg_name (i := 4) scChain.nd rfl (Or.inl rfl)) (fun _ _ _ _ _ => pts_nil) (fun _ _ _ _ _ => pe_cmpR (kInD K (Rm.u65 hr)) (pe_tup (pa_cons (pe_ix (kIxL K) (pv 3) (pv 4) (fun _ _ => rfl)) (pa_cons (pe_ix (kIxL K) (pv 3) (pe_op op_add (pv 4) pe_int) (fun _ _ => rfl)) pa_nil))) (pv 1) rfl)) pa_nil))) (pss_one (ps_ret (pv 3))) pss_nil)))))
      (pss_one (ps_ret (pe_lst pa_nil))), ?_⟩
    have hSl : (srtS W).length = W.length := srtS_len W
    refine ⟨_, rfl, a, _, rfl, .inl (SqL.of ha), _, rfl, (W.length : Int), 0, -1, W.length, by rw [List.length_map], ?_, ?_⟩
    · have := RgC.neg (i := (W.length : Int)) (j := 0) (by omega) (by omega) (by omega) (by omega)
      rw [Int.sub_zero, Int.toNat_natCast] at this
      exact this
    refine for_rangeC (lo := (W.length : Int)) (c := -1) (n := W.length) (fun i σ H' => ∃ v2 v3, σ = [some (.ref a), some (.ref b), v2, v3, none] ∧ Same H H' ∧ WM.chainDue (srtS W) PP (W.length - i) = WM.chainDue (srtS W) PP (srtS W).length)
      ⟨_, _, rfl, Same.refl H, by rw [hSl]; rfl⟩ ?_ ?_
    · rintro i σ H1 hi ⟨v2, v3, rfl, s1, hdue⟩
      obtain ⟨k, hk⟩ : ∃ k, W.length - i = k + 1 := ⟨W.length - i - 1, by omega⟩
      have ev : (W.length : Int) + (i : Nat) * -1 = ((k + 1 : Nat) : Int) := by omega
      rw [ev]
      rw [hk] at hdue
      have hb1 := hb.same s1
      refine ⟨_, rfl, _, rfl, a, W, k + 1, rfl, s1 _ _ ha, wf.nd, h5, by omega, fun H2 l ls s2 hlH hl hrw => ⟨l, rfl, ⟨_, SqL.of hl⟩, ?_⟩⟩
      have hb2 := hb1.same s2
      refine for_list (K := K) (a := l) (xs := ls.map V.ref) (fun j σ H' => ∃ v3, σ = [some (.ref a), some (.ref b), some (.int ((k + 1 : Nat) : Int)), v3, none] ∧ Same H2 H' ∧ ∀ r ∈ (WM.rowsT (srtS W) (k + 1)).take j, WM.isCh PP r = false)
        ⟨_, rfl, Same.refl _, fun r hr => absurd hr (by simp)⟩ (fun j σ H' _ ⟨_, _, h, _⟩ => SqL.of (h _ _ hl)) ?_ ?_
      · rintro j y σ H3 hj ⟨v3, rfl, s3, hno⟩
        obtain ⟨ra, hra, rfl⟩ := map_at hj
        obtain ⟨row, hrow, hrH⟩ := Paired.at' hrw hra
        have hr3 := s3 _ _ hrH
        obtain ⟨rl1, rl2, rl3⟩ := WM.mem_rows.mp (List.mem_of_getElem? hrow)
        have hb3 := hb2.same s3
        refine ⟨_, rfl, _, _, rfl, rfl, _, rfl, by omega, by omega, fun E1 hE1 => ?_⟩
        have en : (((k + 1 : Nat) : Int) - 1).toNat = row.length - 1 := by omega
        rw [en]
        refine lc_fm (walk_range (lo := 0) (n := row.length - 1)) (fun m => (stepB PP row m).map V.bl) (fun _ _ => trivial) hE1 (by omega) (fun m z H4 _ hm s4 y N N0 hy h0 => ?_) fun H4 s4 hE4 => ?_
        · obtain ⟨rfl, rfl⟩ := y
          have g1 : row[m]? = some row[m] := List.getElem?_eq_getElem (by omega)
          have g2 : row[m + 1]? = some row[m + 1] := List.getElem?_eq_getElem (by omega)
          have r4 := s4 _ _ hr3
          have a1 : atI (row.map V.str) (0 + (m : Nat) : Int) = some (.str row[m]) := at_of (j := m) (by omega) (by rw [List.getElem?_map, g1]; rfl)
          have a2 : atI (row.map V.str) (0 + (m : Nat) + 1 : Int) = some (.str row[m + 1]) := at_of (j := m + 1) (by omega) (by rw [List.getElem?_map, g2]; rfl)
          refine ⟨rfl, _, rfl, _, rfl, ra, _, _, _, rfl, rfl, SqL.of r4, a1, _, rfl, _, rfl, _, _, rfl, rfl, ra, _, _, _, rfl, rfl, SqL.of r4, a2, (by show 2 ≤ sizeLine; decide), fun t ht => ⟨_, rfl, dP (row[m], row[m + 1]), PP.map dP, dp_pair upd_same, dp_prsL ((hb3.same s4).same ((Same.refl _).add ht _)),
            shp_dP (wf.wds _ (mem_srtS.mp (rl3 _ (List.getElem_mem _)))) (wf.wds _ (mem_srtS.mp (rl3 _ (List.getElem_mem _)))), shp_prsL wf, ?_⟩⟩
          rw [any_dP]
          refine hy _ _ ?_ ((Same.refl _).add ht _)
          unfold stepB
          rw [g1, g2]
          rfl
        · have e1 : (List.range (row.length - 1)).filterMap (fun m => (stepB PP row m).map V.bl) = ((List.range (row.length - 1)).filterMap (stepB PP row)).map V.bl := by rw [List.map_filterMap]
          rw [e1] at hE4
          refine ⟨E1, _, rfl, SqL.of hE4, ?_⟩
          rw [isCh_steps]
          refine ⟨_, rfl, ?_⟩
          cases hc : WM.isCh PP row with
          | true =>
            refine iteT ⟨_, rfl, q _ ra ((s1.trans s2).trans (s3.trans s4)) ?_⟩
            have hf : (WM.rowsT (srtS W) (k + 1)).find? (WM.isCh PP) = some row := find_first hrow hc hno
            rw [← hdue, WM.chainDue, hf]
            exact s4 _ _ hr3
          | false =>
            refine iteF ⟨_, rfl, s3.trans s4, fun r hr => ?_⟩
            rw [take_more hrow] at hr
            rcases List.mem_append.mp hr with z | z
            · exact hno r z
            · rw [List.mem_singleton.mp z]; exact hc
      · rintro σ H3 ⟨v3, rfl, s3, hno⟩
        rw [List.length_map, hrw.length, List.take_length] at hno
        refine ⟨_, _, rfl, (s1.trans s2).trans s3, ?_⟩
        have hf : (WM.rowsT (srtS W) (k + 1)).find? (WM.isCh PP) = none := List.find?_eq_none.mpr fun r hr => by rw [hno r hr]; decide
        rw [← hdue, WM.chainDue, hf]
        exact congrArg _ (by omega)
    · rintro σ H1 ⟨v2, v3, rfl, s1, hdue⟩
      refine ⟨Nat.zero_le _, fun l hl => q _ l (s1.add hl _) ?_⟩
      rw [← hdue, Nat.sub_self]
      exact upd_same
end
end Lk

set_option Elab.async false
set_option linter.all false
set_option maxRecDepth 100000
set_option maxHeartbeats 4000000
namespace Lk
open PySem PySem.Spec PyProof.Rows L2
abbrev sLeastD : Stmt := top 35
/-- pairs of a word and a value, tuples at ts -/
def KvAt (H : Hp) (ts : List Addr) (L : List (Str × V)) : Prop := Paired (fun (t : Addr) (p : Str × V) => H t = some (.tup [.str p.1, p.2])) ts L
theorem KvAt.same {H H' : Hp} {ts : List Addr} {L : List (Str × V)} (h : KvAt H ts L) (s : Same H H') : KvAt H' ts L := Paired.mapP h fun a p e => s a _ e
theorem KvAt.sm {x : Addr} {H H' : Hp} {ts : List Addr} {L : List (Str × V)} (h : KvAt H ts L) (s : Sm x H H') (hx : ∀ xs, H x ≠ some (.tup xs)) : KvAt H' ts L := Paired.mapP h fun a p e => s a _ (fun q => hx _ (by rw [← q]; exact e)) e
def kvsOf (L : List (Str × V)) : List (Key × V) := L.map fun p => (kS p.1, p.2)
theorem KvAt.sq {K : PySem.W.Frag} {H : Hp} {ts : List Addr} {L : List (Str × V)} (h : KvAt H ts L) : Paired (fun p (kv : Key × V) => SqT K H p [kV kv.1, kv.2]) ts (kvsOf L) := by
  induction h with
  | nil => exact .nil
  | cons r t ih => exact .cons (SqT.of r) ih
theorem kvs_dct (S : List Str) (g : Str → V) : kvsOf (S.map fun w => (w, g w)) = dct S g := by
  unfold kvsOf dct
  rw [List.map_map]
  rfl
theorem merge_dct (g : Str → V) : ∀ (S2 S1 : List Str), (S1 ++ S2).Nodup → mergeK (dct S1 g) (dct S2 g) = dct (S1 ++ S2) g
  | [], S1, _ => by rw [List.append_nil]; rfl
  | x :: S2, S1, n => by
    have hx : x ∉ S1 := fun h => (List.nodup_append.mp n).2.2 x h x List.mem_cons_self rfl
    have e : S1 ++ x :: S2 = (S1 ++ [x]) ++ S2 := by rw [List.append_assoc]; rfl
    rw [e] at n ⊢
    have ih := merge_dct g S2 (S1 ++ [x]) n
    rw [← ih, ← dct_new hx (g x) rfl]
    rfl
theorem merge_dct0 (g : Str → V) {S : List Str} (n : S.Nodup) : mergeK [] (dct S g) = dct S g := merge_dct g S [] n
def spLeastD (K : PySem.W.Frag) : Sp := fun vs H Q _ => ∃ (a b : Addr) (W : List Str) (PP : List (Str × Str)), vs = [.ref a, .ref b] ∧ H a = some (.lst (W.map V.str)) ∧ PrsL H b PP ∧ Wf W PP ∧ (∃ rk : Str → Nat, WM.Ranked PP W.length rk) ∧
  ∀ H' d, Same H H' → H d = none → H' d = some (lfD W PP) → Q (.ref d) H'
section
variable {P : Program} {w : World} {K : PySem.W.Frag} {mg : Str → Option Value} {base : Heap}
theorem scLeastD : FnScope ["_law_words", "_law_pairs", "_law_found", "_law_turn", "_law_one_here", "_law_other", "_law_word"] ["_law_words", "_law_pairs"] (defScope sLeastD) := ⟨rfl, rfl, rfl, by decide +kernel, rfl, by decide +kernel, by decide +kernel⟩
theorem cal_leastD (B : Blt mg) (D : Def K mg "_law_least_due" sLeastD) : Cal P w K mg base CX0 1 "_law_least_due" (spLeastD K) := by
  refine D.cal scLeastD (fun vs H Q E h => ?_) (fun _ _ _ _ _ _ us hl => match us, hl with | [_, _], _ => rfl) (fun f cdv A outer s H vs Q E hr h => ?_)
  · obtain ⟨_, _, _, _, rfl, _⟩ := h
    rfl
  · obtain ⟨a, b, W, PP, rfl, ha, hb, wf, ⟨rk, R⟩, q⟩ := h
    refine ⟨_, pss_cons (ps_set (i := 2) scLeastD.nd rfl (Or.inl rfl) (pe_callTy (call_dictP rfl) (by rfl) B.dict (by decide +kernel) (pa_cons (pe_lc (own := [("_law_word", 6)]) (g := gName 6) (tt := tYes) rfl scLeastD.nd (pi_list (pe_callB (cr_sortedW rfl) (by rfl) B.sorted (by decide +kernel) (pa_cons (pv 0) pa_nil))) (blkOk_by (N := ["_law_words", "_law_pairs", "_law_found", "_law_turn", "_law_one_here", "_law_other", "_law_word"]) (sc := defScope sLeastD) (by decide +kernel))
            (fun _ _ _ _ _ => pg_name (i := 6) scLeastD.nd rfl (Or.inl rfl)) (fun _ _ _ _ _ => pts_nil) (fun _ _ _ _ _ => pe_tup (pa_cons (pv 6) (pa_cons pe_int pa_nil)))) pa_nil)))
      (pss_cons (ps_for PassesOwn.never rfl (pi_range1 (by rfl) B.range (pa_cons (pe_callB call_len_seq (by rfl) B.len PySem.boot_len (pa_cons (pv 0) pa_nil)) pa_nil)) (pg_name (i := 3) scLeastD.nd rfl (Or.inl rfl))
        (pss_one (ps_for PassesOwn.never rfl (pi_list (pv 1)) (pg_tup rfl (pgs_cons (pg_name (i := 4) scLeastD.nd rfl (Or.inl rfl)) (pgs_cons (pg_name (i := 5) scLeastD.nd rfl (Or.inl rfl)) pgs_nil)))
          (pss_one (ps_dput (Rm.u1 hr) (pv 2) (pv 5) (pe_callB (call_max2 rfl) (by rfl) B.max (by decide +kernel) (pa_cons (pe_dget (Rm.u1 hr) (pv 2) (pv 5) (fun _ _ => rfl)) (pa_cons (pe_op op_add (pe_dget (Rm.u1 hr) (pv 2) (pv 4) (fun _ _ => rfl)) pe_int) pa_nil))) rfl)))))
      (pss_one (ps_ret (pv 2)))), ?_⟩
    have h50 := wf.few
    have h64 := few64 wf
    refine ⟨_, rfl, a, W, rfl, .inl (SqL.of ha), h64, wf.nd, fun p hp => ?_⟩
    have sp := (Same.refl H).add hp (.lst ((srtS W).map V.str))
    refine ⟨p, rfl, ⟨_, SqL.of upd_same⟩, fun E1 hE1 => ?_⟩
    generalize hHb : upd H p (.lst ((srtS W).map V.str)) = Hb at sp hE1 ⊢
    have hpb : Hb p = some (.lst ((srtS W).map V.str)) := by rw [← hHb, upd_same]
    have hndS : (srtS W).Nodup := (srtS_asc wf.nd).nodup slt_lin
    refine lc_it (walk_list (K := K) (a := p) (xs := (srtS W).map V.str)) (fun m H' => Same Hb H' ∧ ∃ ts, H' E1 = some (.lst (ts.map V.ref)) ∧ KvAt H' ts (((srtS W).take m).map fun z => (z, V.int 0)) ∧ ts.length ≤ m)
      ⟨(Same.refl Hb).new hE1 _, [], upd_same, .nil, Nat.le_refl _⟩ (fun m H' _ h => SqL.of (h.1 _ _ hpb)) ?_ ?_
    · rintro m z _ H5 hm ⟨s5, ts, hts, hkv, htl⟩ ⟨rfl, hz⟩
      obtain ⟨wd, hwd, rfl⟩ := map_at hz
      have hm5 : m < 50 := by rw [List.length_map, srtS_len] at hm; omega
      refine ⟨rfl, _, rfl, (by show 2 ≤ sizeLine; decide), fun t ht => ?_⟩
      have t1 := (Same.refl H5).add ht (.tup [V.str wd, V.int 0])
      have nEt : E1 ≠ t := ne_of_none hts ht
      refine ⟨_, t1 _ _ hts, small1000 (by rw [List.length_map]; omega), (s5.trans t1).new hE1 _, ts ++ [t], by rw [upd_same, List.map_append]; rfl, ?_, by rw [List.length_append, List.length_singleton]; omega⟩
      rw [take_more hwd, List.map_append]
      refine Paired.snoc (KvAt.sm (x := E1) hkv ((Sm.of t1).put _) fun xs e => by rw [hts] at e; cases e) ?_
      show upd (upd H5 t (.tup [V.str wd, V.int 0])) E1 _ t = some (.tup [.str wd, .int 0])
      rw [upd_ne nEt.symm, upd_same]
    · rintro H5 ⟨s5, ts, hts, hkv, htl⟩
      rw [List.length_map, List.take_length] at hkv
      refine ⟨E1, ts, _, rfl, SqL.of hts, hkv.sq, fun d hd => ?_⟩
      rw [kvs_dct (srtS W) (fun _ => V.int 0), merge_dct0 _ hndS]
      have sH := (sp.trans s5).add hd (.dK (dct (srtS W) fun _ => V.int 0))
      have hdH : H d = none := (sp.trans s5).free hd
      refine ⟨_, rfl, a, _, rfl, .inl (SqL.of (sH _ _ ha)), (W.length : Int), by rw [List.length_map], by omega, by omega, ?_⟩
      rw [Int.toNat_natCast]
      obtain ⟨ps, hbl, hps⟩ := hb
      refine for_range (lo := 0) (n := W.length) (fun i σ H' => ∃ v3 v4 v5, σ = [some (.ref a), some (.ref b), some (.ref d), v3, v4, v5, none] ∧ Same H H' ∧ H' d = some (.dK (dct (srtS W) (nmV (WM.bfIter PP i)))))
        ⟨_, _, _, rfl, sH, upd_same⟩ ?_ ?_
      · rintro i σ H1 hi ⟨v3, v4, v5, rfl, s1, hd1⟩
        refine ⟨_, rfl, b, rfl, ⟨_, SqL.of (s1 _ _ hbl)⟩, ?_⟩
        refine for_list (K := K) (a := b) (xs := ps.map V.ref) (fun j σ H' => ∃ v4 v5, σ = [some (.ref a), some (.ref b), some (.ref d), some (.int (0 + (i : Nat))), v4, v5, none] ∧ Same H H' ∧ H' d = some (.dK (dct (srtS W) (nmV ((PP.take j).foldl WM.bfStep (WM.bfIter PP i))))))
          ⟨_, _, rfl, s1, hd1⟩ (fun j σ H' _ ⟨_, _, _, h, _⟩ => SqL.of (h _ _ hbl)) ?_ ?_
        · rintro j y σ H3 hj ⟨v4, v5, rfl, s3, hd3⟩
          obtain ⟨t, ht, rfl⟩ := map_at hj
          obtain ⟨p, hp, hr2⟩ := Paired.at' hps ht
          obtain ⟨m1, m2, m3⟩ := wf.mem p (List.mem_of_getElem? hp)
          have ht3 := s3 _ _ hr2
          have hstep : (PP.take (j + 1)).foldl WM.bfStep (WM.bfIter PP i) = WM.bfStep ((PP.take j).foldl WM.bfStep (WM.bfIter PP i)) p := by
            rw [take_more hp, List.foldl_append]
            rfl
          generalize (PP.take j).foldl WM.bfStep (WM.bfIter PP i) = fj at hd3 hstep
          have S1 := mem_srtS.mpr m1
          have S2 := mem_srtS.mpr m2
          refine ⟨t, _, rfl, SqT.of ht3, rfl, _, _, rfl, _, _, rfl, rfl, ?_⟩
          refine ⟨_, rfl, _, rfl, d, _, rfl, .inl ⟨_, kS p.2, .inl hd3, rfl, (dct_in S2).symm⟩, _, rfl, _, rfl, d, _, rfl, .inl ⟨_, kS p.1, .inl hd3, rfl, (dct_in S1).symm⟩, _, _, rfl, rfl, fj p.2, fj p.1 + 1, rfl, ?_⟩
          refine ⟨_, rfl, _, rfl, d, _, rfl, .inl ⟨_, kS p.2, hd3, rfl, by rw [dct_len, srtS_len]; exact small1000 (by omega), rfl⟩, ⟨_, _, rfl, ?_, ?_⟩⟩
          · exact fun b o e => by
              rw [upd_ne (ne_of_none e hdH)]
              exact s3 _ _ e
          · rw [upd_same, dct_put S2, hstep]
            refine congrArg (fun k => some (HO.dK (dct (srtS W) k))) ?_
            funext z
            unfold nmV WM.bfStep
            by_cases e : z = p.2
            · rw [if_pos e, if_pos e]
              refine congrArg V.int ?_
              by_cases c : fj p.1 + 1 > fj p.2
              · rw [if_pos c]; omega
              · rw [if_neg c]; omega
            · rw [if_neg e, if_neg e]
        · rintro σ H3 ⟨v4, v5, rfl, s3, hd3⟩
          rw [List.length_map, hps.len, List.take_length] at hd3
          exact ⟨_, _, _, rfl, s3, hd3⟩
      · rintro σ H1 ⟨v3, v4, v5, rfl, s1, hd1⟩
        refine ⟨_, rfl, q _ d s1 hdH ?_⟩
        rw [hd1]
        refine congrArg (fun k => some (HO.dK (dct (srtS W) k))) ?_
        funext z
        exact congrArg V.int (WM.bf_eq R z)
end
end Lk

set_option Elab.async false
set_option linter.all false
set_option maxRecDepth 100000
set_option maxHeartbeats 4000000
namespace Lk
open PySem PySem.Spec PyProof.Rows L2
abbrev sWishesL : Stmt := top 34
def intOf : V → Int
  | .int i => i
  | _ => 0
theorem perm_ints {ys : List V} {L : List Int} (h : ys.Perm (L.map V.int)) : ∃ ns : List Int, ys = ns.map V.int ∧ ns.Perm L := by
  refine ⟨ys.map intOf, ?_, ?_⟩
  · rw [List.map_map]
    refine (List.map_id ys).symm.trans (List.map_congr_left fun y hy => ?_)
    obtain ⟨i, _, rfl⟩ := List.mem_map.mp (h.mem_iff.mp hy)
    rfl
  · have := h.map intOf
    rw [List.map_map] at this
    have e : intOf ∘ V.int = id := rfl
    rwa [e, List.map_id] at this
theorem perm_strs {ys : List V} {L : List Str} (h : ys.Perm (L.map V.str)) : ∃ ns : List Str, ys = ns.map V.str ∧ ns.Perm L := by
  refine ⟨ys.map (fun v => match v with | .str x => x | _ => ⟨#[]⟩), ?_, ?_⟩
  · rw [List.map_map]
    refine (List.map_id ys).symm.trans (List.map_congr_left fun y hy => ?_)
    obtain ⟨i, _, rfl⟩ := List.mem_map.mp (h.mem_iff.mp hy)
    rfl
  · have := h.map (fun v => match v with | .str x => x | _ => ⟨#[]⟩)
    rw [List.map_map] at this
    have e : (fun v => match v with | V.str x => x | _ => ⟨#[]⟩) ∘ V.str = id := rfl
    rwa [e, List.map_id] at this
theorem two_of {ns ns' : List Int} (h2 : 2 ≤ ns.length) (n : ns.Nodup) (p : ns'.Perm (ns.take 2)) (s : ns'.Pairwise (· ≤ ·)) : ∃ i j, ns' = [i, j] ∧ i < j ∧ i ∈ ns ∧ j ∈ ns := by
  have hl : ns'.length = 2 := by rw [p.length_eq, List.length_take]; omega
  have hn : ns'.Nodup := p.nodup_iff.mpr (List.Sublist.nodup (List.take_sublist 2 ns) n)
  match ns', hl with
  | [i, j], _ =>
    have h1 : i ≤ j := (List.pairwise_cons.mp s).1 j List.mem_cons_self
    have h3 : i ≠ j := fun e => (List.nodup_cons.mp hn).1 (by rw [e]; exact List.mem_cons_self)
    exact ⟨i, j, rfl, by omega, List.mem_of_mem_take (p.mem_iff.mp List.mem_cons_self), List.mem_of_mem_take (p.mem_iff.mp (List.mem_cons_of_mem _ List.mem_cons_self))⟩
theorem idx_nd {L : List Str} (n : L.Nodup) {i : Nat} {x : Str} (h : L[i]? = some x) : L.idxOf x = i := by
  obtain ⟨h1, h2⟩ := idx_at (List.mem_of_getElem? h)
  exact nd_ix n h1 h
theorem rgV_eq (n : Nat) : rgV 0 (n : Int) = ((List.range n).map fun i : Nat => (i : Int)).map V.int := by
  unfold rgV
  rw [Int.sub_zero, Int.toNat_natCast, List.map_map]
  refine List.map_congr_left fun i _ => ?_
  show V.int (0 + (i : Nat)) = V.int (i : Nat)
  rw [Int.zero_add]
theorem range_nd (n : Nat) : ((List.range n).map fun i : Nat => (i : Int)).Nodup := by
  refine List.pairwise_map.mpr ?_
  exact List.Pairwise.imp (fun {a b} h e => h (by omega)) List.nodup_range
theorem paired_take {α β : Type} {R : α → β → Prop} : ∀ {l : List α} {m : List β}, Paired R l m → ∀ k, Paired R (l.take k) (m.take k)
  | _, _, .nil, k => by simp; exact .nil
  | _, _, .cons r t, 0 => .nil
  | _, _, .cons r t, k + 1 => .cons r (paired_take t k)
theorem paired_app {α β : Type} {R : α → β → Prop} {l l' : List α} {m m' : List β} (h : Paired R l m) (h' : Paired R l' m') : Paired R (l ++ l') (m ++ m') := by
  induction h with
  | nil => exact h'
  | cons r t ih => exact .cons r ih
/-- the pairs go along a line of the words -/
def Along (W : List Str) (PP : List (Str × Str)) : Prop := ∃ line : List Str, line.Perm W ∧ ∀ p ∈ PP, p.1 ∈ W ∧ p.2 ∈ W ∧ line.idxOf p.1 < line.idxOf p.2
def spWishesL : Sp := fun vs H Q _ => ∃ (a b : Addr) (W : List Str), vs = [.ref a, .ref b] ∧ PoolAt H a ∧ b ≠ a ∧ H b = some (.lst (W.map V.str)) ∧ W.Nodup ∧ Wds W ∧ W.length ≤ 50 ∧
  ∀ H' l PP, Sm a H H' → PoolAt H' a → H l = none → l ≠ a → PrsL H' l PP → Along W PP → PP.length ≤ 16 → Q (.ref l) H'
section
variable {P : Program} {w : World} {K : PySem.W.Frag} {mg : Str → Option Value} {base : Heap}
theorem scWishesL : FnScope ["_law_pool_here", "_law_words", "_law_line", "_law_found", "_law_k", "_law_first", "_law_second"] ["_law_pool_here", "_law_words"] (defScope sWishesL) := ⟨rfl, rfl, rfl, by decide +kernel, rfl, by decide +kernel, by decide +kernel⟩
theorem cal_wishesL (B : Blt mg) (D : Def K mg "_law_wishes" sWishesL) (CT : Cal P w K mg base CX0 1 "_law_take" spTake) (CO : Cal P w K mg base CX0 2 "_law_one" (spOne K)) (CM : Cal P w K mg base CX0 2 "_law_mixed" spMixed) : Cal P w K mg base CX0 3 "_law_wishes" spWishesL := by
  refine D.cal scWishesL (fun vs H Q E h => ?_) (fun _ _ _ _ _ _ us hl => match us, hl with | [_, _], _ => rfl) (fun f cdv A outer s H vs Q E hr h => ?_)
  · obtain ⟨_, _, _, rfl, _⟩ := h
    rfl
  · obtain ⟨a, b, W, rfl, hp, hba, hb, nd, hwd, h50, q⟩ := h
    refine ⟨_, pss_cons (ps_par (i := 2) (j := 3) (by rfl) scWishesL.nd rfl rfl (by decide) rfl rfl (pa_cons (pe_cc CM hr (by decide) pass0 (pa_cons (pv 0) (pa_cons (pv 1) pa_nil))) (pa_cons (pe_lst pa_nil) pa_nil)) (by rfl))
      (pss_cons (ps_for PassesOwn.never rfl (pi_range1 (by rfl) B.range (pa_cons (pe_ifExp (pt_cmpR op_gt (pe_callB call_len_seq (by rfl) B.len PySem.boot_len (pa_cons (pv 1) pa_nil)) pe_int (nomark _)) (pe_cc CT hr (by decide) pass0 (pa_cons (pv 0) (pa_cons pe_int pa_nil))) pe_int) pa_nil)) (pg_name (i := 4) scWishesL.nd rfl (Or.inl rfl))
        (pss_cons (ps_asg (pe_callB cr_sorted (by rfl) B.sorted (by decide +kernel) (pa_cons (pe_slice sl_list (pe_cc CM hr (by decide) pass0 (pa_cons (pv 0) (pa_cons (pe_listRg rfl (by rfl) B.list (prg_1 (by rfl) B.range (pe_callB call_len_seq (by rfl) B.len PySem.boot_len (pa_cons (pv 1) pa_nil)))) pa_nil))) po_none (po_some pe_int)) pa_nil))
            (pg_unl rfl (pgs_cons (pg_name (i := 5) scWishesL.nd rfl (Or.inl rfl)) (pgs_cons (pg_name (i := 6) scWishesL.nd rfl (Or.inl rfl)) pgs_nil))))
        (pss_one (ps_expr (pe_bm PySem.F.plainAttrs_list PySem.F.slot_list_append PySem.F.type_list_append mt_append (pv 3) (pa_cons (pe_tup (pa_cons (pe_ix ix_list (pv 2) (pv 5) (fun _ _ => rfl)) (pa_cons (pe_ix ix_list (pv 2) (pv 6) (fun _ _ => rfl)) pa_nil))) pa_nil))))))
      (pss_one (ps_ret (pe_op op_cat (pv 3) (pe_slice sl_list (pv 3) po_none (po_some (pe_cc CO hr (by decide) pass0 (pa_cons (pv 0) (pa_cons (pe_lst (pa_cons pe_int (pa_cons pe_int (pa_cons pe_int pa_nil)))) pa_nil))))))))), ?_⟩
    have hb0 : H b = some (.lst (W.map V.str)) := hb
    refine ⟨_, rfl, _, rfl, a, b, W.map V.str, rfl, hp, hba, hb, all_strs hwd, by rw [List.length_map]; omega, fun H1 ln ys pm s1 p1 hlnH hlna hln => ⟨Nat.zero_le _, fun fo hfo => ⟨_, _, rfl, ?_⟩⟩⟩
    obtain ⟨line, rfl, pml⟩ := perm_strs pm
    have nlf : ln ≠ fo := ne_of_none hln hfo
    obtain ⟨po, hpo⟩ := p1.some
    have nfa : fo ≠ a := (ne_of_none hpo hfo).symm
    have hfoH : H fo = none := s1.free nfa hfo
    have sf := s1.trans (Sm.of (a := a) ((Same.refl H1).add hfo (.lst [])))
    have hlnF : upd H1 fo (.lst []) ln = some (.lst (line.map V.str)) := by rw [upd_ne nlf]; exact hln
    have pF : PoolAt (upd H1 fo (.lst [])) a := by
      obtain ⟨x, y, z, e⟩ := p1
      exact ⟨x, y, z, by rw [upd_ne nfa.symm]; exact e⟩
    refine ⟨_, rfl, b, _, rfl, .inl (SqL.of (sf _ _ hba hb)), _, _, rfl, rfl, _, rfl, ?_⟩
    refine ite2 (fun c => ⟨_, rfl, a, 8, rfl, pF, by decide, by decide, fun H2 d s2 p2 d0 d1 => ?A⟩) (fun c => ?B)
    case' A =>
      have dW : ∀ i : Nat, i < d.toNat → 1 < W.length := fun _ _ => by
        have := of_decide_eq_true c
        rw [List.length_map] at this
        omega
      have dn : d.toNat ≤ 8 := by omega
      have hl2 := s2 _ _ hlna hlnF
      have hf2 := s2 _ _ nfa (upd_same (H := H1) (a := fo) (o := .lst []))
      have sf2 := sf.trans s2
      refine ⟨_, rfl, by omega, by omega, ?_⟩
    case' B =>
      have dW : ∀ i : Nat, i < (0 : Int).toNat → 1 < W.length := fun i h => absurd h (Nat.not_lt_zero i)
      have dn : (0 : Int).toNat ≤ 8 := by decide
      have p2 := pF
      have hl2 := hlnF
      have hf2 := upd_same (H := H1) (a := fo) (o := .lst [])
      have sf2 := sf
      refine ⟨_, rfl, by decide, by decide, ?_⟩
    all_goals
      refine for_range (lo := 0) (n := _) (fun i σ H' => ∃ v4 v5 v6 ts PP, σ = [some (.ref a), some (.ref b), some (.ref ln), some (.ref fo), v4, v5, v6] ∧ Sm a H H' ∧ PoolAt H' a ∧ H' ln = some (.lst (line.map V.str)) ∧ H' fo = some (.lst (ts.map V.ref)) ∧ Prs H' ts PP ∧ PP.length ≤ i ∧
          ∀ p ∈ PP, p.1 ∈ W ∧ p.2 ∈ W ∧ line.idxOf p.1 < line.idxOf p.2)
        ⟨_, _, _, [], [], rfl, sf2, p2, hl2, hf2, .nil, Nat.le_refl _, fun p hp => absurd hp (by simp)⟩ ?_ ?_
      · rintro i σ H3 hi ⟨v4, v5, v6, ts, PP, rfl, s3, p3, hl3, hf3, hts, hPl, hPP⟩
        have h2W : 1 < W.length := dW i hi
        have hb3 := s3 _ _ hba hb
        obtain ⟨po3, hpo3⟩ := p3.some
        refine ⟨_, rfl, _, rfl, b, _, rfl, .inl (SqL.of hb3), _, rfl, RgOk.of_le (Int.le_refl _) (by rw [List.length_map]; omega) (by decide) (by omega), fun r hr => ?_⟩
        rw [rgV_eq]
        have nra : r ≠ a := (ne_of_none hpo3 hr).symm
        have s4 := (Same.refl H3).add hr (.lst (((List.range (W.map V.str).length).map fun i : Nat => (i : Int)).map V.int))
        have p4 : PoolAt (upd H3 r (.lst (((List.range (W.map V.str).length).map fun i : Nat => (i : Int)).map V.int))) a := by
          obtain ⟨x, y, z, e⟩ := p3
          exact ⟨x, y, z, s4 _ _ e⟩
        refine ⟨a, r, _, rfl, p4, nra, upd_same, all_ints _, by simp; omega, fun H5 q5 ys5 pm5 s5 p5 hq5 nq5 hys5 => ⟨_, rfl, q5, _, rfl, SqL.of hys5, fun sl hsl => ?_⟩⟩
        obtain ⟨ns, rfl, pmn⟩ := perm_ints pm5
        have ecut : cutV (ns.map V.int) none (some 2) = (ns.take 2).map V.int := by
          have := cutV_lo (ns.map V.int) 2
          rw [List.map_take]
          exact this
        rw [ecut]
        refine ⟨sl, ns.take 2, rfl, SqL.of upd_same, Nat.lt_of_le_of_lt (List.length_take_le _ _) (by decide), fun ns' so pm' hs' hso => ?_⟩
        have hnl : ns.length = W.length := by rw [pmn.length_eq]; simp
        obtain ⟨x, y, rfl, hxy, hx, hy⟩ := two_of (by omega) (pmn.nodup_iff.mpr (range_nd _)) pm' hs'
        have hll : line.length = W.length := pml.length_eq
        have place : ∀ z, z ∈ ns → ∃ (m : Nat) (wz : Str), z = (m : Int) ∧ line[m]? = some wz ∧ wz ∈ W ∧ line.idxOf wz = m := fun z hz => by
          obtain ⟨m, hm, rfl⟩ := List.mem_map.mp (pmn.mem_iff.mp hz)
          have hm2 : m < line.length := by
            have := List.mem_range.mp hm
            rw [List.length_map] at this
            omega
          exact ⟨m, line[m], rfl, List.getElem?_eq_getElem hm2, pml.mem_iff.mp (List.getElem_mem hm2), idx_nd (pml.nodup_iff.mpr nd) (List.getElem?_eq_getElem hm2)⟩
        obtain ⟨mx, wx, rfl, ex, wxW, ix⟩ := place x hx
        obtain ⟨my, wy, rfl, ey, wyW, iy⟩ := place y hy
        have s6 := ((Same.refl H5).add hsl (.lst ((ns.take 2).map V.int))).add hso (.lst ([(mx : Int), (my : Int)].map V.int))
        have s36 := ((Sm.of (a := a) s4).trans s5).trans (Sm.of s6)
        have hl6 := s36 _ _ hlna hl3
        have hf6 := s36 _ _ nfa hf3
        refine ⟨so, _, rfl, SqL.of upd_same, rfl, _, _, rfl, _, _, rfl, rfl, ?_⟩
        refine ⟨_, rfl, .inl ⟨rfl, _, SqL.of hf6⟩, _, rfl, _, rfl, ln, _, _, _, rfl, rfl, SqL.of hl6, at_of (j := mx) rfl (by rw [List.getElem?_map, ex]; rfl), _, rfl, _, rfl, ln, _, _, _, rfl, rfl, SqL.of hl6, at_of (j := my) rfl (by rw [List.getElem?_map, ey]; rfl), (by show 2 ≤ sizeLine; decide), fun t ht => ?_⟩
        have nft : fo ≠ t := ne_of_none hf6 ht
        have s7 := s36.trans (Sm.of ((Same.refl _).add ht (.tup [V.str wx, V.str wy])))
        have hi8 : i < 8 := by omega
        refine ⟨fo, _, _, rfl, rfl, by rw [upd_ne nft]; exact hf6, small1000 (by rw [List.length_map, hts.len]; omega), _, _, _, ts ++ [t], PP ++ [(wx, wy)], rfl, fun c o nc e => ?_, ?_, ?_, by rw [upd_same, List.map_append]; rfl, ?_, by rw [List.length_append, List.length_singleton]; omega, fun p hp => ?_⟩
        · rw [upd_ne (ne_of_none e hfoH)]
          exact s7 _ _ nc (s3 _ _ nc e)
        · obtain ⟨x1, y1, z1, e1⟩ := p5
          exact ⟨x1, y1, z1, by rw [upd_ne nfa.symm, upd_ne (ne_of_none (s6 _ _ e1) ht)]; exact s6 _ _ e1⟩
        · rw [upd_ne nlf]
          exact s7 _ _ hlna hl3
        · have h1 : Prs (upd (upd (upd (upd H5 sl (.lst ((ns.take 2).map V.int))) so (.lst ([(mx : Int), (my : Int)].map V.int))) t (.tup [V.str wx, V.str wy])) fo (.lst (ts.map V.ref ++ [V.ref t]))) ts PP := by
            refine Prs.sm (x := fo) (hts.sm (x := a) s7 fun xs e => ?_) ((Sm.refl _ _).put _) fun xs e => ?_
            · rw [hpo3] at e
              obtain ⟨x1, y1, z1, e1⟩ := p3
              rw [e1] at hpo3
              rw [← Option.some.inj hpo3] at e
              cases e
            · rw [upd_ne nft, hf6] at e
              cases e
          refine Paired.snoc h1 ?_
          show upd _ fo _ t = some (.tup [V.str wx, V.str wy])
          rw [upd_ne nft.symm, upd_same]
        · rcases List.mem_append.mp hp with z | z
          · exact hPP p z
          · rw [List.mem_singleton.mp z]
            exact ⟨wxW, wyW, by show line.idxOf wx < line.idxOf wy; rw [ix, iy]; omega⟩
      · rintro σ H3 ⟨v4, v5, v6, ts, PP, rfl, s3, p3, hl3, hf3, hts, hPl, hPP⟩
        obtain ⟨po3, hpo3⟩ := p3.some
        refine ⟨_, rfl, _, rfl, _, rfl, (by show 3 ≤ sizeLine; decide), fun e he => ?_⟩
        have s4 := (Same.refl H3).add he (.lst [V.int 0, V.int 0, V.int 1])
        have p4 : PoolAt (upd H3 e (.lst [V.int 0, V.int 0, V.int 1])) a := by
          obtain ⟨x, y, z, q⟩ := p3
          exact ⟨x, y, z, s4 _ _ q⟩
        refine ⟨a, e, _, rfl, p4, (ne_of_none hpo3 he).symm, upd_same, by simp, by decide, fun H5 x s5 p5 hx => ?_⟩
        obtain ⟨k, hk, rfl⟩ : ∃ k : Nat, k ≤ 1 ∧ x = .int (k : Int) := by
          rcases List.mem_cons.mp hx with z | z
          · exact ⟨0, by decide, z⟩
          · rcases List.mem_cons.mp z with z | z
            · exact ⟨0, by decide, z⟩
            · exact ⟨1, Nat.le_refl _, List.mem_singleton.mp z⟩
        have s35 := (Sm.of (a := a) s4).trans s5
        have hf5 := s35 _ _ nfa hf3
        have hts5 : Prs H5 ts PP := hts.sm (x := a) s35 fun xs e => by
          obtain ⟨x1, y1, z1, e1⟩ := p3
          rw [e1] at e
          cases e
        refine ⟨_, rfl, fo, _, rfl, SqL.of hf5, fun p hp => ?_⟩
        rw [cutV_lo]
        have t1 := (Same.refl H5).add hp (.lst ((ts.map V.ref).take k))
        refine ⟨fo, p, _, _, rfl, rfl, t1 _ _ hf5, upd_same, ?_, fun l hl => ?_⟩
        · rw [List.length_take, List.length_map, hts.len]
          exact Nat.le_trans (show _ ≤ 1000 by omega) (by decide)
        · have t2 := t1.add hl (.lst (ts.map V.ref ++ (ts.map V.ref).take k))
          obtain ⟨po5, hpo5⟩ := p5.some
          have nla : l ≠ a := (ne_of_none (t1 _ _ hpo5) hl).symm
          have sA := (s3.trans s35).trans (Sm.of t2)
          refine q _ l (PP ++ PP.take k) sA ?_ (((s3.trans s35).trans (Sm.of t1)).free nla hl) nla ⟨ts ++ ts.take k, by rw [upd_same, List.map_append, List.map_take], ?_⟩ ⟨line, pml, fun p hp => ?_⟩ ?_
          · obtain ⟨x1, y1, z1, e1⟩ := p5
            exact ⟨x1, y1, z1, t2 _ _ e1⟩
          · have h1 := hts5.same t2
            exact paired_app h1 (paired_take h1 k)
          · rcases List.mem_append.mp hp with z | z
            · exact hPP p z
            · exact hPP p (List.mem_of_mem_take z)
          · rw [List.length_append, List.length_take]
            omega
end
end Lk

set_option Elab.async false
set_option linter.all false
set_option maxRecDepth 100000
set_option maxHeartbeats 4000000
namespace Lk
open PySem PySem.Spec PyProof.Rows L2
abbrev sDrawn : Stmt := top 38
/-- a dict of numbers for the words -/
def NumD (H : Hp) (d : Addr) (W : List Str) (g : Str → Int) : Prop := ∃ L : List Str, L.Perm W ∧ H d = some (.dK (dct L (nmV g))) ∧ ∀ z, 0 ≤ g z
theorem NumD.sm {a : Addr} {H H' : Hp} {d : Addr} {W : List Str} {g : Str → Int} (h : NumD H d W g) (s : Sm a H H') (n : d ≠ a) : NumD H' d W g := by
  obtain ⟨L, h1, h2, h3⟩ := h
  exact ⟨L, h1, s _ _ n h2, h3⟩
theorem PoolAt.same {H H' : Hp} {a : Addr} (h : PoolAt H a) (s : Same H H') : PoolAt H' a := by
  obtain ⟨x, y, z, e⟩ := h
  exact ⟨x, y, z, s _ _ e⟩
theorem PoolAt.ne {H : Hp} {a b : Addr} (h : PoolAt H a) (e : H b = none) : b ≠ a := by
  obtain ⟨o, ho⟩ := h.some
  exact (ne_of_none ho e).symm
theorem PoolAt.notup {H : Hp} {a : Addr} (h : PoolAt H a) : ∀ xs : List V, H a ≠ Option.some (HO.tup xs) := fun xs e => by
  obtain ⟨x, y, z, q⟩ := h
  rw [q] at e
  cases e
/-- a list of pairs (word, number) in the making at E1 -/
def KvI (a E1 : Addr) (H0 : Hp) (L : List Str) (m : Nat) (H' : Hp) : Prop := Sm a H0 H' ∧ PoolAt H' a ∧ ∃ (ts : List Addr) (g : Str → Int), H' E1 = some (.lst (ts.map V.ref)) ∧ KvAt H' ts ((L.take m).map fun z => (z, nmV g z)) ∧ ts.length ≤ m ∧ ∀ z, 0 ≤ g z
theorem KvI.start {a E1 : Addr} {H0 : Hp} {L : List Str} (p : PoolAt H0 a) (hE : H0 E1 = none) : KvI a E1 H0 L 0 (upd H0 E1 (.lst [])) :=
  ⟨(Sm.refl a H0).new hE _, p.same ((Same.refl H0).add hE _), [], fun _ => 0, upd_same, .nil, Nat.le_refl _, fun _ => Int.le_refl _⟩
theorem KvI.turn {a E1 : Addr} {H0 H' H6 : Hp} {L : List Str} {m : Nat} {wd : Str} {x : Int} (n : L.Nodup) (hl : L.length ≤ 50) (hE : H0 E1 = none) (p0 : PoolAt H0 a) (h : KvI a E1 H0 L m H') (hw : L[m]? = some wd) (hx : 0 ≤ x) (s : Sm a H' H6) (p6 : PoolAt H6 a) {t : Addr} (ht : H6 t = none) :
    ∃ acc, upd H6 t (.tup [.str wd, .int x]) E1 = some (.lst acc) ∧ acc.length < sizeLine ∧ KvI a E1 H0 L (m + 1) (upd (upd H6 t (.tup [.str wd, .int x])) E1 (.lst (acc ++ [.ref t]))) := by
  obtain ⟨s0, p, ts, g, hts, hkv, hl2, hg⟩ := h
  have nEa : E1 ≠ a := p0.ne hE
  have hm : m < L.length := (List.getElem?_eq_some_iff.mp hw).1
  have h6 := s _ _ nEa hts
  have nEt : E1 ≠ t := ne_of_none h6 ht
  have st := (Same.refl H6).add ht (.tup [.str wd, .int x])
  refine ⟨_, by rw [upd_ne nEt]; exact h6, small1000 (by rw [List.length_map]; omega), ?_, ?_, ts ++ [t], fun z => if z = wd then x else g z, by rw [upd_same, List.map_append]; rfl, ?_, by rw [List.length_append, List.length_singleton]; omega, fun z => ?_⟩
  · exact ((s0.trans s).trans (Sm.of st)).new hE _
  · obtain ⟨x1, y1, z1, e1⟩ := p6.same st
    exact ⟨x1, y1, z1, by rw [upd_ne nEa.symm]; exact e1⟩
  · rw [take_more hw, List.map_append]
    have hnt := nd_take n hw
    have e : ((L.take m).map fun z => (z, nmV (fun z => if z = wd then x else g z) z)) = (L.take m).map fun z => (z, nmV g z) := List.map_congr_left fun z hz => by
      have nz : ¬ z = wd := fun q => hnt (q ▸ hz)
      show (z, V.int (if z = wd then x else g z)) = (z, V.int (g z))
      rw [if_neg nz]
    rw [e]
    have h1 : KvAt (upd H6 t (.tup [.str wd, .int x])) ts ((L.take m).map fun z => (z, nmV g z)) := (hkv.sm (x := a) s p.notup).same st
    refine Paired.snoc (KvAt.sm (x := E1) h1 ((Sm.refl _ _).put _) fun xs q => by rw [upd_ne nEt, h6] at q; cases q) ?_
    show upd (upd H6 t (.tup [.str wd, .int x])) E1 _ t = some (.tup [.str wd, .int (if wd = wd then x else g wd)])
    rw [upd_ne nEt.symm, upd_same, if_pos rfl]
  · show 0 ≤ (if z = wd then x else g z)
    by_cases q : z = wd
    · rw [if_pos q]; exact hx
    · rw [if_neg q]; exact hg z
def spDrawn : Sp := fun vs H Q _ => ∃ (a b u : Addr) (W : List Str) (PP : List (Str × Str)), vs = [.ref a, .ref b, .ref u] ∧ PoolAt H a ∧ b ≠ a ∧ u ≠ a ∧ H b = some (.lst (W.map V.str)) ∧ H u = some (lfD W PP) ∧ Wf W PP ∧ (∃ rk : Str → Nat, WM.Ranked PP W.length rk) ∧
  ∀ H' d g, Sm a H H' → PoolAt H' a → H d = none → d ≠ a → NumD H' d W g → Q (.ref d) H'
section
variable {P : Program} {w : World} {K : PySem.W.Frag} {mg : Str → Option Value} {base : Heap}
theorem scDrawn : FnScope ["_law_pool_here", "_law_words", "_law_due", "_law_word", "_law_found", "_law_far"] ["_law_pool_here", "_law_words", "_law_due"] (defScope sDrawn) := ⟨rfl, rfl, rfl, by decide +kernel, rfl, by decide +kernel, by decide +kernel⟩
theorem cal_drawn (B : Blt mg) (D : Def K mg "_law_drawn_numbers" sDrawn) (CT : Cal P w K mg base CX0 1 "_law_take" spTake) (CO : Cal P w K mg base CX0 2 "_law_one" (spOne K)) (CM : Cal P w K mg base CX0 2 "_law_mixed" spMixed) : Cal P w K mg base CX0 3 "_law_drawn_numbers" spDrawn := by
  refine D.cal scDrawn (fun vs H Q E h => ?_) (fun _ _ _ _ _ _ us hl => match us, hl with | [_, _, _], _ => rfl) (fun f cdv A outer s H vs Q E hr h => ?_)
  · obtain ⟨_, _, _, _, _, rfl, _⟩ := h
    rfl
  · obtain ⟨a, b, u, W, PP, rfl, hp, hba, hua, hb, hu, wf, ⟨rk, R⟩, q⟩ := h
    obtain ⟨tR, hR, qR⟩ : ∃ t, PSs (cxOf CX0 P w K mg base ["_law_pool_here", "_law_words", "_law_due", "_law_word", "_law_found", "_law_far"] "_law_drawn_numbers" (defScope sDrawn) f cdv A outer s H E).nox ((defBody sDrawn).drop 3) t ∧
        ∀ (v3 : Option V) (d : Addr) (far : Int) (g : Str → Int) (H1 : Hp), Sm a H H1 → PoolAt H1 a → H d = none → d ≠ a → NumD H1 d W g → 0 ≤ far → t { nx := fun _ H' => Q .non H', rt := Q } [some (.ref a), some (.ref b), some (.ref u), v3, some (.ref d), some (.int far)] H1 := by
      refine ⟨_, pss_cons (ps_if (pt_cmpR op_eq (pe_cc CT hr (by decide) pass0 (pa_cons (pv 0) (pa_cons pe_int pa_nil))) pe_int (nomark _))
        (pss_one (ps_set (i := 4) scDrawn.nd rfl (Or.inl rfl) (pe_callTy (call_dictP rfl) (by rfl) B.dict (by decide +kernel) (pa_cons (pe_lc (own := [("_law_word", 3)]) (g := gName 3) (tt := tYes) rfl scDrawn.nd (pi_list (pv 1)) (blkOk_by (N := ["_law_pool_here", "_law_words", "_law_due", "_law_word", "_law_found", "_law_far"]) (sc := defScope sDrawn) (by decide +kernel))
            (fun _ _ _ _ _ => pg_name (i := 3) scDrawn.nd rfl (Or.inl rfl)) (fun _ _ _ _ _ => pts_nil) (fun _ _ _ _ _ => pe_tup (pa_cons (pv 3) (pa_cons (pe_op op_add (pe_cc CT hr (by decide) pass0 (pa_cons (pv 0) (pa_cons pe_int pa_nil))) (pv 5)) pa_nil)))) pa_nil)))) pss_nil)
        (pss_one (ps_ret (pv 4))), ?_⟩
      intro v3 d far g H1 s1 p1 hdH hda hN hfar
      refine ⟨_, rfl, a, 4, rfl, p1, by decide, by decide, fun H2 e s2 p2 e0 e1 => ⟨rfl, _, rfl, ite2 (fun c => ?_) (fun c => ⟨_, rfl, q H2 d g (s1.trans s2) p2 hdH hda (hN.sm s2 hda)⟩)⟩⟩
      have hb2 := (s1.trans s2) _ _ hba hb
      refine ⟨_, rfl, b, rfl, ⟨_, SqL.of hb2⟩, fun E1 hE1 => ?_⟩
      refine lc_it (walk_list (K := K) (a := b) (xs := W.map V.str)) (KvI a E1 H2 W) (KvI.start p2 hE1) (fun m H' _ h => SqL.of (h.1 _ _ hba hb2)) ?_ ?_
      · rintro m z _ H5 hm hI ⟨rfl, hz⟩
        obtain ⟨wd, hwd, rfl⟩ := map_at hz
        exact ⟨rfl, _, rfl, _, rfl, a, 3, rfl, hI.2.1, by decide, by decide, fun H6 x s6 p6 x0 x1 => ⟨_, rfl, _, _, rfl, rfl, (by show 2 ≤ sizeLine; decide), fun t ht => KvI.turn wf.nd wf.few hE1 p2 hI hwd (by omega) s6 p6 ht⟩⟩
      · rintro H5 ⟨s5, p5, ts, g', hts, hkv, htl, hg'⟩
        rw [List.length_map, List.take_length] at hkv
        refine ⟨E1, ts, _, rfl, SqL.of hts, hkv.sq, fun d2 hd2 => ?_⟩
        rw [kvs_dct W (nmV g'), merge_dct0 _ wf.nd]
        have n2 := p5.ne hd2
        have sA := (s1.trans s2).trans s5
        have st := (Same.refl H5).add hd2 (.dK (dct W (nmV g')))
        exact ⟨_, rfl, q _ d2 g' (sA.trans (Sm.of st)) (p5.same st) (sA.free n2 hd2) n2 ⟨W, List.Perm.refl _, upd_same, hg'⟩⟩
    refine ⟨_, pss_cons (ps_set (i := 4) scDrawn.nd rfl (Or.inl rfl) (pe_callTy (call_dictP rfl) (by rfl) B.dict (by decide +kernel) (pa_cons (pe_lc (own := [("_law_word", 3)]) (g := gName 3) (tt := tYes) rfl scDrawn.nd (pi_list (pe_cc CM hr (by decide) pass0 (pa_cons (pv 0) (pa_cons (pv 1) pa_nil)))) (blkOk_by (N := ["_law_pool_here", "_law_words", "_law_due", "_law_word", "_law_found", "_law_far"]) (sc := defScope sDrawn) (by decide +kernel))
            (fun _ _ _ _ _ => pg_name (i := 3) scDrawn.nd rfl (Or.inl rfl)) (fun _ _ _ _ _ => pts_nil) (fun _ _ _ _ _ => pe_tup (pa_cons (pv 3) (pa_cons (pe_op op_mul (pe_dget (Rm.u1 hr) (pv 2) (pv 3) (fun _ _ => rfl)) (pe_cc CO hr (by decide) pass0 (pa_cons (pv 0) (pa_cons (pe_lst (pa_cons pe_int (pa_cons pe_int pa_nil))) pa_nil)))) pa_nil)))) pa_nil)))
      (pss_cons (ps_set (i := 5) scDrawn.nd rfl (Or.inr rfl) (pe_cc CO hr (by decide) pass0 (pa_cons (pv 0) (pa_cons (pe_lst (pa_cons pe_int (pa_cons (pe_op op_pow pe_int pe_int) pa_nil))) pa_nil))))
      (pss_cons (ps_if (PW.pt (pw_and (pt_cmpR (op_neD hr.units) (pv 1) (pe_lst pa_nil) (nomark _)) (pw_and1 (pt_cmpR op_eq (pe_cc CT hr (by decide) pass0 (pa_cons (pv 0) (pa_cons pe_int pa_nil))) pe_int (nomark _)))))
        (pss_cons (ps_set (i := 3) scDrawn.nd rfl (Or.inl rfl) (pe_cc CO hr (by decide) pass0 (pa_cons (pv 0) (pa_cons (pv 1) pa_nil))))
        (pss_one (ps_dput (Rm.u1 hr) (pv 4) (pv 3) (pe_cc CO hr (by decide) pass0 (pa_cons (pv 0) (pa_cons (pe_lst (pa_cons pe_int (pa_cons (pe_op op_add (pe_dget (Rm.u1 hr) (pv 4) (pv 3) (fun _ _ => rfl)) pe_int) (pa_cons (pe_callB (call_max2 rfl) (by rfl) B.max (by decide +kernel) (pa_cons pe_int (pa_cons (pe_op op_sub (pe_dget (Rm.u1 hr) (pv 4) (pv 3) (fun _ _ => rfl)) pe_int) pa_nil))) pa_nil)))) pa_nil))) rfl))) pss_nil) hR)), ?_⟩
    have hc2 : (2 : Nat) ≤ sizeLine := by decide
    have h50 := wf.few
    refine ⟨_, rfl, _, rfl, a, b, W.map V.str, rfl, hp, hba, hb, all_strs wf.wds, by rw [List.length_map]; omega, fun H1 ln ys pm s1 p1 hlnH hlna hln => ⟨ln, rfl, ⟨_, SqL.of hln⟩, fun E1 hE1 => ?_⟩⟩
    obtain ⟨line, rfl, pml⟩ := perm_strs pm
    have hll : line.length ≤ 50 := by rw [pml.length_eq]; omega
    have hnl : line.Nodup := pml.nodup_iff.mpr wf.nd
    refine lc_it (walk_list (K := K) (a := ln) (xs := line.map V.str)) (KvI a E1 H1 line) (KvI.start p1 hE1) (fun m H' _ h => SqL.of (h.1 _ _ hlna hln)) ?_ ?_
    · rintro m z _ H5 hm hI ⟨rfl, hz⟩
      obtain ⟨wd, hwd, rfl⟩ := map_at hz
      have hu5 := hI.1 _ _ hua (s1 _ _ hua hu)
      have hwS : wd ∈ srtS W := mem_srtS.mpr (pml.mem_iff.mp (List.mem_of_getElem? hwd))
      refine ⟨rfl, _, rfl, _, rfl, _, rfl, u, _, rfl, .inl ⟨_, kS wd, .inl hu5, rfl, (dct_in hwS).symm⟩, _, rfl, hc2, fun e he => ?_⟩
      have se := (Same.refl H5).add he (.lst [V.int 1, V.int 2])
      refine ⟨a, e, _, rfl, hI.2.1.same se, hI.2.1.ne he, upd_same, by simp, by decide, fun H6 x s6 p6 hx => ?_⟩
      obtain ⟨k, hk1, hk2, rfl⟩ : ∃ k : Int, 0 ≤ k ∧ k ≤ 2 ∧ x = .int k := by
        rcases List.mem_cons.mp hx with z | z
        · exact ⟨1, by decide, by decide, z⟩
        · exact ⟨2, by decide, by decide, List.mem_singleton.mp z⟩
      exact ⟨_, k, rfl, rfl, .inr ⟨by omega, by omega⟩, hc2, fun t ht => KvI.turn hnl hll hE1 p1 hI hwd (Int.mul_nonneg (WM.Lf_nn _ _ _) hk1) ((Sm.of se).trans s6) p6 ht⟩
    · rintro H5 ⟨s5, p5, ts, g, hts, hkv, htl, hg⟩
      rw [List.length_map, List.take_length] at hkv
      refine ⟨E1, ts, _, rfl, SqL.of hts, hkv.sq, fun d hd => ?_⟩
      rw [kvs_dct line (nmV g), merge_dct0 _ hnl]
      have nda := p5.ne hd
      have st := (Same.refl H5).add hd (.dK (dct line (nmV g)))
      have s15 := s1.trans s5
      have hdH : H d = none := s15.free nda hd
      have s6 := s15.trans (Sm.of (a := a) st)
      have p6 := p5.same st
      have hd6 : upd H5 d (.dK (dct line (nmV g))) d = some (.dK (dct line (nmV g))) := upd_same
      generalize upd H5 d (.dK (dct line (nmV g))) = H6 at s6 p6 hd6 ⊢
      refine ⟨_, rfl, 10, 6, rfl, rfl, ⟨by decide, by decide, by decide⟩, hc2, fun e he => ?_⟩
      have se := (Same.refl H6).add he (.lst [V.int 0, V.int (10 ^ 6)])
      refine ⟨a, e, _, rfl, p6.same se, p6.ne he, upd_same, by simp, by decide, fun H7 x s7 p7 hx => ?_⟩
      obtain ⟨far, hf0, rfl⟩ : ∃ k : Int, 0 ≤ k ∧ x = .int k := by
        rcases List.mem_cons.mp hx with z | z
        · exact ⟨0, by decide, z⟩
        · exact ⟨_, by decide, List.mem_singleton.mp z⟩
      have s67 := (Sm.of (a := a) se).trans s7
      have sH7 := s6.trans s67
      have hd7 := s67 _ _ nda hd6
      have hb7 := sH7 _ _ hba hb
      refine ⟨_, rfl, Nat.zero_le _, fun e2 he2 => ?_⟩
      have t1 := (Same.refl H7).add he2 (.lst [])
      refine ⟨_, _, dp_list (t1 _ _ hb7) (all_strs wf.wds), .lst (SqL.of upd_same) .nil, shp_dat (all_strs wf.wds), shp_nil, ?_⟩
      rw [eqv_nil]
      have sH8 := sH7.trans (Sm.of (a := a) t1)
      have p8 := p7.same t1
      have hd8 := t1 _ _ hd7
      have hb8 := t1 _ _ hb7
      have N8 : NumD (upd H7 e2 (.lst [])) d W g := ⟨line, pml, hd8, hg⟩
      by_cases hW : W = []
      · refine ⟨_, rfl, ?_⟩
        rw [show (W.map V.str).isEmpty = true by rw [hW]; rfl]
        exact iteF (iteF (qR _ d far g _ sH8 p8 hdH nda N8 hf0))
      · refine ⟨true, congrArg V.bl (by cases hWe : W with | nil => exact absurd hWe hW | cons _ _ => rfl), iteT ⟨_, rfl, a, 2, rfl, p8, by decide, by decide, fun H9 c9 s9 p9 c0 c1 => ⟨rfl, _, rfl, ite2 (fun c => ?_) (fun c => qR _ d far g _ (sH8.trans s9) p9 hdH nda (N8.sm s9 nda) hf0)⟩⟩⟩
        have hb9 := s9 _ _ hba hb8
        have hd9 := s9 _ _ nda hd8
        refine ⟨_, rfl, _, rfl, a, b, _, rfl, p9, hba, hb9, by simpa using hW, by rw [List.length_map]; omega, fun H10 x s10 p10 hx => ?_⟩
        obtain ⟨wd, hwd, rfl⟩ := List.mem_map.mp hx
        have hd10 := s10 _ _ nda hd9
        have hwl : wd ∈ line := pml.mem_iff.mpr hwd
        have G : DGet H10 d (.str wd) (some (.int (g wd))) := .inl ⟨_, kS wd, .inl hd10, rfl, (dct_in (g := nmV g) hwl).symm⟩
        refine ⟨_, rfl, _, rfl, _, rfl, d, _, rfl, G, _, _, rfl, rfl, _, rfl, _, rfl, d, _, rfl, G, _, _, rfl, rfl, _, _, rfl, (by show 3 ≤ sizeLine; decide), fun e3 he3 => ?_⟩
        generalize hmx : (if g wd - 1 > 0 then g wd - 1 else 0) = mx
        have hmx0 : 0 ≤ mx := by
          rw [← hmx]
          split <;> omega
        have t3 := (Same.refl H10).add he3 (.lst [V.int 0, V.int (g wd + 1), V.int mx])
        refine ⟨a, e3, _, rfl, p10.same t3, p10.ne he3, upd_same, by simp, (by show 3 < 1000; decide), fun H11 x s11 p11 hx => ?_⟩
        obtain ⟨k, hk, rfl⟩ : ∃ k : Int, 0 ≤ k ∧ x = .int k := by
          rcases List.mem_cons.mp hx with z | z
          · exact ⟨0, by decide, z⟩
          · rcases List.mem_cons.mp z with z | z
            · exact ⟨g wd + 1, by have := hg wd; omega, z⟩
            · exact ⟨mx, hmx0, List.mem_singleton.mp z⟩
        have s8b := ((s9.trans s10).trans (Sm.of (a := a) t3)).trans s11
        have hd11 := s11 _ _ nda (t3 _ _ hd10)
        have sF := sH8.trans s8b
        refine ⟨_, rfl, _, rfl, d, _, rfl, .inl ⟨_, kS wd, hd11, rfl, by rw [dct_len]; exact small1000 (by omega), rfl⟩, ?_⟩
        refine qR _ d far (fun z => if z = wd then k else g z) _ (fun c o nc e => by rw [upd_ne (ne_of_none e hdH)]; exact sF _ _ nc e) ?_ hdH nda ⟨line, pml, ?_, fun z => ?_⟩ hf0
        · obtain ⟨x1, y1, z1, e1⟩ := p11
          exact ⟨x1, y1, z1, by rw [upd_ne nda.symm]; exact e1⟩
        · rw [upd_same, dct_put hwl]
          refine congrArg (fun k => some (HO.dK (dct line k))) ?_
          funext z
          show (if z = wd then V.int k else V.int (g z)) = V.int (if z = wd then k else g z)
          by_cases q : z = wd
          · rw [if_pos q, if_pos q]
          · rw [if_neg q, if_neg q]
        · show 0 ≤ (if z = wd then k else g z)
          by_cases q : z = wd
          · rw [if_pos q]; exact hk
          · rw [if_neg q]; exact hg z
end
end Lk

set_option Elab.async false
set_option linter.all false
set_option maxRecDepth 100000
set_option maxHeartbeats 4000000
/-! sorted(xs, key=f), f any function value: the keys are made in turn, then the pairs are sorted by them. -/
namespace Lk
open PySem PySem.Calls PyProof.Rows SrtO
section
variable {prog : Program} {w : World} {A : Around} {E : Value → Shared → Prop}
theorem keyed_rest {f : Value} {a kS : Addr} {vs : List Value} {e1 : Nat} {P : PySem.Fin → Shared → Prop} {ltv : List Value → Shared → Value → Value → Bool} (hz : vs.length ≤ 1000) (hka : kS ≠ a) (J : Nat → List Value → Shared → Prop)
    (hat : ∀ i keys s', J i keys s' → (∃ c, s'.heap.get? kS = some (seqObj "list" keys.toArray c)) ∧ s'.heap.get? a = some (seqObj "list" #[] e1) ∧ keys.length = i)
    (turn : ∀ i v keys s', vs[i]? = some v → J i keys s' → wpAny (model prog w) A (call f [v]) (fun u s'' => (∃ c, s''.heap.get? kS = some (seqObj "list" keys.toArray c)) ∧ J (i + 1) (keys ++ [u]) { s'' with heap := s''.heap.update kS (Obj.mapSeq (·.push u)) }) (fun _ _ => False) s')
    (cmp : ∀ keys s', J vs.length keys s' → Swo (ltv keys s') ∧ ∃ κ, (2 ≤ vs.length → ∀ (Q : SortKind → Shared → Prop) (E : Value → Shared → Prop), Q κ s' → wpAny (model prog w) A (keyKind' keys.toArray) Q E s') ∧ Cmp prog w A s' κ (fun p => p.1 ∈ keys) (lt2 (ltv keys s')))
    (fin : ∀ keys s' (ps : List (Value × Value)), J vs.length keys s' → Srtd (lt2 (ltv keys s')) ps → ps.Perm (keys.zip vs) → P (.done (.ret .none)) { s' with heap := (s'.heap.update kS (Obj.mapSeq fun _ => #[])).update a (Obj.mapSeq fun _ => (ps.map (·.2)).toArray) })
    {s : Shared} (h0 : J 0 [] s) : wpAny (model prog w) A (ksk_rest a f false vs.toArray e1 (.ref kS)) P E s := by
  have big : (1000 : Nat) < sizeLine := by decide
  unfold ksk_rest
  refine wpAny_bind (wpAny_rule ?_)
  first
    | rw [List.forIn_toArray]
    | (rw [← Array.forIn_toList]; simp only [List.toList_toArray])
  refine wpAny_bind (ksk_fold (fun i s' => i ≤ vs.length ∧ ∃ keys, J i keys s') vs 0 s ⟨Nat.zero_le _, [], h0⟩ ?step ?done)
  case step =>
    rintro j x s' hx ⟨_, keys, hj⟩
    simp only [Nat.zero_add] at hj ⊢
    have hjl : j < vs.length := (List.getElem?_eq_some_iff.mp hx).1
    obtain ⟨_, _, hkl⟩ := hat _ _ _ hj
    refine wpAny_bind (wpAny_attempt (wpAny_mono (turn j x keys s' hx hj) (fun u s'' he => ?_) fun _ _ hF => hF.elim))
    obtain ⟨⟨c, hk⟩, hj2⟩ := he
    try dsimp only
    refine wpAny_bind (listUpdate_at hk rfl ?_ (by rw [List.size_toArray]; omega) (by show (keys.toArray.push u).size ≤ _; rw [Array.size_push, List.size_toArray]; omega))
    exact wpAny_pure ⟨rfl, hjl, _, hj2⟩
  case done =>
    rintro s' ⟨_, keys, hj⟩
    rw [Nat.zero_add] at hj
    obtain ⟨⟨c, hk⟩, ha, hkl⟩ := hat _ _ _ hj
    obtain ⟨O, κ, hkind, hT⟩ := cmp keys s' hj
    have hzl : (keys.toArray.zip vs.toArray).toList = keys.zip vs := by rw [ksk_zip]
    have hzn : (keys.zip vs).length = vs.length := by rw [List.length_zip]; omega
    have hsz : (keys.toArray.zip vs.toArray).size = vs.length := by rw [← Array.length_toList, hzl, hzn]
    try dsimp only
    refine wpAny_bind (listItems_at hk rfl ?_)
    have tail : ∀ st' : SortSt, Srtd (lt2 (ltv keys s')) (arrOf st').toList → (arrOf st').toList.Perm (keys.zip vs) → failedOf st' = none → wpAny (model prog w) A (ksk_tail a false e1 (.ref kS) st') P E s' := by
      intro st' h1 h2 h3
      have s1 := Heap.SameBut.update s'.heap kS (Obj.mapSeq fun _ => (#[] : Array Value))
      have ha1 : (s'.heap.update kS (Obj.mapSeq fun _ => (#[] : Array Value))).get? a = some (seqObj "list" #[] e1) := (s1.2 a hka.symm).trans ha
      have hout : ((arrOf st').map (·.2)).size ≤ sizeLine + 1 := by
        have := h2.length_eq
        rw [Array.length_toList, hzn] at this
        rw [Array.size_map]
        omega
      unfold ksk_tail
      try dsimp only
      refine wpAny_bind (listUpdate_at hk rfl ?_ (by rw [List.size_toArray]; omega) (Nat.zero_le _))
      refine wpAny_bind (wpAny_letGo ?_)
      refine wpAny_bind (seqEpoch_at ha1 rfl ?_)
      refine wpAny_bind (listUpdate_at ha1 rfl ?_ (Nat.zero_le _) hout)
      rw [h3]
      simp only [bne_self_eq_false, Bool.false_eq_true, if_false]
      have e : (arrOf st').map (·.2) = ((arrOf st').toList.map (·.2)).toArray := by rw [← Array.toList_map, Array.toArray_toList]
      rw [e]
      exact wpAny_pure (fin keys s' _ hj h1 h2)
    unfold ksk_end
    try dsimp only
    simp only [Bool.false_eq_true, if_false]
    by_cases h2 : vs.toArray.size < 2
    · rw [if_pos h2, if_pos h2]
      refine wpAny_bind (wpAny_pure ?_)
      rw [StateT.run_pure]
      refine wpAny_bind (wpAny_pure ?_)
      try dsimp only
      refine tail (SortSt.mk' general' (keys.toArray.zip vs.toArray) #[] 7 none) ?_ (by show (keys.toArray.zip vs.toArray).toList.Perm _; rw [hzl]) rfl
      show Srtd _ (keys.toArray.zip vs.toArray).toList
      rw [hzl]
      rw [List.size_toArray] at h2
      have hs : (keys.zip vs).length < 2 := by omega
      match hl : keys.zip vs, hs with
      | [], _ => exact List.Pairwise.nil
      | [v], _ => exact List.pairwise_singleton _ _
      | _ :: _ :: l, h => exact absurd h (by rw [List.length_cons, List.length_cons]; omega)
    · rw [if_neg h2, if_neg h2]
      rw [List.size_toArray] at h2
      refine wpAny_bind (hkind (by omega) _ _ ?_)
      have hall : AllL (fun p : Keyed => p.1 ∈ keys) (arrOf (SortSt.mk' κ (keys.toArray.zip vs.toArray) #[] 7 none)).toList := fun p hm => by
        have hm' : p ∈ (keys.toArray.zip vs.toArray).toList := hm
        rw [hzl] at hm'
        exact (List.of_mem_zip hm').1
      refine wpAny_bind (wpAny_mono (wpS_sortO (st0 := SortSt.mk' κ (keys.toArray.zip vs.toArray) #[] 7 none)
        (Q := fun _ st' => Srtd (lt2 (ltv keys s')) (arrOf st').toList ∧ Stb (lt2 (ltv keys s')) (arrOf st').toList (keys.toArray.zip vs.toArray).toList ∧ failedOf st' = none) (swo2 O) hT rfl hall rfl rfl fun st' a1 a2 a3 => ⟨a1, a2, a3⟩) ?_ fun _ _ e => e)
      rintro ⟨⟨⟩, st'⟩ s'' ⟨rfl, hp1, hp2, hf⟩
      try dsimp only
      exact tail st' hp1 (by have := hp2.perm; rw [hzl] at this; exact this) hf
end
end Lk

set_option Elab.async false
set_option linter.all false
set_option maxRecDepth 100000
set_option maxHeartbeats 4000000
namespace Lk
open PySem PySem.Calls PyProof.Rows SrtO
section
variable {prog : Program} {w : World} {A : Around} {E : Value → Shared → Prop} {s : Shared}
/-- what the user of sorted(.., key=f) says of its walk: a the list in the making, kS the keys' store -/
structure KeyWalk (prog : Program) (w : World) (A : Around) (f : Value) (vs : List Value) (a kS : Addr) (e1 : Nat) (s : Shared) (Q : Value → Shared → Prop) : Prop where
  ex : ∃ (J : Nat → List Value → Shared → Prop) (ltv : List Value → Shared → Value → Value → Bool),
    (∀ i keys s', J i keys s' → (∃ c, s'.heap.get? kS = some (seqObj "list" keys.toArray c)) ∧ s'.heap.get? a = some (seqObj "list" #[] e1) ∧ keys.length = i) ∧
    (∀ i v keys s', vs[i]? = some v → J i keys s' → wpAny (model prog w) A (call f [v]) (fun u s'' => (∃ c, s''.heap.get? kS = some (seqObj "list" keys.toArray c)) ∧ J (i + 1) (keys ++ [u]) { s'' with heap := s''.heap.update kS (Obj.mapSeq (·.push u)) }) (fun _ _ => False) s') ∧
    (∀ keys s', J vs.length keys s' → Swo (ltv keys s') ∧ ∃ κ, (2 ≤ vs.length → ∀ (Q : SortKind → Shared → Prop) (E : Value → Shared → Prop), Q κ s' → wpAny (model prog w) A (keyKind' keys.toArray) Q E s') ∧ Cmp prog w A s' κ (fun p => p.1 ∈ keys) (lt2 (ltv keys s'))) ∧
    (∀ keys s' (ps : List (Value × Value)), J vs.length keys s' → Srtd (lt2 (ltv keys s')) ps → ps.Perm (keys.zip vs) → Q (.ref a) { s' with heap := (s'.heap.update kS (Obj.mapSeq fun _ => #[])).update a (Obj.mapSeq fun _ => (ps.map (·.2)).toArray) }) ∧ J 0 [] s
theorem sorted_keyed {l q : Addr} {vs : List Value} {Q : Value → Shared → Prop} (hl : s.heap.IsList l vs.toArray) (hz : vs.length ≤ 1000)
    (h : ∀ (a kS : Addr) (e1 : Nat) (hK : Heap), (∀ b o, s.heap.get? b = some o → hK.get? b = some o) → s.heap.objs.size ≤ a → s.heap.objs.size ≤ kS → kS ≠ a → hK.get? kS = some (seqObj "list" #[] 0) → hK.get? a = some (seqObj "list" #[] e1) →
      KeyWalk prog w A.in1.in1 (.ref q) vs a kS e1 { s with heap := hK } Q) :
    wpAny (model prog w) A (call (.builtin "sorted") [.ref l] [(Str.ofString "key", .ref q)]) Q E s := by
  have big : (1000 : Nat) < sizeLine := by decide
  refine call_function_entry_kw kind_sorted plain_sorted entry_sorted (ksk_s1 _ _) ?_
  unfold Builtin.«sorted»
  refine wpAny_bind (m := checkCount "sorted" 1 1 _) (wpAny_pure ?_)
  refine wpAny_bind (collect_list hl ?_ (by omega))
  refine wpAny_bind (wpAny_newList ?_ (by omega))
  have hsz : ((s.heap.push (seqObj "list" #[] 0)).update s.heap.objs.size (Obj.mapSeq (· ++ vs.toArray))).objs.size = s.heap.objs.size + 1 := by
    rw [Heap.size_update, size_push']
  have hoL : (((s.heap.push (seqObj "list" #[] 0)).update s.heap.objs.size (Obj.mapSeq (· ++ vs.toArray))).push (seqObj "list" vs.toArray 0)).get? (s.heap.objs.size + 1) = some (seqObj "list" vs.toArray 0) := by
    rw [← hsz]; exact Heap.get?_push_size _ rfl
  have keep : ∀ b o, s.heap.get? b = some o → (((s.heap.push (seqObj "list" #[] 0)).update s.heap.objs.size (Obj.mapSeq (· ++ vs.toArray))).push (seqObj "list" vs.toArray 0)).get? b = some o := fun b o q => by
    have hlt : b < s.heap.objs.size := Heap.lt_size q
    rw [Heap.get?_push_ne _ _ _ (by rw [hsz]; exact Nat.ne_of_lt (Nat.lt_succ_of_lt hlt)), Heap.get?_update_ne _ _ _ _ (Nat.ne_of_lt hlt), Heap.get?_push_ne _ _ _ (Nat.ne_of_lt hlt)]
    exact q
  have hsz2 : (((s.heap.push (seqObj "list" #[] 0)).update s.heap.objs.size (Obj.mapSeq (· ++ vs.toArray))).push (seqObj "list" vs.toArray 0)).objs.size = s.heap.objs.size + 2 := by rw [size_push', hsz]
  show wpAny _ _ _ _ _ { s with heap := ((s.heap.push (seqObj "list" #[] 0)).update s.heap.objs.size (Obj.mapSeq (· ++ vs.toArray))).push (seqObj "list" vs.toArray 0) }
  rw [hsz]
  generalize ((s.heap.push (seqObj "list" #[] 0)).update s.heap.objs.size (Obj.mapSeq (· ++ vs.toArray))).push (seqObj "list" vs.toArray 0) = h2 at hoL keep hsz2 ⊢
  refine wpAny_bind (wpAny_holding (wpAny_call_entry_kw slot_list_sort ⟨_, hoL, rfl⟩ entry_list_sort ?body (ksk_l1 _ _)))
  case body =>
    show wpAny (model prog w) A.in1.in1 (Builtin.«list.sort» ⟨[.ref (s.heap.objs.size + 1)], [(Str.ofString "key", .ref q)]⟩) _ _ _
    rw [ksk_t1]
    have s1 := Heap.SameBut.update h2 (s.heap.objs.size + 1) (Obj.mapSeq fun _ => (#[] : Array Value))
    obtain ⟨e1, ho1⟩ : ∃ e1, (h2.update (s.heap.objs.size + 1) (Obj.mapSeq fun _ => (#[] : Array Value))).get? (s.heap.objs.size + 1) = some (seqObj "list" #[] e1) := ⟨_, get?_update_seq hoL fun _ => #[]⟩
    have hkS : ((h2.update (s.heap.objs.size + 1) (Obj.mapSeq fun _ => (#[] : Array Value))).push (seqObj "tuple" vs.toArray 0)).objs.size = s.heap.objs.size + 3 := by rw [size_push', Heap.size_update, hsz2]
    unfold ksk_tree
    refine wpAny_bind (listItems_at hoL rfl ?_)
    refine wpAny_bind (listUpdate_at hoL rfl ?_ (by rw [List.size_toArray]; omega) (Nat.zero_le _))
    refine wpAny_bind (seqEpoch_at ho1 rfl ?_)
    refine wpAny_bind (wpAny_newTuple ?_ (by show vs.length ≤ _; omega))
    refine wpAny_bind (wpAny_newList ?_ (Nat.zero_le _))
    refine wpAny_holding ?_
    have kK : ∀ b o, s.heap.get? b = some o → (((h2.update (s.heap.objs.size + 1) (Obj.mapSeq fun _ => (#[] : Array Value))).push (seqObj "tuple" vs.toArray 0)).push (seqObj "list" #[] 0)).get? b = some o := fun b o q => by
      refine Heap.get?_push_of_some _ (Heap.get?_push_of_some _ ?_)
      exact (s1.2 b (Nat.ne_of_lt (Nat.lt_succ_of_lt (Heap.lt_size q)))).trans (keep b o q)
    have hnew : (((h2.update (s.heap.objs.size + 1) (Obj.mapSeq fun _ => (#[] : Array Value))).push (seqObj "tuple" vs.toArray 0)).push (seqObj "list" #[] 0)).get? (s.heap.objs.size + 3) = some (seqObj "list" #[] 0) := by rw [← hkS]; exact Heap.get?_push_size _ rfl
    have hnew2 : (((h2.update (s.heap.objs.size + 1) (Obj.mapSeq fun _ => (#[] : Array Value))).push (seqObj "tuple" vs.toArray 0)).push (seqObj "list" #[] 0)).get? (s.heap.objs.size + 1) = some (seqObj "list" #[] e1) := Heap.get?_push_of_some _ (Heap.get?_push_of_some _ ho1)
    obtain ⟨J, ltv, h1, h3, h4, h5, h6⟩ := (h (s.heap.objs.size + 1) (s.heap.objs.size + 3) e1 _ kK (Nat.le_succ _) (Nat.le_add_right _ 3) (Nat.ne_of_gt (Nat.add_lt_add_left (show 1 < 3 by decide) _)) hnew hnew2).ex
    show wpAny _ _ _ _ _ { s with heap := ((h2.update (s.heap.objs.size + 1) (Obj.mapSeq fun _ => (#[] : Array Value))).push (seqObj "tuple" vs.toArray 0)).push (seqObj "list" #[] 0) }
    rw [hkS]
    refine keyed_rest hz (Nat.ne_of_gt (Nat.add_lt_add_left (show 1 < 3 by decide) _)) J h1 h3 h4 (fun keys s' ps a1 a2 a3 => ⟨_, rfl, ?_⟩) h6
    exact wpAny_pure ⟨_, rfl, h5 keys s' ps a1 a2 a3⟩
end
end Lk

set_option Elab.async false
set_option linter.all false
set_option maxRecDepth 100000
set_option maxHeartbeats 4000000
/-! a lambda of one parameter: entered, called. -/
namespace Lk
open PySem PySem.Spec PyProof.Rows L2 LamX
structure LamS1 (sc scope : Scope) (pw : Str) : Prop where
  kind : scope.kind = .function
  co : scope.isCoroutine = false
  gen : scope.isGenerator = false
  loc : scope.names.lookup pw = some .local
  own : ∀ y ∈ scope.names, (y.2 = .local → y.1 = pw) ∧ y.2 ≠ .cell
  free : ∀ y ∈ scope.names, y.2 = .free → sc.names.lookup y.1 = some .cell ∨ sc.names.lookup y.1 = some .free
theorem LamS1.has {X : Cx} {scope : Scope} {pw : Str} (L : LamS1 X.env.scope scope pw) (ok : X.Ok) : ∀ y ∈ scope.names, y.2 = .free → ∃ c, X.env.cells.lookup y.1 = some c := fun y hy e => (L.free y hy e).elim (fun k => ok.has _ (.inl k)) fun k => ok.has _ (.inr k)
section
variable {X : Cx} {pins : List (Addr × Obj)} {σ : L2.St} {H : Hp} {s : Shared}
theorem lam_start1 {A : Around} {outer : List Env} {E : XK} {scope : Scope} {f c' : Addr} {h₁ : Heap} {tk iw : Nat} {pw : Str} {u : Value} {x : V} (I : Inv X pins σ H s) (L : LamS1 X.env.scope scope pw) (hN : X.N.Nodup) (hi : X.N[iw]? = some pw) (rx : RelV x u)
    (e0 : Env0 X.prog X.w X.K X.mg X.base A outer s H) (hd : A.handled = none) (hns : h₁.Ns s.heap.objs.size fun y => ([(pw, u)] : List (Str × Value)).reverse.lookup y) (kp : ∀ b o, s.heap.get? b = some o → h₁.get? b = some o) :
    Inv (lamCx X A outer s H E scope f c') [] (σ.set iw (some x)) H { s with heap := h₁, toks := tk } := by
  have hfree := L.has I.ok
  have cm : ∀ {y c}, (cloFrom X.env.cells scope.names []).lookup y = some c → X.env.cells.lookup y = some c := fun {y c} e => by
    rcases cloFrom_mem (PySem.mem_of_lookup e) with hm | ⟨h1, h2⟩
    · cases hm
    · obtain ⟨c1, hc⟩ := hfree _ h1 rfl
      have hc : X.env.cells.lookup y = some c1 := hc
      have e2 : c = c1 := by
        rw [h2, hc] <;> rfl
      rw [e2]
      exact hc
  have look : ∀ {y}, scope.names.lookup y = some .free → ∃ c, (cloFrom X.env.cells scope.names []).lookup y = some c := fun {y} hl => mem_lookup (cloFrom_has (cells := X.env.cells) (acc := []) (PySem.mem_of_lookup hl))
  have cellK : ∀ {c : Addr} {v : Option Value}, s.heap.IsCell c v → h₁.IsCell c v := fun {c v} ⟨o, ho, hd⟩ => ⟨o, kp _ _ ho, hd⟩
  have noA : ∀ b : Addr, b ∉ (lamCx X A outer s H E scope f c').ex := fun b z => absurd (show b ∈ ([] : List Addr) from z) (by simp)
  refine ⟨⟨e0.mod, L.kind, rfl, rfl, Nat.le_refl _, fun y z c e1 e2 => I.ok.inj y z c (cm e1) (cm e2), fun y hy => ?_, fun y c z _ => ?_, fun _ => hd, Around.frames_deeper e0.frames, .inr ⟨rfl, rfl⟩, fun b z => absurd z (noA b), e0.bs, e0.bsz, fun b _ _ => noA b,
      fun b z => absurd z (noA b), e0.funs, e0.frf⟩,
    rfl, e0.bare, Un.kept kp, ⟨_, hns, fun i y v e1 e2 e3 => ?_⟩, fun y c e => ?_, e0.hok.fresh (Nat.le_refl _), fun y c e => ?_, fun q hq => absurd (show q ∈ ([] : List (Addr × Obj)) ++ [] from hq) (by simp), e0.hok.kept kp, ?_⟩
  · have hy : scope.names.lookup y = some .cell ∨ scope.names.lookup y = some .free := hy
    rcases hy with hy | hy
    · exact absurd rfl (L.own _ (PySem.mem_of_lookup hy)).2
    · exact look hy
  · have z : false = true := z
    cases z
  · have e3 : Vis scope y := e3
    have e1 : X.N[i]? = some y := e1
    by_cases hy : y = pw
    · subst hy
      have hix : i = iw := nd_ix hN e1 hi
      subst hix
      have hil : i < σ.length := by
        rcases Nat.lt_or_ge i σ.length with z | z
        · exact z
        · rw [List.getElem?_eq_none (by simpa using z)] at e2
          cases e2
      rw [List.getElem?_set_self hil] at e2
      have e4 : x = v := Option.some.inj (Option.some.inj e2)
      subst e4
      refine ⟨u, rx, .inl ⟨L.loc, ?_⟩⟩
      show ([(y, u)] : List (Str × Value)).reverse.lookup y = some u
      simp [List.lookup]
    · have hix : i ≠ iw := fun z => hy (by
        rw [z, hi] at e1
        exact (Option.some.inj e1).symm)
      rw [List.getElem?_set_ne (Ne.symm hix)] at e2
      rcases e3 with k | k | k
      · exact absurd ((L.own _ (PySem.mem_of_lookup k)).1 rfl) hy
      · exact absurd rfl (L.own _ (PySem.mem_of_lookup k)).2
      · obtain ⟨m, hn, hl⟩ := I.loc
        have hvis : Vis X.env.scope y := (L.free _ (PySem.mem_of_lookup k) rfl).elim (fun k => .inr (.inl k)) (fun k => .inr (.inr k))
        obtain ⟨w', r, q⟩ := hl i y v e1 e2 hvis
        obtain ⟨c2, h2⟩ := look k
        refine ⟨w', r, .inr ⟨.inr k, c2, h2, ?_⟩⟩
        have c1 := cm h2
        rcases q with ⟨k', _⟩ | ⟨_, c3, e', z⟩
        · have k' : X.env.scope.names.lookup y = some .local := k'
          rcases L.free _ (PySem.mem_of_lookup k) rfl with k2 | k2 <;> rw [show X.env.scope.names.lookup y = _ from k2] at k' <;> cases k'
        · rw [c1] at e'
          cases e'
          exact cellK z
  · obtain ⟨w', z⟩ := I.cell y c (cm e)
    exact ⟨w', cellK z⟩
  · exact I.freeC y c (cm e)
  · show (σ.set iw (some x)).length = X.N.length
    rw [List.length_set]
    exact I.len
/-- f(u) -/
theorem lam_call1 {A : Around} {scope : Scope} {f c' : Addr} {pm ctv : Value} {params : Arguments} {body : Expr} {iw k : Nat} {pw : Str} {u : Value} {x : V} {tb : TE} {Q : VK} (I : Inv X pins σ H s) (L : LamS1 X.env.scope scope pw) (hN : X.N.Nodup) (hi : X.N[iw]? = some pw) (rx : RelV x u)
    (e0 : Env0 X.prog X.w X.K X.mg X.base A X.stack s H) (hr : Room (k + 1) A) (hf : s.heap.get? f = some (PySem.W.kla_obj "<lambda>" (X.env.qual ++ "<lambda>") params body scope (cloFrom X.env.cells scope.names []) pm c' ctv)) (hc : H c' = some (CodeO c' (X.env.qual ++ "<lambda>")))
    (hbind : bindArgs (PySem.W.kla_fn "<lambda>" (X.env.qual ++ "<lambda>") params body scope (cloFrom X.env.cells scope.names []) pm (.ref c') ctv) ⟨[u], []⟩ = pure [(pw, u)])
    (hbody : PE (lamCx X A X.stack s H E0 scope f c') body tb) (ht : tb (σ.set iw (some x)) H Q) :
    wpAny (model X.prog X.w) A (call (.ref f) [u]) (fun r s'' => CE X.stack X.prog X.w H s Q r s'') (fun _ _ => False) s := by
  obtain ⟨⟨oc, vs, t, hoc, hdc, hvc⟩, _, _⟩ := I.hok c' _ hc
  have rc : codeAny (model X.prog X.w) A (.call (.ref f) ⟨[u], []⟩) (CR (L2.CX X.prog X.w) X.stack X.prog X.w H s Q E0) s := by
    refine PySem.W.kla_callFunE hr.depth hf rfl L.co L.gen rfl ⟨c', oc, vs, t, rfl, hoc, hdc, hvc⟩ ?_
    rw [hbind]
    refine wpAny_pure (wpAny_newFunctionEnv (fun y hy => (L.own y hy).2) (fun y hy => by rw [List.mem_singleton.mp hy]; exact L.loc) (fun h₁ hns hsb => ⟨I.nolimit.fresh _ hsb, ?_⟩) L.kind)
    show codeAny _ _ (.expr body (lamEnv X scope s.heap.objs.size f c')) _ _
    have kp : ∀ b o, s.heap.get? b = some o → h₁.get? b = some o := fun b o e => hsb.extBut b o (Nat.ne_of_lt (Heap.lt_size e)) (Heap.get?_push_of_some _ e)
    have J := lam_start1 (E := E0) (f := f) (c' := c') (tk := s.toks + [(pw, u)].length) I L hN hi rx e0 hr.hd hns kp
    refine PySem.W.kla_codeExpr (wpAny_mono (hbody.run [] _ _ H Q J ht) (fun v s' hq => ?_) fun e s' hq => hq)
    obtain ⟨w', H', J', rv, q⟩ := hq
    exact ⟨w', H', J'.os, J'.bare, J'.base, J'.hok, rv, q⟩
  refine wpAny_call (codeAny_mono rc fun r s' hq => ?_)
  cases r with
  | error e =>
    obtain ⟨_, _, _, _, _, _, _, _, _, _, _, _, z⟩ := (show L2.CX X.prog X.w X.stack H s E0 e s' from hq)
    exact z.elim
  | ok fl =>
    cases fl with
    | ret u => exact hq
    | next => exact False.elim hq
    | brk => exact False.elim hq
    | cont => exact False.elim hq
end
end Lk

set_option Elab.async false
set_option linter.all false
set_option maxRecDepth 100000
set_option maxHeartbeats 4000000
/-! sorted(words, key=lambda w: (int, int)) -/
namespace Lk
open PySem PySem.Spec PyProof.Rows L2 LamX
open SrtO (lexB lexB_iff lexB_no swo_lex pair_cmp pairs_sortableO lt2 Srtd)
noncomputable def kf (h : Heap) (v : Value) : Int × Int := open Classical in if p : ∃ p : Int × Int, Srt.IsPair h v p.1 p.2 then Classical.choose p else (0, 0)
theorem isPair_inj {h : Heap} {v : Value} {x y x' y' : Int} (a : Srt.IsPair h v x y) (b : Srt.IsPair h v x' y') : x = x' ∧ y = y' := by
  obtain ⟨c, o, t, u, n, rfl, ho, hc, hd⟩ := a
  obtain ⟨c', o', t', u', n', e, ho', hc', hd'⟩ := b
  cases e
  rw [ho] at ho'
  cases ho'
  rw [hd] at hd'
  cases hd'
  exact ⟨rfl, rfl⟩
theorem kf_eq {h : Heap} {v : Value} {x y : Int} (a : Srt.IsPair h v x y) : kf h v = (x, y) := by
  have ex : ∃ p : Int × Int, Srt.IsPair h v p.1 p.2 := ⟨(x, y), a⟩
  unfold kf
  rw [dif_pos ex]
  obtain ⟨h1, h2⟩ := isPair_inj (Classical.choose_spec ex) a
  exact Prod.ext h1 h2
/-- before b or beside it -/
def LexLe (κ : Str → Int × Int) (a b : Str) : Prop := lexB (κ b) (κ a) = false
def SortRest (T : List (Addr × Str)) (iw : Nat) (tb : TE) (σ : L2.St) (Q : VK) (x : V) (H1 : Hp) : Prop := ∃ (l : Addr) (ws : List Str), x = .ref l ∧ H1 l = some (.lst (ws.map V.str)) ∧ ws.length ≤ 1000 ∧ Tabs T H1 ∧ ∀ H2, ExtN H1 H2 → Tabs T H2 → ∃ κ : Str → Int × Int,
  (∀ (w : Str) (H3 : Hp) (Q' : VK), w ∈ ws → Same H2 H3 → (∀ H4 t, Same H3 H4 → H4 t = some (.tup [.int (κ w).1, .int (κ w).2]) → Q' (.ref t) H4) → tb (σ.set iw (some (.str w))) H3 Q') ∧
  ∀ (H5 : Hp) (l' : Addr) (ys : List Str), Same H2 H5 → H2 l' = none → ys.Perm ws → ys.Pairwise (LexLe κ) → H5 l' = some (.lst (ys.map V.str)) → Q (.ref l') H5
def SortRest1 (T : List (Addr × Str)) (iw : Nat) (tb : TE) (σ : L2.St) (Q : VK) : List V → Hp → Prop
  | [x], H1 => SortRest T iw tb σ Q x H1
  | _, _ => False
def tSortLam (T : List (Addr × Str)) (iw : Nat) (te tb : TE) : TE := fun σ H Q => te σ H (SortRest T iw tb σ Q)
/-- the keys made so far -/
def KeyJ (X : Cx) (pins : List (Addr × Obj)) (σ : L2.St) (H2 : Hp) (ws : List Str) (κ : Str → Int × Int) (a kS f : Addr) (e1 : Nat) (fo : Obj) (i : Nat) (keys : List Value) (s' : Shared) : Prop :=
  ∃ H' : Hp, Inv X pins σ H' s' ∧ Same H2 H' ∧ H' a = none ∧ H' kS = none ∧ H' f = none ∧ (∃ c, s'.heap.get? kS = some (seqObj "list" keys.toArray c)) ∧ s'.heap.get? a = some (seqObj "list" #[] e1) ∧ s'.heap.get? f = some fo ∧ keys.length = i ∧
    ∀ (j : Nat) (u : Value) (wd : Str), keys[j]? = some u → ws[j]? = some wd → ∃ t : Addr, u = Value.ref t ∧ H' t = some (.tup [.int (κ wd).1, .int (κ wd).2])
theorem strs_back : ∀ {vs : List Value} {ws : List Str}, StrsAre vs ws → vs.map strOf = ws
  | _, _, .nil => rfl
  | _, _, .cons y t h => by
    rw [List.map_cons, strs_back h]
    rfl
theorem zip_snd : ∀ {α β : Type} {l : List α} {m : List β}, l.length = m.length → (l.zip m).map (·.2) = m
  | _, _, [], [], _ => rfl
  | _, _, a :: l, b :: m, h => by
    rw [List.zip_cons_cons, List.map_cons, zip_snd (by simpa using h)]
section
variable {X : Cx}
theorem tup_pair {pins : List (Addr × Obj)} {σ : L2.St} {H : Hp} {s : Shared} {t : Addr} {x y : Int} (I : Inv X pins σ H s) (h : H t = some (.tup [.int x, .int y])) : Srt.IsPair s.heap (.ref t) x y := by
  obtain ⟨its, rv, ⟨o, ho, hc, n, hd⟩, _⟩ := I.tuple (SqT.of (K := X.K) h)
  cases rv with
  | cons r1 rv =>
    cases rv with
    | cons r2 rv =>
      cases rv
      obtain ⟨t1, rfl⟩ := r1
      obtain ⟨t2, rfl⟩ := r2
      exact ⟨t, o, t1, t2, n, rfl, ho, hc, hd⟩
theorem pe_sortLam {T : List (Addr × Str)} {c P : Addr} {params : Arguments} {body e : Expr} {scope : Scope} {lpos p pos kpos : Pos} {te tb : TE} {iw k : Nat} {pw : Str} (hc : X.calm = true) (hg : Gl X "sorted") (hm : X.mg "sorted" = none) (hN : X.N.Nodup) (hi : X.N[iw]? = some pw) (he : PE X e te)
    (TB : TabB X.base X.mg c P) (hcode : X.env.code = .ref c) (hmT : (P, X.env.qual ++ "<lambda>") ∈ T) (hu : ∀ p ∈ T, p.1 = P → p.2 = X.env.qual ++ "<lambda>") (hr : Room (k + 4) X.A) (L : LamS1 X.env.scope scope pw) (hdef : defaultsOf params X.env = ([], []))
    (hbind : ∀ (q : Str) (cl : List (Str × Addr)) (pm cv ctv u : Value), bindArgs (PySem.W.kla_fn "<lambda>" q params body scope cl pm cv ctv) ⟨[u], []⟩ = pure [(pw, u)])
    (hbody : ∀ (A : Around) (s : Shared) (H : Hp) (f c' : Addr), Room k (A.deeper (lamEnv X scope s.heap.objs.size f c')) → PE (lamCx X A X.stack s H E0 scope f c') body tb)
    (hs1 : starEach [e] X.env = (false, eval e X.env) :: starEach [] X.env := by rfl) (hpl0 : (backTo pos (starEach [] X.env)).any (·.1) = false := by rfl) (hb1 : backTo pos (starEach [e] X.env) = (false, eval e X.env) :: backTo pos (starEach [] X.env) := by rfl) (hpl : (backTo pos (starEach [e] X.env)).any (·.1) = false := by rfl)
    (hall : (backToKw pos (keywordEach [⟨some "key", .Lambda params body scope lpos, kpos⟩] X.env)).all (·.1.isSome) = true := by rfl) (hnone : (backToKw pos (keywordEach [⟨some "key", .Lambda params body scope lpos, kpos⟩] X.env)).any (·.1.isNone) = false := by rfl) :
    PE X (.Call (.Name "sorted" p) [e] [⟨some "key", .Lambda params body scope lpos, kpos⟩] pos) (tSortLam T iw te tb) := by
  refine ⟨fun pins s σ H Q I h => ?_⟩
  refine wpAny_Call_Name_kw (ld_blt I hg hm (by rfl) ?_ (by decide) (by decide))
  have hargs : PA X [e] (tCons te tNil) := pa_cons he pa_nil hs1
  refine PyProof.Rows.callWith_kw (thn (hargs.run pos pins s σ H (SortRest1 T iw tb σ Q) I h) fun us s1 ⟨vs, H1, I1, r1, q1⟩ => ?_) hb1 hpl hall hnone
  obtain ⟨x, rfl, q1⟩ : ∃ x, vs = [x] ∧ SortRest T iw tb σ Q x H1 := by
    match vs, q1 with
    | [x], q1 => exact ⟨x, rfl, q1⟩
  obtain ⟨l, ws, rfl, hl, hz, hT, q⟩ := q1
  have eus := Vals.ref1 r1
  subst eus
  show wpAny _ _ (evalAll ((do let v ← eval (.Lambda params body scope lpos) X.env; standAt pos; pure v) :: (backToKw pos (keywordEach [] X.env)).map (·.2))) _ _ s1
  refine wpAny_evalAll_cons (wpAny_bind (lam_make2 I1 TB hcode hmT hu hT hdef (L.has I1.ok) fun f c' pm ctv H2 s2 I2 eN T2 hf hfn hfr hco => wpAny_bind (wpAny_standAt (wpAny_pure ?_))))
  refine wpAny_evalAll_nil ?_
  show wpAny (model X.prog X.w) X.A (call (.builtin "sorted") [.ref l] [(Str.ofString "key", .ref f)]) _ _ s2
  obtain ⟨κ, hkey, hend⟩ := q H2 eN T2
  have hl2 : H2 l = some (.lst (ws.map V.str)) := eN _ _ hl (fun ps z => by cases z)
  obtain ⟨its, rv, pl, hzz⟩ := I2.list (SqL.of (K := X.K) hl2)
  have hS : StrsAre its ws := rv.strs
  have hlen : its.length = ws.length := by
    have e := rv.length
    rw [List.length_map] at e
    exact e.symm
  have nofr : ∀ g, s2.heap.objs.size ≤ g → g ∉ frs X.stack := fun g hg z => by
    rcases List.mem_cons.mp (I2.stkSub _ z) with e | e
    · have h1 := I2.lt
      rw [← e] at h1
      exact Nat.lt_irrefl _ (Nat.lt_of_lt_of_le h1 hg)
    · exact I2.nofs hg e
  refine sorted_keyed pl.isList (by rw [hlen]; exact hz) fun a kS e1 hK keep ha hkS hne h1 h2 => ⟨?_⟩
  have I0 : Inv X pins σ H2 { s2 with heap := hK, toks := s2.toks } := I2.kept keep
  have na : H2 a = none := I2.hok.fresh ha
  have nk : H2 kS = none := I2.hok.fresh hkS
  refine ⟨KeyJ X pins σ H2 ws κ a kS f e1 (PySem.W.kla_obj "<lambda>" (X.env.qual ++ "<lambda>") params body scope (cloFrom X.env.cells scope.names []) pm c' ctv),
    fun keys s' v u => lexB (kf s'.heap v) (kf s'.heap u), ?_, ?_, ?_, ?_, ⟨H2, I0, Same.refl _, na, nk, hfn, ⟨0, h1⟩, h2, keep _ _ hf, rfl, fun j u w hj _ => by cases hj⟩⟩
  · rintro i keys s' ⟨H', _, _, _, _, _, g1, g2, _, g3, _⟩
    exact ⟨g1, g2, g3⟩
  · rintro i v keys s' hv ⟨H', I', sm, na', nk', nf', ⟨c, g1⟩, g2, g3, g4, g5⟩
    obtain ⟨wd, t, rfl, hw⟩ := hS.item i v hv
    have hwm : wd ∈ ws := List.mem_of_getElem? hw
    have e0 : Env0 X.prog X.w X.K X.mg X.base X.A.in1.in1 X.stack s' H' := ⟨I'.ok.frames, I'.ok.mod, I'.bs, Nat.le_trans I'.ok.bsz I'.sz, I'.stack, I'.stkFree, I'.hok, I'.bare⟩
    have hr2 : Room (k + 2) X.A.in1.in1 := (Room.in1 (k := k + 3) hr).in1
    refine wpAny_mono (lam_call1 (k := k) (x := .str wd) (u := .str wd t) (Q := fun v H4 => Same H' H4 ∧ ∃ t : Addr, v = .ref t ∧ H4 t = some (.tup [.int (κ wd).1, .int (κ wd).2])) I' L hN hi ⟨t, rfl⟩ e0 (hr2.mono (by omega)) g3 (sm _ _ hco) (hbind _ _ _ _ _ _) (hbody _ _ _ _ _ ((Room.deeper (k := k + 1) hr2 _).mono (by omega)))
      (hkey wd H' _ hwm sm fun H4 t s4 h4 => ⟨s4, t, rfl, h4⟩)) (fun u s'' hq => ?_) fun _ _ z => z
    obtain ⟨v, H'', os2, bare2, un2, hok2, rv2, s4, tt, rfl, htt⟩ := hq
    obtain rfl : u = Value.ref tt := rv2
    have fK : kS ∉ frs X.stack := nofr _ hkS
    have fA : a ∉ frs X.stack := nofr _ ha
    have k1 := un2.keep _ _ g1 nk' fK (by simp)
    have k2 := un2.keep _ _ g2 na' fA (by simp)
    have k3 := un2.keep _ _ g3 nf' hfr (by simp)
    have n1 := un2.free _ _ g1 nk' (by simp)
    have n2 := un2.free _ _ g2 na' (by simp)
    have n3 := un2.free _ _ g3 nf' (by simp)
    have I4 : Inv X pins σ H'' s'' := I'.call' (ch := []) os2 un2 hok2 bare2 fun b z => absurd z (by simp)
    refine ⟨⟨c, k1⟩, H'', ?_, sm.trans s4, n2, n1, n3, ?_, ?_, ?_, ?_, ?_⟩
    · obtain ⟨f0, f1, f2, f3, f4, f5⟩ := I2.fpOk (H' := H'') hkS n1
      exact I4.turned (t' := s''.toks) (h' := s''.heap.update kS (Obj.mapSeq fun x => x.push (.ref tt))) (fun b o hb e => (Heap.get?_update_other _ _ (Ne.symm hb)).trans e) f0 f1 f3 f4 f5
    · have e : keys.toArray.push (Value.ref tt) = (keys ++ [Value.ref tt]).toArray := by simp
      exact ⟨_, (get?_update_seq k1 (·.push (Value.ref tt))).trans (congrArg (fun z => some (seqObj "list" z _)) e)⟩
    · exact (Heap.get?_update_other _ _ hne).trans k2
    · have hfk : kS ≠ f := fun z => by
        rw [z, k3] at k1
        have e := congrArg Obj.data (Option.some.inj k1)
        cases e
      exact (Heap.get?_update_other _ _ hfk).trans k3
    · rw [List.length_append, List.length_singleton, g4]
    · intro j u w hj hwj
      rcases Nat.lt_or_ge j keys.length with z | z
      · rw [List.getElem?_append_left z] at hj
        obtain ⟨t1, e1, e2⟩ := g5 j u w hj hwj
        exact ⟨t1, e1, s4 _ _ e2⟩
      · rw [List.getElem?_append_right z] at hj
        have hj0 : j - keys.length = 0 := by
          have := (List.getElem?_eq_some_iff.mp hj).1
          rw [List.length_singleton] at this
          omega
        have hji : j = i := by omega
        rw [hj0] at hj
        have e1 : Value.ref tt = u := Option.some.inj hj
        rw [hji, hw] at hwj
        have e2 : wd = w := Option.some.inj hwj
        subst e2
        exact ⟨tt, e1.symm, htt⟩
  · rintro keys s' ⟨H', I', sm, na', nk', nf', ⟨c, g1⟩, g2, g3, g4, g5⟩
    have hp : ∀ v ∈ keys, Srt.IsPair s'.heap v (kf s'.heap v).1 (kf s'.heap v).2 := fun v hv => by
      obtain ⟨j, hj⟩ := List.mem_iff_getElem?.mp hv
      have hjl : j < ws.length := by
        have := (List.getElem?_eq_some_iff.mp hj).1
        omega
      obtain ⟨t, rfl, ht⟩ := g5 j v _ hj (List.getElem?_eq_getElem hjl)
      have ip := tup_pair I' ht
      rw [kf_eq ip]
      exact ip
    refine ⟨swo_lex _, ?_⟩
    by_cases h0 : 0 < keys.length
    · obtain ⟨κ', a1, a2⟩ := pairs_sortableO (prog := X.prog) (w := X.w) (A := X.A.in1.in1) (s := s') (a := kS) h0 hp (fun o e z => by
        rw [g1] at e
        rw [← Option.some.inj e] at z
        exact absurd (show Value.type "list" = Value.type "tuple" from z) (by decide +kernel)) s'.heap (fun _ _ _ e => e)
      exact ⟨κ', fun _ => a1, a2⟩
    · exact ⟨_, fun z => absurd z (by omega), pair_cmp hp⟩
  · rintro keys s' ps ⟨H', I', sm, na', nk', nf', ⟨c, g1⟩, g2, g3, g4, g5⟩ hs hp
    have hkl : keys.length = its.length := g4
    have fact : ∀ p ∈ ps, ∃ (wd : Str) (t : Tok), p.2 = Value.str wd t ∧ kf s'.heap p.1 = κ wd := fun p hpm => by
      obtain ⟨j, hj⟩ := List.mem_iff_getElem?.mp (hp.mem_iff.mp hpm)
      obtain ⟨h1, h2⟩ := List.getElem?_zip_eq_some.mp hj
      obtain ⟨wd, t, e, hw⟩ := hS.item j _ h2
      obtain ⟨tt, e1, htt⟩ := g5 j _ wd h1 hw
      exact ⟨wd, t, e, by rw [e1]; exact kf_eq (tup_pair I' htt)⟩
    have hperm : ((ps.map (·.2)).map strOf).Perm ws := by
      have h3 := (hp.map (·.2)).map strOf
      rw [zip_snd hkl, strs_back hS] at h3
      exact h3
    have hpw : ((ps.map (·.2)).map strOf).Pairwise (LexLe κ) := by
      rw [List.map_map, List.pairwise_map]
      refine List.Pairwise.imp_of_mem (fun {x y} hx hy h => ?_) hs
      obtain ⟨w1, t1, e1, k1⟩ := fact x hx
      obtain ⟨w2, t2, e2, k2⟩ := fact y hy
      show lexB (κ (strOf y.2)) (κ (strOf x.2)) = false
      rw [e1, e2]
      show lexB (κ w2) (κ w1) = false
      rw [← k1, ← k2]
      exact h
    have hvs : StrsAre (ps.map (·.2)) ((ps.map (·.2)).map strOf) := strsAre_map _ fun v hv => by
      obtain ⟨p, hpm, rfl⟩ := List.mem_map.mp hv
      obtain ⟨wd, t, e, _⟩ := fact p hpm
      exact ⟨wd, t, e⟩
    obtain ⟨f0, f1, f2, f3, f4, f5⟩ := I2.fpOk (H' := H') hkS nk'
    have I5 := I'.turned (t' := s'.toks) (h' := s'.heap.update kS (Obj.mapSeq fun _ => #[])) (fun b o hb e => (Heap.get?_update_other _ _ (Ne.symm hb)).trans e) f0 f1 f3 f4 f5
    have ha5 : (s'.heap.update kS (Obj.mapSeq fun _ => #[])).get? a = some (seqObj "list" #[] e1) := (Heap.get?_update_other _ _ hne).trans g2
    have hlen2 : (((ps.map (·.2)).map strOf).map V.str).length ≤ sizeLine := by
      rw [List.length_map, hperm.length_eq]
      exact Nat.le_trans hz (by decide)
    have I6 := I5.take (it := a) (o := .lst (((ps.map (·.2)).map strOf).map V.str)) (t' := s'.toks) (h' := (s'.heap.update kS (Obj.mapSeq fun _ => #[])).update a (Obj.mapSeq fun _ => (ps.map (·.2)).toArray)) (fun b o hb e => (Heap.get?_update_other _ _ (Ne.symm hb)).trans e) (I2.fpOk ha na')
      ⟨hlen2, ps.map (·.2), _, vals_of_strs hvs, get?_update_seq ha5 fun _ => (ps.map (·.2)).toArray⟩
    exact ⟨.ref a, _, I6, rfl, hend _ a _ (sm.new na _) na hperm hpw upd_same⟩
end
end Lk

set_option Elab.async false
set_option linter.all false
set_option maxRecDepth 100000
set_option maxHeartbeats 4000000
namespace Lk
open PySem PySem.Spec PyProof.Rows L2 LamX
abbrev sLine : Stmt := top 37
/-- a def of the text whose code object stands at c -/
structure DefC (K : PySem.W.Frag) (mg : Str → Option Value) (x : Str) (st : Stmt) (c : Addr) : Prop where
  ex : ∃ (f : Addr) (oc : Value) (od : Option Addr) (kV doc pm : Value) (an : Option Addr) (ct : Value) (osl : Array (Option Value)),
    K.lookup f = some ⟨oc, od, .func (PySem.W.fnOf x x (defArgs st) (defBody st) (defScope st) .none kV doc pm an (.ref c) ct), osl⟩ ∧ PySem.W.codeIn K (.ref c) x = true ∧ PySem.W.keepIn K (.ref f) = true ∧ mg x = some (.ref f)
theorem DefC.cal {P : Program} {w : World} {K : PySem.W.Frag} {mg : Str → Option Value} {base : Heap} {x : Str} {st : Stmt} {c : Addr} {N ps : List Str} {k : Nat} {sp : Sp} (D : DefC K mg x st c) (S : FnScope N ps (defScope st)) (len : ∀ vs H Q E, sp vs H Q E → vs.length = ps.length)
    (hb : ∀ (kV doc pm : Value) (an : Option Addr) (cdv ct : Value) (us : List Value), us.length = ps.length → bindArgs (PySem.W.fnOf x x (defArgs st) (defBody st) (defScope st) .none kV doc pm an cdv ct) ⟨us, []⟩ = pure (ps.zip us))
    (hbody : ∀ (f : Addr) (A : Around) (outer : List Env) (s : Shared) (H : Hp) (vs : List V) (Q : VK) (E : XK), Room k (A.deeper (envOfC x (defScope st) s.heap.objs.size f (.ref c))) → sp vs H Q E →
      ∃ t, PSs (cxOf CX0 P w K mg base N x (defScope st) f (.ref c) A outer s H E).nox (defBody st) t ∧ t { nx := fun _ H' => Q .non H', rt := Q } (start N vs) H) : Cal P w K mg base CX0 (k + 1) x sp := by
  obtain ⟨f, oc, od, kV, doc, pm, an, ct, osl, lk, hcd, kp, hm⟩ := D.ex
  refine ⟨f, _, ps, fn_of lk hcd S len (fun A outer s H vs Q E hr hsp => ?_), hm, kp, .all (hb kV doc pm an (.ref c) ct)⟩
  obtain ⟨t, h, q⟩ := hbody f A outer s H vs Q E hr hsp
  exact ⟨t, h.nox, q⟩
theorem ext_lst {H H' : Hp} (e : ExtN H H') {a : Addr} {xs : List V} (h : H a = some (.lst xs)) : H' a = some (.lst xs) := e _ _ h (fun ps z => by cases z)
theorem ext_tup {H H' : Hp} (e : ExtN H H') {a : Addr} {xs : List V} (h : H a = some (.tup xs)) : H' a = some (.tup xs) := e _ _ h (fun ps z => by cases z)
theorem ext_dK {H H' : Hp} (e : ExtN H H') {a : Addr} {xs : List (Key × V)} (h : H a = some (.dK xs)) : H' a = some (.dK xs) := e _ _ h (fun ps z => by cases z)
theorem PrsL.ext {H H' : Hp} {b : Addr} {PP : List (Str × Str)} (h : PrsL H b PP) (e : ExtN H H') : PrsL H' b PP := by
  obtain ⟨ps, h1, h2⟩ := h
  exact ⟨ps, ext_lst e h1, Paired.mapP h2 fun a p z => ext_tup e z⟩
theorem NumsAt.ext {H H' : Hp} {d : Addr} {W : List Str} {N : Str → Int} (h : NumsAt H d W N) (e : ExtN H H') : NumsAt H' d W N := by
  obtain ⟨kvs, h1, h2⟩ := h
  exact ⟨kvs, ext_dK e h1, h2⟩
theorem rws_ext {H H' : Hp} {ls : List Addr} {rows : List (List Str)} (h : Rws H ls rows) (e : ExtN H H') : Rws H' ls rows := Paired.mapP h fun a p z => ext_lst e z
def lamS1B (sc scope : Scope) (pw : Str) : Bool :=
  decide (scope.kind = .function) && (!scope.isCoroutine && (!scope.isGenerator && (decide (scope.names.lookup pw = some .local) && scope.names.all fun y => (!decide (y.2 = .local) || decide (y.1 = pw)) && (!decide (y.2 = .cell) && (!decide (y.2 = .free) || (decide (sc.names.lookup y.1 = some .cell) || decide (sc.names.lookup y.1 = some .free)))))))
theorem lamS1_by {sc scope : Scope} {pw : Str} (h : lamS1B sc scope pw = true) : LamS1 sc scope pw := by
  unfold lamS1B at h
  simp only [Bool.and_eq_true, Bool.or_eq_true, Bool.not_eq_true', decide_eq_true_eq, decide_eq_false_iff_not, List.all_eq_true] at h
  obtain ⟨h1, h2, h3, h4, h5⟩ := h
  refine ⟨h1, h2, h3, h4, fun y hy => ⟨fun e => ?_, (h5 y hy).2.1⟩, fun y hy e => ?_⟩
  · rcases (h5 y hy).1 with z | z
    · exact absurd e z
    · exact z
  · rcases (h5 y hy).2.2 with z | z
    · exact absurd e z
    · exact z
/-- over a list of pairs -/
theorem lc_fmpL {K : PySem.W.Frag} {a : Addr} {ps : List Addr} {P : List (Str × Str)} (f : Str × Str → Option V) {g : TG} {tt : TT} {te : TE} {vs : List Nat} {σ : L2.St} {H1 : Hp} {D : Addr} {Qd : Hp → Prop} (hG : H1 a = some (.lst (ps.map V.ref))) (hP : Prs H1 ps P) (hD : H1 D = none) (hn : P.length ≤ 1000)
    (hs : ∀ p t H, p ∈ P → H t = some (.tup [.str p.1, .str p.2]) → Same H1 H → ∀ (N : V → Hp → Prop) (N0 : Hp → Prop), (∀ y H4, f p = some y → Same H H4 → N y H4) → (∀ H3, f p = none → Same H H3 → N0 H3) →
      g (.ref t) (wipe σ vs) H fun σ2 H2 => wipe σ2 vs = wipe σ vs ∧ tt σ2 H2 fun b H3 => if b = true then te σ2 H3 N else N0 H3)
    (hd : ∀ H, Same H1 H → H D = some (.lst (P.filterMap f)) → Qd H) :
    ∃ W : Nat → Nat → Hp → Prop, (∃ m, W 0 m (upd H1 D (.lst []))) ∧ ∀ i m H, W i m H →
      ((Itl K a).stop i H ∧ Qd H) ∨ ((Itl K a).go i H ∧ ∃ Nx : Hp → Prop, (∀ H', Nx H' → ∃ m', m' < m ∧ W (i + 1) m' H') ∧ ∀ x H', (Itl K a).yld i H x H' → g x (wipe σ vs) H' fun σ2 H2 => wipe σ2 vs = wipe σ vs ∧ tt σ2 H2 fun b H3 =>
        if b = true then te σ2 H3 fun y H4 => ∃ acc, H4 D = some (.lst acc) ∧ acc.length < sizeLine ∧ Nx (upd H4 D (.lst (acc ++ [y]))) else Nx H3) := by
  have hl : (ps.map V.ref).length = P.length := by rw [List.length_map]; exact hP.len
  refine lc_fm (n := (ps.map V.ref).length) (walk_list (K := K) (a := a) (xs := ps.map V.ref)) (fun i => P[i]?.bind f) (fun H s => SqL.of (s _ _ hG)) hD (by omega) (fun i x H H' hi s1 y N N0 hy h0 => ?_) fun H s1 h => hd H s1 (by rw [hl, range_fm] at h; exact h)
  obtain ⟨rfl, hx⟩ := y
  obtain ⟨t, ht, rfl⟩ := map_at hx
  obtain ⟨p, hp, hr⟩ := Paired.at' hP ht
  exact hs p t _ (List.mem_of_getElem? hp) (s1 _ _ hr) s1 N N0 (fun z H4 e sm => hy z H4 (by rw [hp]; exact e) sm) fun H3 e sm => h0 H3 (by rw [hp]; exact e) sm
def kap (N : Str → Int) (row : List Str) : Str → Int × Int := fun z => (N z, (row.idxOf z : Int))
theorem ord_idx {κ : Str → Int × Int} {ys : List Str} (hp : ys.Pairwise (LexLe κ)) {a b : Str} (ha : a ∈ ys) (hb : b ∈ ys) (h : SrtO.lexB (κ a) (κ b) = true) : ys.idxOf a < ys.idxOf b := by
  obtain ⟨a1, _⟩ := idx_at ha
  obtain ⟨b1, _⟩ := idx_at hb
  obtain ⟨a2, a3⟩ := List.getElem?_eq_some_iff.mp a1
  obtain ⟨b2, b3⟩ := List.getElem?_eq_some_iff.mp b1
  rcases Nat.lt_trichotomy (ys.idxOf a) (ys.idxOf b) with z | z | z
  · exact z
  · have e : a = b := by rw [z, b1] at a1; exact (Option.some.inj a1).symm
    rw [e] at h
    exact absurd (SrtO.lexB_iff.mp h) (by omega)
  · have := List.pairwise_iff_getElem.mp hp _ _ b2 a2 z
    unfold LexLe at this
    rw [a3, b3, h] at this
    cases this
theorem line_all {N : Str → Int} {PP : List (Str × Str)} {row ys : List Str} (n : row.Nodup) (pm : ys.Perm row) (hp : ys.Pairwise (LexLe (kap N row))) (hm : ∀ p ∈ PP, p.1 ∈ row ∧ p.2 ∈ row ∧ p.1 ≠ p.2) :
    (PP.all fun p => decide (((ys.idxOf p.1 : Nat) : Int) < ((ys.idxOf p.2 : Nat) : Int))) = !(WM.broken N PP row) := by
  unfold WM.broken
  have key : ∀ p ∈ PP, decide (((ys.idxOf p.1 : Nat) : Int) < ((ys.idxOf p.2 : Nat) : Int)) = !decide (N p.2 < N p.1 ∨ (N p.1 = N p.2 ∧ WM.ix row p.2 ≤ WM.ix row p.1)) := fun p hpp => by
    obtain ⟨m1, m2, m3⟩ := hm p hpp
    have y1 := pm.mem_iff.mpr m1
    have y2 := pm.mem_iff.mpr m2
    unfold WM.ix
    by_cases c : N p.2 < N p.1 ∨ (N p.1 = N p.2 ∧ row.idxOf p.2 ≤ row.idxOf p.1)
    · rw [decide_eq_true c]
      have hne : row.idxOf p.2 ≠ row.idxOf p.1 := fun z => by
        have e1 := (idx_at m1).1
        have e2 := (idx_at m2).1
        rw [z, e1] at e2
        exact m3 (Option.some.inj e2)
      have h2 : SrtO.lexB (kap N row p.2) (kap N row p.1) = true := SrtO.lexB_iff.mpr (by show N p.2 < N p.1 ∨ (N p.2 = N p.1 ∧ (row.idxOf p.2 : Int) < row.idxOf p.1); omega)
      have h3 := ord_idx hp y2 y1 h2
      rw [decide_eq_false (by omega)]
      rfl
    · rw [decide_eq_false c]
      have h2 : SrtO.lexB (kap N row p.1) (kap N row p.2) = true := SrtO.lexB_iff.mpr (by show N p.1 < N p.2 ∨ (N p.1 = N p.2 ∧ (row.idxOf p.1 : Int) < row.idxOf p.2); omega)
      have h3 := ord_idx hp y1 y2 h2
      rw [decide_eq_true (by omega)]
      rfl
  clear hm
  induction PP with
  | nil => rfl
  | cons p PP ih =>
    rw [List.all_cons, List.any_cons, key p List.mem_cons_self, ih fun q hq => key q (List.mem_cons_of_mem _ hq), Bool.not_or]
def spLine (K : PySem.W.Frag) (T : List (Addr × Str)) : Sp := fun vs H Q _ => ∃ (a b n : Addr) (W : List Str) (PP : List (Str × Str)) (N : Str → Int), vs = [.ref a, .ref b, .ref n] ∧ H a = some (.lst (W.map V.str)) ∧ PrsL H b PP ∧ NumsAt H n W N ∧ Wf W PP ∧ W.length ≤ 5 ∧ Tabs T H ∧
  ∀ H', ExtN H H' → Tabs T H' → ((WM.rowsT (srtS W) (srtS W).length).find? (WM.broken N PP) = none → Q .non H') ∧ ∀ l r, (WM.rowsT (srtS W) (srtS W).length).find? (WM.broken N PP) = some r → H' l = some (.lst (r.map .str)) → Q (.ref l) H'
section
variable {X : Cx}
theorem k_bmIndex {o e : Expr} {to : TE} {t : TA} {apos cpos : Pos} (K : PySem.W.Frag) (ho : PE X o to) (ha : PA X [e] t) (hK : X.K = K := by rfl)
    (hbase : attributeBase o "index" X.env (eval o X.env) = eval o X.env := by rfl)
    (hfew : ((backTo cpos (starEach [e] X.env)).all (fun x => !x.1) && (backToKw cpos (keywordEach [] X.env)).all (fun x => x.1.isSome)
      && decide (([e] : List Expr).length + ([] : List Keyword).length + (if ([] : List Keyword).isEmpty then 0 else 1) < 30)) = true := by rfl)
    (hline : (apos.endLine == cpos.line) = true := by rfl) (hs : starEach [e] X.env = (false, eval e X.env) :: starEach [] X.env := by rfl) (hplain : (backTo cpos (starEach [] X.env)).any (·.1) = false := by rfl) :
    PE X (.Call (.Attribute o "index" apos) [e] [] cpos) (tBM K "list" (rIndex K) to t) := by
  subst hK
  exact pe_bm PySem.F.plainAttrs_list PySem.F.slot_list_index PySem.F.type_list_index mt_index ho ha hbase hfew hline hs hplain
end
section
variable {P : Program} {w : World} {K : PySem.W.Frag} {mg : Str → Option Value} {base : Heap}
abbrev NLine : List Str := ["_law_words", "_law_pairs", "_law_numbers", "_law_order", "_law_line", "_law_word", "_law_one_here", "_law_other"]
theorem scLine : FnScope NLine ["_law_words", "_law_pairs", "_law_numbers"] (defScope sLine) := ⟨rfl, rfl, rfl, by decide +kernel, rfl, by decide +kernel, by decide +kernel⟩
/-- the name of a lambda of the def x -/
def lamQ (x : Str) : Str := (envOfC x (defScope sLine) 0 0 .none).qual ++ "<lambda>"
theorem cal_line {c Pt : Addr} {T : List (Addr × Str)} (B : Blt mg) (D : DefC K mg "_law_line_due" sLine c) (TB : TabB base mg c Pt) (hmT : (Pt, lamQ "_law_line_due") ∈ T) (hu : ∀ p ∈ T, p.1 = Pt → p.2 = lamQ "_law_line_due") (C1 : Cal P w K mg base CX0 1 "_law_rows" (spRows K)) :
    Cal P w K mg base CX0 6 "_law_line_due" (spLine K T) := by
  refine D.cal scLine (fun vs H Q E h => ?_) (fun _ _ _ _ _ _ us hl => match us, hl with | [_, _, _], _ => rfl) (fun f A outer s H vs Q E hr h => ?_)
  · obtain ⟨_, _, _, _, _, _, rfl, _⟩ := h
    rfl
  · obtain ⟨a, b, n, W, PP, N, rfl, ha, hb, hn, wf, h5, hT, q⟩ := h
    refine ⟨_, pss_cons (ps_for PassesOwn.never rfl (pi_list (pe_cc C1 hr (by decide) pass0 (pa_cons (pv 0) (pa_cons (pe_callB call_len_seq (by rfl) B.len PySem.boot_len (pa_cons (pv 0) pa_nil)) pa_nil)))) (pg_name (i := 4) scLine.nd rfl (Or.inr rfl))
        (pss_cons (ps_set (i := 3) scLine.nd rfl (Or.inr rfl) (pe_sortLam (T := T) (iw := 5) (k := 1) (pw := "_law_word") rfl (by rfl) B.sorted scLine.nd rfl (pv 4) TB rfl hmT hu hr (lamS1_by (sc := defScope sLine) (by decide +kernel)) rfl (fun _ _ _ _ _ _ => rfl)
            (fun A s H f c' hr => pe_tup (pa_cons (pe_dget (Rm.u1 hr) (pv 2) (pv 5) (fun _ _ => rfl)) (pa_cons (k_bmIndex K (pv 4) (pa_cons (pv 5) pa_nil)) pa_nil)))))
        (pss_one (ps_if (pt_not (pt_val (pe_callB (cr_all rfl) (by rfl) B.all (by decide +kernel) (pa_cons (pe_lc (own := [("_law_one_here", 6), ("_law_other", 7)]) (g := gTup K 2 (gCons (gName 6) (gCons (gName 7) gNil))) (tt := tYes) rfl scLine.nd (pi_list (pv 1)) (blkOk_by (N := NLine) (sc := defScope sLine) (by decide +kernel))
            (fun _ _ _ _ _ => pg_tup rfl (pgs_cons (pg_name (i := 6) scLine.nd rfl (Or.inl rfl)) (pgs_cons (pg_name (i := 7) scLine.nd rfl (Or.inl rfl)) pgs_nil))) (fun _ _ _ _ _ => pts_nil) (fun _ _ _ _ _ => pe_cmpR op_lt (k_bmIndex K (pv 3) (pa_cons (pv 6) pa_nil)) (k_bmIndex K (pv 3) (pa_cons (pv 7) pa_nil)) (nomark _))) pa_nil)))) (pss_one (ps_ret (pv 4))) pss_nil))))
      (pss_one (ps_ret pe_non)), ?_⟩
    have hSl : (srtS W).length = W.length := srtS_len W
    refine ⟨_, rfl, _, rfl, a, _, rfl, .inl (SqL.of ha), a, W, W.length, by rw [List.length_map]; rfl, ha, wf.nd, h5, h5, fun H1 l ls s1 hlH hl hrw => ⟨l, rfl, ⟨_, SqL.of hl⟩, ?_⟩⟩
    have e1 : ExtN H H1 := ExtN.of s1
    have T1 : Tabs T H1 := hT.ext s1
    rw [hSl] at q
    refine for_list (K := K) (a := l) (xs := ls.map V.ref) (fun i σ H' => ∃ v3 v4, σ = [some (.ref a), some (.ref b), some (.ref n), v3, v4, none, none, none] ∧ ExtN H1 H' ∧ Tabs T H' ∧ ∀ r ∈ (WM.rowsT (srtS W) W.length).take i, WM.broken N PP r = false)
      ⟨_, _, rfl, ExtN.refl _, T1, fun r hr => absurd hr (by simp)⟩ (fun i σ H' _ ⟨_, _, _, h, _⟩ => SqL.of (ext_lst h hl)) ?_ ?_
    · rintro i y σ H3 hi ⟨v3, v4, rfl, e3, T3, hno⟩
      obtain ⟨ra, hra, rfl⟩ := map_at hi
      obtain ⟨row, hrow, hrH⟩ := Paired.at' hrw hra
      obtain ⟨rl1, rl2, rl3⟩ := WM.mem_rows.mp (List.mem_of_getElem? hrow)
      have hrp : row.Perm (srtS W) := (WM.perm_rows ((srtS_asc wf.nd).nodup slt_lin)).mp (by rw [hSl]; exact List.mem_of_getElem? hrow)
      have hr3 := ext_lst e3 hrH
      have e03 := e1.trans e3
      refine ⟨_, rfl, ra, row, rfl, hr3, by omega, T3, fun H4 e4 T4 => ⟨kap N row, fun wd H5 Q' hwd s5 hq => ?_, fun H5 o ys s5 hoH pm pw hys => ?_⟩⟩
      · have hn5 := (hn.ext (e03.trans e4)).same s5
        have hr5 := s5 _ _ (ext_lst e4 hr3)
        obtain ⟨ix1, ix2⟩ := idx_at hwd
        exact ⟨_, rfl, _, rfl, n, _, rfl, hn5.get (mem_srtS.mp (rl3 wd hwd)), _, rfl, .inl ⟨rfl, _, SqL.of hr5⟩, _, rfl, ra, _, .str wd, row.idxOf wd, .str wd, rfl, rfl, SqL.of hr5, rfl, flat_strs _, by rw [List.getElem?_map, ix1]; rfl, beq_self_eq_true wd, idx_no ix2,
          (by show 2 ≤ sizeLine; decide), fun t ht => hq _ t ((Same.refl _).add ht _) upd_same⟩
      · have e05 := (e03.trans e4).trans (ExtN.of s5)
        have T5 := T4.ext s5
        obtain ⟨ps, hbl, hps⟩ := hb.ext e05
        have hr5 := s5 _ _ (ext_lst e4 hr3)
        refine ⟨_, rfl, b, rfl, ⟨_, SqL.of hbl⟩, fun E1 hE1 => ?_⟩
        refine lc_fmpL (fun p => some (.bl (decide (((ys.idxOf p.1 : Nat) : Int) < ((ys.idxOf p.2 : Nat) : Int))))) hbl hps hE1 (Nat.le_trans wf.fewP (by decide)) (fun p t H6 hp ht s6 N1 N0 hy h0 => ?_) fun H6 s6 hE6 => ?_
        · obtain ⟨m1, m2, m3⟩ := wf.mem p hp
          have y1 := pm.mem_iff.mpr (hrp.mem_iff.mpr (mem_srtS.mpr m1))
          have y2 := pm.mem_iff.mpr (hrp.mem_iff.mpr (mem_srtS.mpr m2))
          have ho6 := s6 _ _ hys
          obtain ⟨i1, i2⟩ := idx_at y1
          obtain ⟨j1, j2⟩ := idx_at y2
          exact ⟨t, _, rfl, SqT.of ht, rfl, _, _, rfl, _, _, rfl, rfl, rfl, _, rfl, .inl ⟨rfl, _, SqL.of ho6⟩, _, rfl, o, _, .str p.1, ys.idxOf p.1, .str p.1, rfl, rfl, SqL.of ho6, rfl, flat_strs _, by rw [List.getElem?_map, i1]; rfl, beq_self_eq_true p.1, idx_no i2,
            _, rfl, .inl ⟨rfl, _, SqL.of ho6⟩, _, rfl, o, _, .str p.2, ys.idxOf p.2, .str p.2, rfl, rfl, SqL.of ho6, rfl, flat_strs _, by rw [List.getElem?_map, j1]; rfl, beq_self_eq_true p.2, idx_no j2, _, _, rfl, rfl, hy _ _ rfl (Same.refl _)⟩
        · have ef : PP.filterMap (fun p => some (V.bl (decide (((ys.idxOf p.1 : Nat) : Int) < ((ys.idxOf p.2 : Nat) : Int))))) = (PP.map fun p => decide (((ys.idxOf p.1 : Nat) : Int) < ((ys.idxOf p.2 : Nat) : Int))).map V.bl := by
            rw [fm_some, List.map_map]
            rfl
          rw [ef] at hE6
          refine ⟨E1, _, rfl, SqL.of hE6, ?_⟩
          have eall : ((PP.map fun p => decide (((ys.idxOf p.1 : Nat) : Int) < ((ys.idxOf p.2 : Nat) : Int))).all id) = !(WM.broken N PP row) := by
            rw [List.all_map]
            exact line_all rl2 pm pw fun p hp => ⟨hrp.mem_iff.mpr (mem_srtS.mpr (wf.mem p hp).1), hrp.mem_iff.mpr (mem_srtS.mpr (wf.mem p hp).2.1), (wf.mem p hp).2.2⟩
          rw [eall]
          have e16 : ExtN H1 H6 := (e3.trans e4).trans (ExtN.of (s5.trans s6))
          have T6 := T5.ext s6
          refine ⟨_, rfl, ?_⟩
          cases hbk : WM.broken N PP row with
          | true =>
            refine iteT ⟨_, rfl, (q H6 (e1.trans e16) T6).2 ra row (find_first hrow hbk hno) (s6 _ _ hr5)⟩
          | false =>
            refine iteF ⟨_, _, rfl, e16, T6, fun r hr => ?_⟩
            rw [take_more hrow] at hr
            rcases List.mem_append.mp hr with z | z
            · exact hno r z
            · rw [List.mem_singleton.mp z]; exact hbk
    · rintro σ H3 ⟨v3, v4, rfl, e3, T3, hno⟩
      rw [List.length_map, hrw.length, List.take_length] at hno
      exact (q H3 (e1.trans e3) T3).1 (List.find?_eq_none.mpr fun r hr => by rw [hno r hr]; decide)
end
end Lk

set_option Elab.async false
set_option linter.all false
set_option maxRecDepth 100000
set_option maxHeartbeats 4000000
/-! try with several clauses 'except x as n' (one name n); it follows the library's rules for one such clause and for several nameless ones. -/
namespace Lk
open PySem PySem.Spec PyProof.Rows L2 LamX
/-- the ends of a clause's suite: n's slot is empty behind it -/
def endsN (i : Nat) (D : Ends) : Ends := { nx := fun σ' H' => D.nx (σ'.set i none) H', rt := D.rt, bk := fun σ' H' => D.bk (σ'.set i none) H', ct := fun σ' H' => D.ct (σ'.set i none) H' }
def wManyN (K : PySem.W.Frag) (i : Nat) (Wout : WX) (D : Ends) : List (Value × (Addr → Value → Option Addr → TS)) → WX
  | [] => Wout
  | (c, ts) :: r => fun cls d σ H => ∃ b, PySem.W.exmOne K cls c = some b ∧ (b = true → ∀ a, H a = none → ts a cls d (endsN i D) (σ.set i (some (.ref a))) H) ∧ (b = false → wManyN K i Wout D r cls d σ H)
inductive HdsN (X : Cx) (n : Str) : List ExceptHandler → List (Value × (Addr → Value → Option Addr → TS)) → Prop
  | nil : HdsN X n [] []
  | cons {x : Str} {c : Value} {ts : Addr → Value → Option Addr → TS} {b₀ : Stmt} {suite : List Stmt} {np pos' : Pos} {hds : List ExceptHandler} {l : List (Value × (Addr → Value → Option Addr → TS))} (hc : Names X x c)
      (hsu : ∀ (a : Addr) (oe : Obj) (cls : Value) (d : Option Addr) (pn : List (Addr × Obj)), Zc cls d oe → (∃ vs, oe.data = .fields vs) → PSs (X.suite a ((a, oe) :: pn)) (b₀ :: suite) (ts a cls d)) (r : HdsN X n hds l) :
      HdsN X n (.ExceptHandler (some (.Name x np)) (some n) (b₀ :: suite) pos' :: hds) ((c, ts) :: l)
section
variable {X : Cx} {n : Str} {i : Nat} {body : List Stmt} {h₀ : ExceptHandler} {hds : List ExceptHandler} {l : List (Value × (Addr → Value → Option Addr → TS))} {pos : Pos} {tb : WX → TS} {Wout : WX}
theorem ps_tryN (hs : X.stack = X.env :: X.outer) (hf : X.env.frame = some X.env.locals) (hN : X.N.Nodup) (hi : X.N[i]? = some n) (hln : X.env.kindOf n = some .local) (tk : Takes X Wout)
    (hb : ∀ (W : WX) (pn : List (Addr × Obj)) (xe : Value → Shared → Prop), Takes (X.tr pn xe) W → PassesOwn (model X.prog X.w) X.A X.env xe → PSs (X.tr pn xe) body (tb W))
    (hh : HdsN X n (h₀ :: hds) l) : PS X (.Try body (h₀ :: hds) [] [] pos) (fun D σ H => tb (wManyN X.K i Wout D l) D σ H) := by
  refine ⟨fun pins s σ H D I h => ?_⟩
  have ok := I.ok
  have hfr : X.A.frames = some (X.env :: X.outer) := by rw [ok.frames, hs]
  have hloc : Loc X.env.scope n := .inl hln
  refine wpAny_Try_except ?_
  refine wpAny_mono ((hb (wManyN X.K i Wout D l) (X.pn ++ pins) (fun e s1 => wpAny (model X.prog X.w) X.A (noteFrame e X.env) (fun _ s2 => wpAny (model X.prog X.w) X.A (setFlight e none) (fun _ s3 =>
    wpAny (model X.prog X.w) X.A (handleBy e X.env (h₀ :: hds)) (SP X pins D) X.xe s3) X.xe s2) X.xe s1) (fun u s' xx => ?_) PassesOwn.looking).run [] s σ H D (I.toTry _) h) (fun f s1 hsp => ?_) (fun e s1 he => he)
  · obtain ⟨a, B, sI, pins', σ', H', cls, d, rfl, J', nb, up, sky, na, os, ag, wsh⟩ := xx
    have J : Inv X pins σ' H' sI := J'.ofTry ok
    have sky' : Sky B (X.env :: X.outer) a (Zc cls d) X.env.locals s'.heap := by rw [← hs]; exact sky
    show wpAny (model X.prog X.w) X.A (noteFrame (.ref a) X.env) _ _ _
    refine Sky.land Zc.steady hfr hf sky' fun h3 fl3 up3 => ?_
    have J3 : Inv X pins σ' H' { s' with heap := h3 } := J.landed nb fl3.1 (up.trans up3) os ag
    obtain ⟨oe3, vs3, he3, hz3, hd3⟩ := fl3.there
    have nfr : a ∉ frs (X.env :: X.outer) := fun hm => by
      obtain ⟨_, o', e', hnf⟩ := fl3.2.2.1.mem hm
      rw [he3] at e'
      cases e'
      exact hnf _ hd3
    have nL : a ≠ X.env.locals := fun z => nfr (List.mem_filterMap.mpr ⟨X.env, List.mem_cons_self, by rw [hf, z]⟩)
    have nF : a ∉ X.fs := fun hm => by
      obtain ⟨e, he, q⟩ := List.mem_filterMap.mp hm
      exact nfr (List.mem_filterMap.mpr ⟨e, List.mem_cons_of_mem _ he, q⟩)
    have S3 := J3.suite he3 hd3 na nL nF
    have go : ∀ {hs' : List ExceptHandler} {l' : List (Value × (Addr → Value → Option Addr → TS))}, HdsN X n hs' l' → wManyN X.K i Wout D l' cls d σ' H' →
        wpAny (model X.prog X.w) X.A (handleBy (.ref a) X.env hs') (SP X pins D) X.xe { s' with heap := h3 } := by
      intro hs' l' hk
      induction hk with
      | nil =>
        intro wn
        refine wpAny_handleBy_nil ?_
        obtain ⟨k1, k2, k3, oe, vs, T, oT, ts', he, hz, hd, h1, hr⟩ := id fl3
        unfold PySem.passOn
        refine wpAny_bind (wpAny_field he hd h1 ?_)
        rw [if_neg (show ¬ ((Value.ref T == Value.none) = true) from by simp)]
        have fin : wpAny (model X.prog X.w) X.A (setFlight (.ref a) X.env.frame) (fun _ s4 => wpAny (model X.prog X.w) X.A (throw (.ref a) : Sem Flow) (SP X pins D) X.xe s4) X.xe { s' with heap := h3 } := by
          rw [hf]
          exact HandSPX.setFlight_upZ fl3 fun h4 hh4 up4 => wpAny_throw (tk _ _ ⟨a, B, sI, pins, σ', H', cls, d, rfl, J, nb, (up.trans up3).trans up4, .inr (.inr (by rw [hs]; exact hh4)), na, os, ag, wn⟩)
        first
          | exact wpAny_bind (wpAny_pure (wpAny_bind fin))
          | exact wpAny_bind fin
      | @cons x c ts b₀ suite np pos' hds2 l2 hc hsu r ih =>
        intro wn
        obtain ⟨b, hb1, hyes, hno⟩ := wn
        refine wpAny_handleBy_cons (codeAny_handlers_test ?_) (by intro q; cases q)
        have LT : PySem.W.Looks (model X.prog X.w) h3 (typeOf (.ref a)) cls := fun A Q E s k q => wpAny_typeOf_ref (k _ _ he3) (by rw [hz3.1]; exact q)
        have LM := PySem.W.exm_one (M := model X.prog X.w) (J3.kIn) LT hb1
        have test : ∀ {Q : Value → Shared → Prop} {E : Value → Shared → Prop}, Q c { s' with heap := h3 } → wpAny (model X.prog X.w) (X.A.mark (some (.ref a))) (eval (.Name x np) X.env) Q E { s' with heap := h3 } := fun {Q E} q => by
          obtain ⟨hg, hdbg, hm | ⟨hm, hv, hnn⟩⟩ := hc
          · exact ld_glob (X := X.suite a ((a, oe3) :: (X.pn ++ pins))) S3 hg hm q hdbg
          · exact ld_blt (X := X.suite a ((a, oe3) :: (X.pn ++ pins))) S3 hg hm hv q hnn hdbg
        refine test (LM.here ?_)
        cases b with
        | true =>
          refine codeAny_handlers_suite_as ?_
          refine HandSPX.lands_againZ fl3 fun h4 fl4 up4 => ?_
          have J4 : Inv X pins σ' H' { s' with heap := h4 } := J.landed nb fl4.1 ((up.trans up3).trans up4) os ag
          obtain ⟨oe4, vs4, he4, hz4, hd4⟩ := fl4.there
          have S4 := J4.suite he4 hd4 na nL nF
          refine store_ok (X := X.suite a ((a, oe4) :: (X.pn ++ pins))) (v := .ref a) S4 hN hi hloc rfl (fun s5 S5 => ?_) (.inr hln)
          refine wpAny_mono ((hsu a oe4 cls d (X.pn ++ pins) hz4 ⟨_, hd4⟩).run [] s5 _ H' _ S5 (hyes rfl a na)) (fun f s6 hsp => ?_) (fun _ _ z => False.elim z)
          have end_ : ∀ {σ6 : L2.St} {H6 : Hp} {Q : Shared → Prop}, Inv (X.suite a ((a, oe4) :: (X.pn ++ pins))) [] σ6 H6 s6 → (∀ s7, Inv X pins (σ6.set i none) H6 s7 → Q s7) →
              wpAny (model X.prog X.w) X.A (do bindName X.env n .none; unbindBehindTheSuite X.env n pos') (fun _ s7 => Q s7) X.xe s6 := fun {σ6 H6 Q} S6 hq => gone_ok (S6.unsuite ok) hN hi hln hq
          cases f with
          | next =>
            obtain ⟨σ6, H6, S6, q6⟩ := hsp
            exact end_ S6 fun s7 J7 => ⟨_, _, J7, q6⟩
          | brk =>
            obtain ⟨σ6, H6, S6, q6⟩ := hsp
            exact end_ S6 fun s7 J7 => ⟨_, _, J7, q6⟩
          | cont =>
            obtain ⟨σ6, H6, S6, q6⟩ := hsp
            exact end_ S6 fun s7 J7 => ⟨_, _, J7, q6⟩
          | ret u =>
            obtain ⟨v6, σ6, H6, S6, r6, q6⟩ := hsp
            exact end_ S6 fun s7 J7 => ⟨_, _, _, J7, r6, q6⟩
        | false =>
          show wpAny _ X.A (handleBy (.ref a) X.env hds2) _ _ _
          exact ih (hno rfl)
    exact go hh wsh
  · cases f with
    | next =>
      obtain ⟨σ', H', J', q⟩ := hsp
      exact wpAny_execs_nil ⟨σ', H', J'.ofTry ok, q⟩
    | brk =>
      obtain ⟨σ', H', J', q⟩ := hsp
      exact ⟨σ', H', J'.ofTry ok, q⟩
    | cont =>
      obtain ⟨σ', H', J', q⟩ := hsp
      exact ⟨σ', H', J'.ofTry ok, q⟩
    | ret u =>
      obtain ⟨v, σ', H', J', r, q⟩ := hsp
      exact ⟨v, σ', H', J'.ofTry ok, r, q⟩
end
end Lk

set_option Elab.async false
set_option linter.all false
set_option maxRecDepth 100000
set_option maxHeartbeats 4000000
namespace Lk
open PySem PySem.Spec PyProof.Rows L2 LamX
abbrev sRefused : Stmt := top 32
abbrev NRef : List Str := ["_law_ask", "e"]
theorem scRef : FnScope NRef ["_law_ask"] (defScope sRefused) := ⟨rfl, rfl, rfl, by decide +kernel, rfl, by decide +kernel, by decide +kernel⟩
theorem takes_len {X : Cx} {W : WX} (t : Takes X W) : Takes X (fun cls d σ H => σ.length = X.N.length → W cls d σ H) := fun u s' ⟨a, B, sI, pins, σ, H, cls, d, e, I, nb, up, sky, na, os, ag, w⟩ =>
  t u s' ⟨a, B, sI, pins, σ, H, cls, d, e, I, nb, up, sky, na, os, ag, w I.len⟩
/-- what is told of an exception -/
def RefE (CN CR : Addr) (Q : VK) : XK := fun cls d H' =>
  (cls = .ref CN ∧ ∃ (dd : Addr) (th : V), d = some dd ∧ H' dd = some (.xd [(("thing" : Str), th)]) ∧ ∀ t, H' t = none → Q (.ref t) (upd H' t (.tup [.str "numbers", th]))) ∨
  (cls = .ref CR ∧ ∃ (dd : Addr) (th : V), d = some dd ∧ H' dd = some (.xd [(("ring" : Str), th)]) ∧ ∀ t, H' t = none → Q (.ref t) (upd H' t (.tup [.str "ring", th])))
def TTref (CN CR : Addr) : (XK → Hp → VK → Prop) → Hp → VK → Prop := fun tl H Q => tl (RefE CN CR Q) H (fun _ H' => Q .non H')
/-- how the two classes match the clauses -/
structure Two (K : PySem.W.Frag) (mg : Str → Option Value) (CN CR : Addr) : Prop where
  nn : PySem.W.exmOne K (.ref CN) (.ref CN) = some true
  rn : PySem.W.exmOne K (.ref CR) (.ref CN) = some false
  rr : PySem.W.exmOne K (.ref CR) (.ref CR) = some true
  gN : mg "BadNumbers" = some (.ref CN)
  gR : mg "Ringed" = some (.ref CR)
  xN : XfC K CN
  xR : XfC K CR
  fN : PySem.W.findIn K (.ref CN) "thing" = some none
  fR : PySem.W.findIn K (.ref CR) "ring" = some none
theorem refused_gives {X : Cx} {q : Str} {g CN CR : Addr} {cdg : Value} (T : Two X.K X.mg CN CR) : GivesTo X NRef "_law_refused" (defScope sRefused) g cdg (defBody sRefused) "_law_ask" q (TTref CN CR) := by
  intro f c' s H Q tl act hc h
  refine ⟨_, pss_cons (ps_tryN (X := (cxOf C8.CX0 X.prog X.w X.K X.mg X.base NRef "_law_refused" (defScope sRefused) g cdg X.A X.stack s H C8.E0).nox) (n := "e") (i := 1) (l := [(.ref CN, _), (.ref CR, _)])
      (tb := fun W D σ H => ∃ Ech : XK, (∀ (cls : Value) (d : Option Addr) (σ' : L2.St) (H' : Hp), Ech cls d H' → List.length σ' = 2 → W cls d σ' H') ∧ σ[0]? = some (some (.ref f)) ∧ H c' = some (CodeO c' q) ∧ tl Ech H (fun _ H' => D.nx σ H'))
      rfl rfl scRef.nd rfl rfl LamX.takes0 (fun W pn xe tk _ => ?_)
      (.cons ⟨by rfl, by decide, .inl T.gN⟩ (fun a oe cls d pn hz hf => pss_one (ps_ret (pe_tup (pa_cons pe_str (pa_cons (pe_xf T.xN T.fN hz hf (pv 1) rfl) pa_nil)))))
        (.cons ⟨by rfl, by decide, .inl T.gR⟩ (fun a oe cls d pn hz hf => pss_one (ps_ret (pe_tup (pa_cons pe_str (pa_cons (pe_xf T.xR T.fR hz hf (pv 1) rfl) pa_nil))))) .nil)))
    (pss_one (ps_ret pe_non)), ?_⟩
  · refine ⟨fun pins s' σ H' D I h' => ?_⟩
    obtain ⟨Ech, hW, h1, h2, h3⟩ := h'
    exact (pss_one (ps_expr (act _ pn xe Ech _ _ (takes_len tk) (fun cls d σ' H' e hl => hW cls d σ' H' e hl)))).run pins s' σ H' D I ⟨h1, h2, h3⟩
  · refine ⟨RefE CN CR Q, fun cls d σ' H' e hl => ?_, rfl, hc, h⟩
    have get1 : ∀ a : Addr, (σ'.set 1 (some (V.ref a)))[1]? = some (some (V.ref a)) := fun a => List.getElem?_set_self (by omega)
    rcases e with ⟨rfl, dd, th, rfl, hdd, hq⟩ | ⟨rfl, dd, th, rfl, hdd, hq⟩
    · exact ⟨true, T.nn, fun _ a na => ⟨_, get1 a, rfl, rfl, dd, _, th, rfl, hdd, by simp [List.lookup], (by show 2 ≤ sizeLine; decide), fun t ht => hq t ht⟩, fun z => absurd z (by decide)⟩
    · exact ⟨false, T.rn, fun z => absurd z (by decide), fun _ => ⟨true, T.rr, fun _ a na => ⟨_, get1 a, rfl, rfl, dd, _, th, rfl, hdd, by simp [List.lookup], (by show 2 ≤ sizeLine; decide), fun t ht => hq t ht⟩, fun z => absurd z (by decide)⟩⟩
end Lk

set_option Elab.async false
set_option linter.all false
set_option maxRecDepth 100000
set_option maxHeartbeats 4000000
namespace Lk
open PySem PySem.Spec PyProof.Rows L2 LamX
section
variable {X : Cx}
/-- (s, o) != (s, o), o one object -/
def rNe2 : R2 := fun x y H Q => ∃ (t1 t2 : Addr) (z : Str) (p : Addr), x = .ref t1 ∧ y = .ref t2 ∧ H t1 = some (.tup [.str z, .ref p]) ∧ H t2 = some (.tup [.str z, .ref p]) ∧ Q (.bl false) H
theorem tup2 {pins : List (Addr × Obj)} {σ : L2.St} {H : Hp} {s : Shared} {t p : Addr} {z : Str} (I : Inv X pins σ H s) (h : H t = some (.tup [.str z, .ref p])) : ∃ tk : Tok, s.heap.IsTuple t #[.str z tk, .ref p] := by
  obtain ⟨its, rv, ⟨o, ho, hc, n, hd⟩, _⟩ := I.tuple (SqT.of (K := X.K) h)
  cases rv with
  | cons r1 rv =>
    cases rv with
    | cons r2 rv =>
      cases rv
      obtain ⟨t1, rfl⟩ := r1
      cases r2
      exact ⟨t1, o, ho, hc, n, hd⟩
theorem op_ne2 (hu : X.A.units + 64 < cLine) : OpR X (compareOp .NotEq) rNe2 := by
  intro pins s σ H x y v u Q I rx ry h
  obtain ⟨t1, t2, z, p, rfl, rfl, h1, h2, q⟩ := h
  obtain rfl : v = Value.ref t1 := rx
  obtain rfl : u = Value.ref t2 := ry
  obtain ⟨k1, g1⟩ := tup2 I h1
  obtain ⟨k2, g2⟩ := tup2 I h2
  have he : ∀ j (j1 : j < (#[Value.str z k1, .ref p] : Array Value).size) (j2 : j < (#[Value.str z k2, .ref p] : Array Value).size), SeqAt.EqAt X.A.in1 s (#[Value.str z k1, .ref p] : Array Value)[j] (#[Value.str z k2, .ref p] : Array Value)[j] true := fun j j1 j2 => by
    match j, j1 with
    | 0, _ =>
      have := (SeqRoads2.EqGives.str z z k1 k2).at X.A.in1 s
      rw [beq_self_eq_true] at this
      exact this
    | 1, _ => exact SeqAt.EqAt.same _
  exact SeqAt.RcNeAt.tuples g1 g2 (by omega) he X.prog X.w X.xe _ ⟨.bl _, H, I, rfl, q⟩
/-- != of data, or of two such pairs -/
def rNeR (K : PySem.W.Frag) : R2 := fun x y H Q => rNeD K x y H Q ∨ rNe2 x y H Q
theorem op_neR (hu : X.A.units + 64 < cLine) : OpR X (compareOp .NotEq) (rNeR X.K) := by
  intro pins s σ H x y v u Q I rx ry h
  rcases h with h | h
  · exact op_neD hu pins s σ H x y v u Q I rx ry h
  · exact op_ne2 hu pins s σ H x y v u Q I rx ry h
end
end Lk

set_option Elab.async false
set_option linter.all false
set_option maxRecDepth 100000
set_option maxHeartbeats 4000000
namespace Lk
open PySem PySem.Spec PyProof.Rows L2 LamX
/-- Wishes may be made -/
structure MkW (P : Program) (w : World) (K : PySem.W.Frag) (mg : Str → Option Value) (base : Heap) (C : Addr) : Prop where
  ex : ∃ (f : Addr) (fd : FuncData), Mk K C f ∧ FnOk P w K mg base CX0 4 f fd ["self", "words", "pairs"] (spInitW C) ∧ Binds K fd ["self", "words", "pairs"] [] ∧ mg "Wishes" = some (.ref C)
section
variable {X : Cx} {C : Addr}
theorem pe_wishes {p pos : Pos} {e : Expr} {es : List Expr} {t : TA} {k : Nat} (M : MkW X.prog X.w X.K X.mg X.base C) (hr : Room k X.A) (hk : 5 ≤ k) (ha : PA X (e :: es) t) (hg : Gl X "Wishes" := by rfl)
    (he : starEach (e :: es) X.env = (false, eval e X.env) :: starEach es X.env := by rfl) (hpl : (backTo pos (starEach es X.env)).any (·.1) = false := by rfl) : PE X (.Call (.Name "Wishes" p) (e :: es) [] pos) (tMake C (spInitW C) [] E0 t) := by
  obtain ⟨f, fd, m, F, b, hm⟩ := M.ex
  exact pe_make m F (hr.mono hk) hg hm b .nil pass0 ha (by decide) he hpl
end
theorem mkW_ans {C a b : Addr} {H1 : Hp} {W : List Str} {PP : List (Str × Str)} {Q : VK} (ha : H1 a = some (.lst (W.map V.str))) (hb : PrsL H1 b PP) (wf : Wf W PP) (q : ∀ H' x, Same H1 H' → H1 x = none → WishAt C H' x W PP → Q (.ref x) H') :
    ∀ x dx, H1 x = none → H1 dx = none → dx ≠ x → spInitW C (.ref x :: ([.ref a, .ref b] ++ [])) (upd (upd H1 dx (.own x)) x (.ins C dx [])) (fun v H2 => v = .non ∧ Q (.ref x) H2) E0 := fun x dx hx hdx nd => by
  obtain ⟨ps, h1, h2⟩ := hb
  refine ⟨H1, x, dx, a, b, W, PP, ps, rfl, fun c o e => ?_, hx, upd_same, ha, h1, h2, wf, fun H' s w => ⟨rfl, q H' x s hx w⟩⟩
  rw [upd_ne (ne_of_none e hx), upd_ne (ne_of_none e hdx)]
  exact e
/-- all but the tables and a -/
def SmN (a : Addr) (H H' : Hp) : Prop := ∀ b o, b ≠ a → H b = some o → (∀ ps, o ≠ .tbl ps) → H' b = some o
theorem SmN.refl (a : Addr) (H : Hp) : SmN a H H := fun _ _ _ h _ => h
theorem SmN.trans {a : Addr} {H H1 H2 : Hp} (x : SmN a H H1) (y : SmN a H1 H2) : SmN a H H2 := fun b o n h t => y b o n (x b o n h t) t
theorem SmN.of {a : Addr} {H H' : Hp} (x : Sm a H H') : SmN a H H' := fun b o n h _ => x b o n h
theorem SmN.ofE {a : Addr} {H H' : Hp} (x : ExtN H H') : SmN a H H' := fun b o _ h t => x b o h t
theorem SmN.ofS {a : Addr} {H H' : Hp} (x : Same H H') : SmN a H H' := fun b o _ h _ => x b o h
/-- the tables stay told while the pool changes -/
theorem tabs_sm {T : List (Addr × Str)} {a : Addr} {H H' : Hp} (t : Tabs T H) (p : PoolAt H a) (s : Sm a H H') : Tabs T H' := fun x hx => by
  obtain ⟨ps, h1, h2, h3⟩ := t x hx
  obtain ⟨x1, y1, z1, e1⟩ := p
  refine ⟨ps, s _ _ (fun z => by rw [z, e1] at h1; cases h1) h1, h2, fun pos cv hc => ?_⟩
  obtain ⟨c, g1, g2⟩ := h3 pos cv hc
  refine ⟨c, g1, s _ _ (fun z => ?_) g2⟩
  rw [z, e1] at g2
  have := Option.some.inj g2
  unfold CodeO at this
  cases this
end Lk

set_option Elab.async false
set_option linter.all false
set_option maxRecDepth 100000
set_option maxHeartbeats 4000000
/-! the ringed wishes of the law -/
namespace Lk
open PySem PySem.Spec PyProof.Rows L2 LamX
abbrev W0 : List Str := ["q", "p"]
abbrev P0 : List (Str × Str) := [("p", "q"), ("q", "p")]
def rs0 (wd : Str) : Option (List Str) := if wd = "p" then some ["p", "q"] else if wd = "q" then some ["q", "p"] else none
theorem wf0 : Wf W0 P0 := ⟨by unfold Wds; decide +kernel, by decide +kernel, by decide, by decide, by decide +kernel⟩
theorem rings0 : RingsAt W0 P0 rs0 := by
  refine ⟨fun wd hw => ?_, fun wd r h => ?_⟩
  · rcases List.mem_cons.mp hw with e | e
    · rw [e]; exact ⟨2, by decide +kernel⟩
    · rw [List.mem_singleton.mp e]; exact ⟨2, by decide +kernel⟩
  · unfold rs0 at h
    split at h
    · cases h; decide
    · split at h
      · cases h; decide
      · cases h
theorem ring0 : WM.wishRing rs0 (srtS W0) = some [("p" : Str), ("q" : Str)] := by decide +kernel
def dRing : PyData := .tuple [.str "ring", .list [.str "p", .str "q"]]
theorem shp_ring : SeqAt.shaped dRing = true := by decide +kernel
theorem eqv_ring : PyData.eqv dRing dRing = true := by decide +kernel
theorem dp_ring {K : PySem.W.Frag} {H : Hp} {t a : Addr} (h : H t = some (.tup [.str "ring", .ref a])) (ha : H a = some (.lst [.str "p", .str "q"])) : Dp K H (.ref t) dRing :=
  .tup (SqT.of h) (.cons (.str _) (.cons (.lst (SqL.of ha) (.cons (.str _) (.cons (.str _) .nil))) .nil))
theorem WishAt.ext {C : Addr} {H H' : Hp} {x : Addr} {W : List Str} {P : List (Str × Str)} (h : WishAt C H x W P) (e : ExtN H H') : WishAt C H' x W P := by
  obtain ⟨dx, tw, tp, ps, h1, h2, h3, h4⟩ := h
  exact ⟨dx, tw, tp, ps, e _ _ h1 (fun ps z => by cases z), ext_tup e h2, ext_tup e h3, Paired.mapP h4 fun a p z => ext_tup e z⟩
end Lk

set_option Elab.async false
set_option linter.all false
set_option maxRecDepth 100000
set_option maxHeartbeats 4000000
/-! things that are no numbers -/
namespace Lk
open PySem PySem.Spec PyProof.Rows L2 LamX
/-- no dict of numbers for W, now and later -/
structure OddAt (K : PySem.W.Frag) (H : Hp) (th : V) (W : List Str) : Prop where
  no : ∀ H', ExtN H H' → ThingIs K H' th W false
  kind : scl th = true ∨ ∃ p, th = .ref p
section
variable {K : PySem.W.Frag} {H : Hp} {W : List Str}
theorem odd_ty {th : V} {t : String} (h : ∀ H', ExtN H H' → TyX K H' th (.type t)) (e : kitB t "dict" = some false) (k : scl th = true ∨ ∃ p, th = .ref p) : OddAt K H th W :=
  ⟨fun H' e' => .inl ⟨.type t, fun H2 s2 => h H2 (e'.trans (ExtN.of s2)), kit_ty e, rfl⟩, k⟩
theorem odd_non : OddAt K H .non W := odd_ty (t := "NoneType") (fun _ _ => .base .non) (by decide +kernel) (.inl rfl)
theorem odd_int (i : Int) : OddAt K H (.int i) W := odd_ty (t := "int") (fun _ _ => .base (.int i)) (by decide +kernel) (.inl rfl)
theorem odd_bl (b : Bool) : OddAt K H (.bl b) W := odd_ty (t := "bool") (fun _ _ => .base (.bl b)) (by decide +kernel) (.inl rfl)
theorem odd_str {x : Str} (h : PyData.strOk x = true) : OddAt K H (.str x) W := odd_ty (t := "str") (fun _ _ => .base (.str x)) (by decide +kernel) (.inl h)
theorem odd_lst {a : Addr} {xs : List V} (h : H a = some (.lst xs)) : OddAt K H (.ref a) W := odd_ty (t := "list") (fun _ e => .base (.lst (ext_lst e h))) (by decide +kernel) (.inr ⟨a, rfl⟩)
/-- whether a value is a number from 0 on -/
def natB : Option V → Bool
  | some (.int i) => decide (0 ≤ i)
  | _ => false
theorem odd_len {d : Addr} {kvs : List (Key × V)} (h : H d = some (.dK kvs)) (hl : kvs.length ≠ W.length) (hv : ∀ w ∈ W, valV kvs (kS w) = none ∨ ∃ i : Int, valV kvs (kS w) = some (.int i)) : OddAt K H (.ref d) W := by
  refine ⟨fun H' e => .inr ⟨d, kvs, fun w => natB (valV kvs (kS w)), rfl, ext_dK e h, fun w hw => ?_, by rw [decide_eq_false hl]; rfl⟩, .inr ⟨d, rfl⟩⟩
  rcases hv w hw with q | ⟨i, q⟩
  · exact .inl ⟨q, by show natB (valV kvs (kS w)) = false; rw [q]; rfl⟩
  · exact .inr ⟨.int i, q, fun _ _ => by show NatV K _ (.int i) (natB (valV kvs (kS w))); rw [q]; exact natV_int i⟩
theorem odd_bad {d : Addr} {kvs : List (Key × V)} {word : Str} {v : V} (h : H d = some (.dK kvs)) (hw : word ∈ W) (hv : valV kvs (kS word) = some v) (hb : ∀ H', ExtN H H' → NatV K H' v false) (ho : ∀ w ∈ W, w ≠ word → ∃ i : Int, valV kvs (kS w) = some (.int i)) : OddAt K H (.ref d) W := by
  refine ⟨fun H' e => .inr ⟨d, kvs, fun w => if w = word then false else natB (valV kvs (kS w)), rfl, ext_dK e h, fun w hw' => ?_, ?_⟩, .inr ⟨d, rfl⟩⟩
  · by_cases q : w = word
    · subst q
      exact .inr ⟨v, hv, fun H2 s2 => by
        show NatV K H2 v (if w = w then false else natB (valV kvs (kS w)))
        rw [if_pos rfl]
        exact hb H2 (e.trans (ExtN.of s2))⟩
    · obtain ⟨i, hi⟩ := ho w hw' q
      refine .inr ⟨.int i, hi, fun _ _ => ?_⟩
      show NatV K _ (.int i) (if w = word then false else natB (valV kvs (kS w)))
      rw [if_neg q, hi]
      exact natV_int i
  · have e2 : (W.all fun w => if w = word then false else natB (valV kvs (kS w))) = false := List.all_eq_false.mpr ⟨word, hw, by rw [if_pos rfl]; exact Bool.false_ne_true⟩
    rw [e2, Bool.and_false]
/-! values that are no numbers -/
theorem bad_ty {v : V} {t : String} {b1 b2 : Bool} (h : ∀ H', ExtN H H' → TyX K H' v (.type t)) (e1 : kitB t "int" = some b1) (e2 : kitB t "bool" = some b2) (e : (b1 && !b2) = false) : ∀ H', ExtN H H' → NatV K H' v false :=
  fun H' x => .inr ⟨⟨.type t, b1, b2, h H' x, kit_ty e1, kit_ty e2, e⟩, rfl⟩
theorem bad_neg : ∀ H', ExtN H H' → NatV K H' (.int (-1)) false := fun H' _ => .inl ⟨-1, rfl, rfl⟩
theorem bad_non : ∀ H', ExtN H H' → NatV K H' .non false := bad_ty (t := "NoneType") (b1 := false) (b2 := false) (fun _ _ => .base .non) (by decide +kernel) (by decide +kernel) rfl
theorem bad_bl (b : Bool) : ∀ H', ExtN H H' → NatV K H' (.bl b) false := bad_ty (t := "bool") (b1 := true) (b2 := true) (fun _ _ => .base (.bl b)) (by decide +kernel) (by decide +kernel) rfl
theorem bad_str (x : Str) : ∀ H', ExtN H H' → NatV K H' (.str x) false := bad_ty (t := "str") (b1 := false) (b2 := false) (fun _ _ => .base (.str x)) (by decide +kernel) (by decide +kernel) rfl
theorem bad_tup {a : Addr} {xs : List V} (h : H a = some (.tup xs)) : ∀ H', ExtN H H' → NatV K H' (.ref a) false := bad_ty (t := "tuple") (b1 := false) (b2 := false) (fun _ e => .base (.tup (ext_tup e h))) (by decide +kernel) (by decide +kernel) rfl
theorem bad_lst {a : Addr} {xs : List V} (h : H a = some (.lst xs)) : ∀ H', ExtN H H' → NatV K H' (.ref a) false := bad_ty (t := "list") (b1 := false) (b2 := false) (fun _ e => .base (.lst (ext_lst e h))) (by decide +kernel) (by decide +kernel) rfl
/-- (z, th) != (z, th) is False -/
theorem eqv_dat2 (z : Str) (th : V) (k : scl th = true) : PyData.eqv (.tuple [.str z, datOf th]) (.tuple [.str z, datOf th]) = true := by
  cases th with
  | str x => simp [datOf, PyData.eqv, PyData.eqvAll]
  | int i => simp [datOf, PyData.eqv, PyData.eqvAll]
  | bl b => cases b <;> simp [datOf, PyData.eqv, PyData.eqvAll]
  | non => simp [datOf, PyData.eqv, PyData.eqvAll]
  | _ => cases k
theorem ne_same {t1 t2 : Addr} {th : V} {z : Str} {Q : VK} (hz : PyData.strOk z = true) (k : scl th = true ∨ ∃ p, th = .ref p) (h1 : H t1 = some (.tup [.str z, th])) (h2 : H t2 = some (.tup [.str z, th])) (q : Q (.bl false) H) : rNeR K (.ref t1) (.ref t2) H Q := by
  rcases k with k | ⟨p, rfl⟩
  · have sh : SeqAt.shaped (.tuple ([V.str z, th].map datOf)) = true := shp_tuple (f := datOf) (d := 0) (fun x hx => by
      rcases List.mem_cons.mp hx with e | e
      · rw [e]; exact dat_lay hz
      · rw [List.mem_singleton.mp e]; exact dat_lay k) (fun x => Nat.le_of_eq (dat_depth x)) (by decide)
    refine .inl ⟨.tuple [.str z, datOf th], .tuple [.str z, datOf th], .tup (SqT.of h1) (.cons (.str _) (.cons (dp_scl k) .nil)), .tup (SqT.of h2) (.cons (.str _) (.cons (dp_scl k) .nil)), sh, sh, ?_⟩
    rw [eqv_dat2 z th k]
    exact q
  · exact .inr ⟨t1, t2, z, p, rfl, rfl, h1, h2, q⟩
/-! dicts with one more -/
theorem merge_app (A B C : List (Key × V)) : mergeK A (B ++ C) = mergeK (mergeK A B) C := by
  unfold mergeK
  rw [List.foldl_append]
theorem merge_one {S : List Str} {g : Str → V} {k : Key} {v : V} (n : S.Nodup) (h : valV (dct S g) k = none) : mergeK [] (dct S g ++ [(k, v)]) = dct S g ++ [(k, v)] := by
  rw [merge_app, merge_dct0 g n]
  exact putK_new v h
theorem snoc_len (S : List Str) (g : Str → V) (k : Key) (v : V) : (dct S g ++ [(k, v)]).length = S.length + 1 := by
  rw [List.length_append, dct_len]
  rfl
theorem dct_num {S : List Str} {g : Str → V} {i : Int} : ∀ (S : List Str), valV (dct S g) (Sum.inl i) = none
  | [] => rfl
  | x :: S => by
    show valV ((kS x, g x) :: dct S g) (Sum.inl i) = none
    rw [valV_neg (p := (kS x, g x)) (fun q : kS x = Sum.inl i => by cases q)]
    exact dct_num S (S := S)
theorem odd_more {d : Addr} {k : Key} {v : V} {f : Str → Int} (n : W.Nodup) (h : H d = some (.dK (mergeK [] (dct (srtS W) (nmV f) ++ [(k, v)])))) (hk : valV (dct (srtS W) (nmV f)) k = none) : OddAt K H (.ref d) W := by
  rw [merge_one ((srtS_asc n).nodup slt_lin) hk] at h
  refine odd_len h (by rw [snoc_len, srtS_len]; omega) fun w hw => .inr ⟨f w, ?_⟩
  have hne : ¬ kS w = k := fun e => by
    rw [← e, dct_in (mem_srtS.mpr hw)] at hk
    cases hk
  rw [valV_snoc _ _ _ _ hk, if_neg hne, dct_in (mem_srtS.mpr hw)]
  rfl
/-- all but one -/
theorem odd_less {d : Addr} {word : Str} {f : Str → Int} (n : W.Nodup) (hw : word ∈ W) (h : H d = some (.dK (dct (W.filter fun w => decide (w ≠ word)) (nmV f)))) : OddAt K H (.ref d) W := by
  refine odd_len h ?_ fun w hw' => ?_
  · rw [dct_len]
    have h1 : (W.filter fun w => decide (w ≠ word)).length < W.length := by
      rcases Nat.lt_or_ge (W.filter fun w => decide (w ≠ word)).length W.length with z | z
      · exact z
      · have h2 := List.length_filter_eq_length_iff.mp (Nat.le_antisymm (List.length_filter_le _ _) z) word hw
        simp at h2
    omega
  · by_cases q : w = word
    · exact .inl (dct_out fun z => by
        have := (List.mem_filter.mp z).2
        rw [decide_eq_true_eq] at this
        exact this q)
    · exact .inr ⟨f w, by rw [dct_in (List.mem_filter.mpr ⟨hw', decide_eq_true q⟩)]; rfl⟩
theorem odd_put {d : Addr} {word : Str} {f : Str → Int} {v : V} (hw : word ∈ W) (h : H d = some (.dK (putK (dct (W.filter fun w => decide (w ≠ word)) (nmV f)) (kS word) v))) (hb : ∀ H', ExtN H H' → NatV K H' v false) : OddAt K H (.ref d) W := by
  refine odd_bad h hw (by rw [valV_put, if_pos rfl]) hb fun w hw' q => ⟨f w, ?_⟩
  rw [valV_put, if_neg (fun e : kS w = kS word => q (Sum.inr.inj e)), dct_in (List.mem_filter.mpr ⟨hw', decide_eq_true q⟩)]
  rfl
end
end Lk
namespace Lk
open PySem PySem.Spec PyProof.Rows L2 LamX
theorem WishAt.smn {C a : Addr} {H H' : Hp} {x : Addr} {W : List Str} {P : List (Str × Str)} (h : WishAt C H x W P) (p : PoolAt H a) (s : SmN a H H') : WishAt C H' x W P := by
  obtain ⟨dx, tw, tp, ps, h1, h2, h3, h4⟩ := h
  obtain ⟨x1, y1, z1, e1⟩ := p
  have ne : ∀ {b : Addr} {o : HO}, H b = some o → (∀ xs, o ≠ .lst xs) → b ≠ a := fun {b o} e n q => by
    rw [q, e1] at e
    exact n _ (Option.some.inj e).symm
  exact ⟨dx, tw, tp, ps, s _ _ (ne h1 fun _ z => by cases z) h1 (fun _ z => by cases z), s _ _ (ne h2 fun _ z => by cases z) h2 (fun _ z => by cases z), s _ _ (ne h3 fun _ z => by cases z) h3 (fun _ z => by cases z),
    Paired.mapP h4 fun c q e => s _ _ (ne e fun _ z => by cases z) e (fun _ z => by cases z)⟩
/-- the tables stay told while the dict at d changes -/
theorem tabs_put {T : List (Addr × Str)} {d : Addr} {H : Hp} {kvs : List (Key × V)} {o : HO} (t : Tabs T H) (hd : H d = some (.dK kvs)) : Tabs T (upd H d o) := fun x hx => by
  obtain ⟨ps, h1, h2, h3⟩ := t x hx
  refine ⟨ps, by rw [upd_ne (fun z => by rw [z, hd] at h1; cases h1)]; exact h1, h2, fun pos cv hc => ?_⟩
  obtain ⟨c, g1, g2⟩ := h3 pos cv hc
  refine ⟨c, g1, ?_⟩
  rw [upd_ne (fun z => ?_)]
  · exact g2
  · rw [z, hd] at g2
    have := Option.some.inj g2
    unfold CodeO at this
    cases this
/-- the pairs but one, in the making -/
theorem less_turn {E1 : Addr} {Hb H5 : Hp} {W : List Str} {f : Str → Int} {word wd : Str} {m : Nat} {ts : List Addr} (s5 : Same Hb H5) (hE : Hb E1 = none) (hts : H5 E1 = some (.lst (ts.map V.ref))) (hkv : KvAt H5 ts (((W.take m).filter fun w => decide (w ≠ word)).map fun z => (z, nmV f z))) (htl : ts.length ≤ m) (hm : m < 50) (hw : W[m]? = some wd) (hne : wd ≠ word)
    {t : Addr} (ht : H5 t = none) : ∃ acc, upd H5 t (.tup [.str wd, .int (f wd)]) E1 = some (.lst acc) ∧ acc.length < sizeLine ∧ Same Hb (upd (upd H5 t (.tup [.str wd, .int (f wd)])) E1 (.lst (acc ++ [.ref t]))) ∧
      ∃ ts', upd (upd H5 t (.tup [.str wd, .int (f wd)])) E1 (.lst (acc ++ [.ref t])) E1 = some (.lst (ts'.map V.ref)) ∧ KvAt (upd (upd H5 t (.tup [.str wd, .int (f wd)])) E1 (.lst (acc ++ [.ref t]))) ts' (((W.take (m + 1)).filter fun w => decide (w ≠ word)).map fun z => (z, nmV f z)) ∧ ts'.length ≤ m + 1 := by
  have t1 := (Same.refl H5).add ht (.tup [V.str wd, V.int (f wd)])
  have nEt : E1 ≠ t := ne_of_none hts ht
  refine ⟨_, t1 _ _ hts, small1000 (by rw [List.length_map]; omega), (s5.trans t1).new hE _, ts ++ [t], by rw [upd_same, List.map_append]; rfl, ?_, by rw [List.length_append, List.length_singleton]; omega⟩
  rw [take_more hw, List.filter_append, List.map_append]
  have e1 : ([wd].filter fun w => decide (w ≠ word)) = [wd] := List.filter_eq_self.mpr fun z hz => by
    rw [List.mem_singleton.mp hz]
    exact decide_eq_true hne
  rw [e1]
  refine Paired.snoc (KvAt.sm (x := E1) (hkv.same t1) ((Sm.refl _ _).put _) fun xs e => by rw [t1 _ _ hts] at e; cases e) ?_
  show upd (upd H5 t (.tup [V.str wd, V.int (f wd)])) E1 _ t = some (.tup [.str wd, .int (f wd)])
  rw [upd_ne nEt.symm, upd_same]
theorem less_skip {W : List Str} {f : Str → Int} {word : Str} {m : Nat} (hw : W[m]? = some word) : (((W.take (m + 1)).filter fun w => decide (w ≠ word)).map fun z => (z, nmV f z)) = (((W.take m).filter fun w => decide (w ≠ word)).map fun z => (z, nmV f z)) := by
  rw [take_more hw, List.filter_append]
  have e1 : ([word].filter fun w => decide (w ≠ word)) = [] := List.filter_eq_nil_iff.mpr fun z hz => by
    rw [List.mem_singleton.mp hz]
    simp
  rw [e1, List.append_nil]
end Lk

set_option Elab.async false
set_option linter.all false
set_option maxRecDepth 100000
set_option maxHeartbeats 4000000
namespace Lk
open PySem PySem.Spec PyProof.Rows L2 LamX
abbrev sRight : Stmt := top 39
section
variable {X : Cx}
/-- _law_refused(lambda: body) -/
theorem pe_refused {T : List (Addr × Str)} {CN CR c P : Addr} {params : Arguments} {body : Expr} {scope : Scope} {lpos p pos : Pos} {t : XK → TE} {k : Nat} (D : Def X.K X.mg "_law_refused" sRefused) (T2 : Two X.K X.mg CN CR)
    (TB : TabB X.base X.mg c P) (hcode : X.env.code = .ref c) (hmT : (P, X.env.qual ++ "<lambda>") ∈ T) (hu : ∀ p ∈ T, p.1 = P → p.2 = X.env.qual ++ "<lambda>") (hr : Room (k + 2) X.A) (L : LamS X.env.scope scope)
    (hbody : ∀ (A : Around) (outer : List Env) (s : Shared) (H : Hp) (E : XK) (f c' : Addr), Room k (A.deeper (lamEnv X scope s.heap.objs.size f c')) → PE (lamCx X A outer s H E scope f c') body (t E))
    (hg : Gl X "_law_refused" := by rfl) (hdef : defaultsOf params X.env = ([], []) := by rfl) (hbind : ∀ (q : Str) (cl : List (Str × Addr)) (pm cv ctv : Value), bindArgs (PySem.W.kla_fn "<lambda>" q params body scope cl pm cv ctv) ⟨[], []⟩ = pure [] := by intros; rfl) :
    PE X (.Call (.Name "_law_refused" p) [.Lambda params body scope lpos] [] pos) (tLam T (TTref CN CR) t) := by
  obtain ⟨f, fd, F, hm⟩ := D.ex
  obtain ⟨oc, od, kV, doc, pm, an, cdv, ct, osl, rfl, lk, hcd⟩ := F.ex
  exact pe_lamcall hg hm F.kp lk hcd (F.binds fun _ _ _ _ _ _ us hl => match us, hl with | [_], _ => rfl) scRef rfl (.inl rfl) (refused_gives T2) TB hcode hmT hu hr L hdef hbind hbody
end
section
variable {P : Program} {w : World} {K : PySem.W.Frag} {mg : Str → Option Value} {base : Heap}
abbrev NRight : List Str := ["_law_pool_here", "_law_made", "_law_words", "_law_due", "_law_word", "_law_odd", "_law_ringed", "_law_one_here"]
theorem scRight : FnScope NRight ["_law_pool_here", "_law_made", "_law_words", "_law_due"] (defScope sRight) := ⟨rfl, rfl, rfl, by decide +kernel, rfl, by decide +kernel, by decide +kernel⟩
def spRight (C : Addr) (T : List (Addr × Str)) : Sp := fun vs H Q _ => ∃ (a m b u : Addr) (W : List Str) (PP : List (Str × Str)), vs = [.ref a, .ref m, .ref b, .ref u] ∧ PoolAt H a ∧ b ≠ a ∧ u ≠ a ∧ WishAt C H m W PP ∧ H b = some (.lst (W.map V.str)) ∧ H u = some (lfD W PP) ∧ Wf W PP ∧ RingsAt W PP (fun _ => none) ∧ ("zz" : Str) ∉ W ∧ Tabs T H ∧
  ∀ H', SmN a H H' → Tabs T H' → Q (.bl true) H'
theorem cal_right {C CR CN c Pt : Addr} {T : List (Addr × Str)} (B : Blt mg) (D : DefC K mg "_law_refusals_right" sRight c) (DR : Def K mg "_law_refused" sRefused) (T2 : Two K mg CN CR) (TB : TabB base mg c Pt) (hmT : (Pt, lamQ "_law_refusals_right") ∈ T) (hu : ∀ p ∈ T, p.1 = Pt → p.2 = lamQ "_law_refusals_right") (MW : MkW P w K mg base C)
    (CO : Cal P w K mg base CX0 2 "_law_one" (spOne K)) (CB : Cal P w K mg base (L2.CX P w) 4 "breaking_line" (spBreak K C CR CN)) (CL : Cal P w K mg base (L2.CX P w) 5 "least_numbers" (spLeast C CR)) (CG : Cal P w K mg base (L2.CX P w) 5 "longest_chain" (spLong C CR)) :
    Cal P w K mg base CX0 8 "_law_refusals_right" (spRight C T) := by
  refine D.cal scRight (fun vs H Q E h => ?_) (fun _ _ _ _ _ _ us hl => match us, hl with | [_, _, _, _], _ => rfl) (fun f A outer s H vs Q E hr h => ?_)
  · obtain ⟨_, _, _, _, _, _, rfl, _⟩ := h
    rfl
  · obtain ⟨a, m, b, u, W, PP, rfl, hp, hba, hua, hm, hb, hu', wf, hrs, hzz, hT, q⟩ := h
    obtain ⟨tR, hR, qR⟩ : ∃ t, PSs (cxOf CX0 P w K mg base NRight "_law_refusals_right" (defScope sRight) f (.ref c) A outer s H E).nox ((defBody sRight).drop 3) t ∧
        ∀ (v4 v5 : Option V) (H1 : Hp), SmN a H H1 → Tabs T H1 → t { nx := fun _ H' => Q .non H', rt := Q } [some (.ref a), some (.ref m), some (.ref b), some (.ref u), v4, v5, none, none] H1 := by
      refine ⟨_, pss_cons (ps_set (i := 6) scRight.nd rfl (Or.inr rfl) (pe_wishes MW hr (by decide) (pa_cons (pe_lst (pa_cons pe_str (pa_cons pe_str pa_nil))) (pa_cons (pe_lst (pa_cons (pe_tup (pa_cons pe_str (pa_cons pe_str pa_nil))) (pa_cons (pe_tup (pa_cons pe_str (pa_cons pe_str pa_nil))) pa_nil))) pa_nil))))
        (pss_cons (ps_if (pt_cmpR (op_neD hr.units) (pe_refused (k := 5) DR T2 TB rfl hmT hu hr (lamS_by (sc := defScope sRight) (by decide +kernel)) (t := fun E => tCall (spLeast C CR) [] E (tCons (tVar 6) tNil)) (fun A outer s H E f c' hr => pe_cc CL hr (by decide) (passes_call (takes_of rfl rfl rfl rfl) (fun _ _ _ _ h => h)) (pa_cons (pv 6) pa_nil))) (pe_tup (pa_cons pe_str (pa_cons (pe_lst (pa_cons pe_str (pa_cons pe_str pa_nil))) pa_nil))) rfl) (pss_one (ps_ret pe_bl)) pss_nil)
        (pss_cons (ps_if (pt_cmpR (op_neD hr.units) (pe_refused (k := 5) DR T2 TB rfl hmT hu hr (lamS_by (sc := defScope sRight) (by decide +kernel)) (t := fun E => tCall (spLong C CR) [] E (tCons (tVar 6) tNil)) (fun A outer s H E f c' hr => pe_cc CG hr (by decide) (passes_call (takes_of rfl rfl rfl rfl) (fun _ _ _ _ h => h)) (pa_cons (pv 6) pa_nil))) (pe_tup (pa_cons pe_str (pa_cons (pe_lst (pa_cons pe_str (pa_cons pe_str pa_nil))) pa_nil))) rfl) (pss_one (ps_ret pe_bl)) pss_nil)
        (pss_one (ps_ret (pe_cmpR (op_eqD hr.units) (pe_refused (k := 5) DR T2 TB rfl hmT hu hr (lamS_by (sc := defScope sRight) (by decide +kernel)) (t := fun E => tCall (spBreak K C CR CN) [] E (tCons (tVar 6) (tCons (tC .non) tNil))) (fun A outer s H E f c' hr => pe_cc CB hr (by decide) (passes_call (takes_of rfl rfl rfl rfl) (fun _ _ _ _ h => h)) (pa_cons (pv 6) (pa_cons pe_non pa_nil)))) (pe_tup (pa_cons pe_str (pa_cons (pe_lst (pa_cons pe_str (pa_cons pe_str pa_nil))) pa_nil))) rfl))))), ?_⟩
      intro v4 v5 H1 s1 T1
      have hc2 : (2 : Nat) ≤ sizeLine := by decide
      refine ⟨hc2, fun la hla => ⟨hc2, fun t1 ht1 => ⟨hc2, fun t2 ht2 => ⟨hc2, fun lb hlb => ?_⟩⟩⟩⟩
      have g1 := (Same.refl H1).add hla (.lst [V.str "q", V.str "p"])
      have g2 := g1.add ht1 (.tup [V.str "p", V.str "q"])
      have g3 := g2.add ht2 (.tup [V.str "q", V.str "p"])
      have g4 := g3.add hlb (.lst [V.ref t1, V.ref t2])
      have n12 : t1 ≠ t2 := ne_of_none upd_same ht2
      have n1b : t1 ≠ lb := ne_of_none (by rw [upd_ne n12, upd_same]) hlb
      have n2b : t2 ≠ lb := ne_of_none upd_same hlb
      have nl1 : la ≠ t1 := ne_of_none upd_same ht1
      have nl2 : la ≠ t2 := ne_of_none (by rw [upd_ne nl1, upd_same]) ht2
      have nlb : la ≠ lb := ne_of_none (by rw [upd_ne nl2, upd_ne nl1, upd_same]) hlb
      intro x0 dx0 hx0 hdx0 nd0
      have k1 : upd (upd (upd (upd H1 la (.lst [V.str "q", V.str "p"])) t1 (.tup [V.str "p", V.str "q"])) t2 (.tup [V.str "q", V.str "p"])) lb (.lst [V.ref t1, V.ref t2]) la = some (.lst (W0.map V.str)) := by rw [upd_ne nlb, upd_ne nl2, upd_ne nl1, upd_same]; rfl
      have k2 : upd (upd (upd (upd H1 la (.lst [V.str "q", V.str "p"])) t1 (.tup [V.str "p", V.str "q"])) t2 (.tup [V.str "q", V.str "p"])) lb (.lst [V.ref t1, V.ref t2]) lb = some (.lst ([t1, t2].map V.ref)) := upd_same
      have k3 : Prs (upd (upd (upd (upd H1 la (.lst [V.str "q", V.str "p"])) t1 (.tup [V.str "p", V.str "q"])) t2 (.tup [V.str "q", V.str "p"])) lb (.lst [V.ref t1, V.ref t2])) [t1, t2] P0 :=
        .cons (by rw [upd_ne n1b, upd_ne n12, upd_same]) (.cons (by rw [upd_ne n2b, upd_same]) .nil)
      generalize upd (upd (upd (upd H1 la (.lst [V.str "q", V.str "p"])) t1 (.tup [V.str "p", V.str "q"])) t2 (.tup [V.str "q", V.str "p"])) lb (.lst [V.ref t1, V.ref t2]) = H1b at g4 hx0 hdx0 k1 k2 k3 ⊢
      refine ⟨H1b, x0, dx0, la, lb, W0, P0, [t1, t2], rfl, fun b' o' e' => by rw [upd_ne (ne_of_none e' hx0), upd_ne (ne_of_none e' hdx0)]; exact e', hx0, upd_same, k1, k2, k3, wf0, fun H2 s2 hw => ⟨rfl, ?_⟩⟩
      have T2' := (T1.ext g4).ext s2
      have e12 : ExtN H1 H2 := ExtN.of (g4.trans s2)
      have ringOut : ∀ (H3 H4 : Hp) (dd al : Addr) (Q' : VK), (∀ t, H4 t = none → Q' (.ref t) (upd H4 t (.tup [.str "ring", .ref al]))) → H4 dd = some (.xd [(("ring" : Str), .ref al)]) → RefE CN CR Q' (.ref CR) (some dd) H4 := fun H3 H4 dd al Q' hq hdd => .inr ⟨rfl, dd, .ref al, rfl, hdd, hq⟩
      refine ⟨T2', fun H3 e3 T3 => ⟨_, rfl, x0, W0, P0, rs0, rfl, hw.ext e3, wf0, rings0, fun en => absurd (en.symm.trans ring0) (by simp), fun ring er H4 dd al s4 hdd hal => ?_⟩⟩
      have er1 : ring = [("p" : Str), ("q" : Str)] := Option.some.inj (er.symm.trans ring0)
      subst er1
      refine ringOut H3 H4 dd al _ (fun t ht => ⟨hc2, fun l5 h5 => ⟨hc2, fun t6 ht6 => ?_⟩⟩) hdd
      -- the first
      have step : ∀ {Hb H3 H4 : Hp} {al t l5 t6 : Addr}, ExtN Hb H3 → Tabs T H3 → Same H3 H4 → H4 al = some (.lst ([("p" : Str), ("q" : Str)].map .str)) → H4 t = none → upd H4 t (.tup [.str "ring", .ref al]) l5 = none → upd (upd H4 t (.tup [.str "ring", .ref al])) l5 (.lst [V.str "p", V.str "q"]) t6 = none →
          ExtN Hb (upd (upd (upd H4 t (.tup [.str "ring", .ref al])) l5 (.lst [V.str "p", V.str "q"])) t6 (.tup [V.str "ring", V.ref l5])) ∧ Tabs T (upd (upd (upd H4 t (.tup [.str "ring", .ref al])) l5 (.lst [V.str "p", V.str "q"])) t6 (.tup [V.str "ring", V.ref l5])) ∧
          Dp K (upd (upd (upd H4 t (.tup [.str "ring", .ref al])) l5 (.lst [V.str "p", V.str "q"])) t6 (.tup [V.str "ring", V.ref l5])) (.ref t) dRing ∧ Dp K (upd (upd (upd H4 t (.tup [.str "ring", .ref al])) l5 (.lst [V.str "p", V.str "q"])) t6 (.tup [V.str "ring", V.ref l5])) (.ref t6) dRing := fun {Hb H3 H4 al t l5 t6} e3 T3 s4 hal ht h5 h6 => by
        have f1 := (Same.refl H4).add ht (.tup [.str "ring", .ref al])
        have f2 := f1.add h5 (.lst [V.str "p", V.str "q"])
        have f3 := f2.add h6 (.tup [V.str "ring", V.ref l5])
        have n56 : l5 ≠ t6 := ne_of_none upd_same h6
        have nt5 : t ≠ l5 := ne_of_none upd_same h5
        have nt6 : t ≠ t6 := ne_of_none (by rw [upd_ne nt5, upd_same]) h6
        refine ⟨e3.trans (ExtN.of (s4.trans f3)), T3.ext (s4.trans f3), dp_ring (a := al) (by rw [upd_ne nt6, upd_ne nt5, upd_same]) (f3 _ _ hal), dp_ring (a := l5) upd_same (by rw [upd_ne n56, upd_same])⟩
      obtain ⟨eA, TA, dA, dB⟩ := step e3 T3 s4 hal ht h5 ht6
      refine ⟨dRing, dRing, dA, dB, shp_ring, shp_ring, false, by rw [eqv_ring]; rfl, iteF ?_⟩
      generalize upd (upd (upd H4 t (.tup [.str "ring", .ref al])) l5 (.lst [V.str "p", V.str "q"])) t6 (.tup [V.str "ring", V.ref l5]) = H5 at eA TA ⊢
      refine ⟨TA, fun H6 e6 T6 => ⟨_, rfl, x0, W0, P0, rs0, rfl, hw.ext (eA.trans e6), wf0, rings0, fun en => absurd (en.symm.trans ring0) (by simp), fun ring er H7 dd7 al7 s7 hdd7 hal7 => ?_⟩⟩
      have er2 : ring = [("p" : Str), ("q" : Str)] := Option.some.inj (er.symm.trans ring0)
      subst er2
      refine ringOut H6 H7 dd7 al7 _ (fun t8 ht8 => ⟨hc2, fun l8 h8 => ⟨hc2, fun t9 ht9 => ?_⟩⟩) hdd7
      obtain ⟨eB, TB', dC, dD⟩ := step (eA.trans e6) T6 s7 hal7 ht8 h8 ht9
      refine ⟨dRing, dRing, dC, dD, shp_ring, shp_ring, false, by rw [eqv_ring]; rfl, iteF ?_⟩
      generalize upd (upd (upd H7 t8 (.tup [.str "ring", .ref al7])) l8 (.lst [V.str "p", V.str "q"])) t9 (.tup [V.str "ring", V.ref l8]) = H8 at eB TB' ⊢
      refine ⟨TB', fun H9 e9 T9 => ⟨_, rfl, x0, .non, W0, P0, rs0, rfl, hw.ext (eB.trans e9), wf0, rings0, fun en => absurd (en.symm.trans ring0) (by simp), fun ring er HA ddA alA sA hddA halA => ?_⟩⟩
      have er3 : ring = [("p" : Str), ("q" : Str)] := Option.some.inj (er.symm.trans ring0)
      subst er3
      refine ringOut H9 HA ddA alA _ (fun tB htB => ⟨hc2, fun lB hB => ⟨hc2, fun tC htC => ?_⟩⟩) hddA
      obtain ⟨eC, TC', dE, dF⟩ := step (eB.trans e9) T9 sA halA htB hB htC
      refine ⟨dRing, dRing, dE, dF, shp_ring, shp_ring, ?_⟩
      rw [eqv_ring]
      exact q _ (s1.trans (SmN.ofE (e12.trans eC))) TC'
    refine ⟨_, pss_cons (ps_set (i := 5) scRight.nd rfl (Or.inr rfl) (pe_cc CO hr (by decide) pass0 (pa_cons (pv 0) (pa_cons (pe_lst (pa_cons pe_non (pa_cons pe_int (pa_cons (pe_lst pa_nil) (pa_cons pe_str (pa_cons pe_bl (pa_cons (pe_callTy (call_dictP rfl) (by rfl) B.dict (by decide +kernel) (pa_cons (pe_op op_cat (LiI.pe_listItems rfl (pv 3) (by rfl) B.list (by rfl)) (pe_lst (pa_cons (pe_tup (pa_cons pe_str (pa_cons pe_int pa_nil))) pa_nil))) pa_nil)) (pa_cons (pe_callTy (call_dictP rfl) (by rfl) B.dict (by decide +kernel) (pa_cons (pe_op op_cat (LiI.pe_listItems rfl (pv 3) (by rfl) B.list (by rfl)) (pe_lst (pa_cons (pe_tup (pa_cons pe_int (pa_cons pe_int pa_nil))) pa_nil))) pa_nil)) pa_nil)))))))) pa_nil))))
      (pss_cons (ps_if (pt_cmpR (op_neR hr.units) (pe_refused (k := 5) DR T2 TB rfl hmT hu hr (lamS_by (sc := defScope sRight) (by decide +kernel)) (t := fun E => tCall (spBreak K C CR CN) [] E (tCons (tVar 1) (tCons (tVar 5) tNil))) (fun A outer s H E f c' hr => pe_cc CB hr (by decide) (passes_call (takes_of rfl rfl rfl rfl) (fun _ _ _ _ h => h)) (pa_cons (pv 1) (pa_cons (pv 5) pa_nil)))) (pe_tup (pa_cons pe_str (pa_cons (pv 5) pa_nil))) rfl) (pss_one (ps_ret pe_bl)) pss_nil)
      (pss_cons (ps_if (pt_cmpR (op_neD hr.units) (pv 2) (pe_lst pa_nil) (nomark _))
        (pss_cons (ps_set (i := 4) scRight.nd rfl (Or.inr rfl) (pe_cc CO hr (by decide) pass0 (pa_cons (pv 0) (pa_cons (pv 2) pa_nil))))
        (pss_cons (ps_set (i := 5) scRight.nd rfl (Or.inr rfl) (pe_callTy (call_dictP rfl) (by rfl) B.dict (by decide +kernel) (pa_cons (pe_lc (own := [("_law_one_here", 7)]) (g := gName 7) rfl scRight.nd (pi_list (pv 2)) (blkOk_by (N := NRight) (sc := defScope sRight) (by decide +kernel)) (fun _ _ _ _ _ => pg_name (i := 7) scRight.nd rfl (Or.inl rfl)) (fun _ _ _ _ _ => pts_one (pt_cmpR op_ne (pv 7) (pv 4) (nomark _))) (fun _ _ _ _ _ => pe_tup (pa_cons (pv 7) (pa_cons (pe_dget (Rm.u1 hr) (pv 3) (pv 7) (fun _ _ => rfl)) pa_nil)))) pa_nil)))
        (pss_cons (ps_if (pt_cmpR (op_neR hr.units) (pe_refused (k := 5) DR T2 TB rfl hmT hu hr (lamS_by (sc := defScope sRight) (by decide +kernel)) (t := fun E => tCall (spBreak K C CR CN) [] E (tCons (tVar 1) (tCons (tVar 5) tNil))) (fun A outer s H E f c' hr => pe_cc CB hr (by decide) (passes_call (takes_of rfl rfl rfl rfl) (fun _ _ _ _ h => h)) (pa_cons (pv 1) (pa_cons (pv 5) pa_nil)))) (pe_tup (pa_cons pe_str (pa_cons (pv 5) pa_nil))) rfl) (pss_one (ps_ret pe_bl)) pss_nil)
        (pss_cons (ps_dput (Rm.u1 hr) (pv 5) (pv 4) (pe_cc CO hr (by decide) pass0 (pa_cons (pv 0) (pa_cons (pe_lst (pa_cons (pe_un un_neg pe_int) (pa_cons pe_non (pa_cons pe_bl (pa_cons pe_str (pa_cons (pe_tup (pa_cons pe_int pa_nil)) (pa_cons (pe_lst (pa_cons pe_int pa_nil)) pa_nil))))))) pa_nil))) rfl)
        (pss_one (ps_if (pt_cmpR (op_neR hr.units) (pe_refused (k := 5) DR T2 TB rfl hmT hu hr (lamS_by (sc := defScope sRight) (by decide +kernel)) (t := fun E => tCall (spBreak K C CR CN) [] E (tCons (tVar 1) (tCons (tVar 5) tNil))) (fun A outer s H E f c' hr => pe_cc CB hr (by decide) (passes_call (takes_of rfl rfl rfl rfl) (fun _ _ _ _ h => h)) (pa_cons (pv 1) (pa_cons (pv 5) pa_nil)))) (pe_tup (pa_cons pe_str (pa_cons (pv 5) pa_nil))) rfl) (pss_one (ps_ret pe_bl)) pss_nil)))))) pss_nil) hR)), ?_⟩
    have hc1 : (1 : Nat) ≤ sizeLine := by decide
    have hc2 : (2 : Nat) ≤ sizeLine := by decide
    have h50 := wf.few
    have hwr : WM.wishRing (fun _ => none) (srtS W) = none := WM.wishRing_none fun _ _ => rfl
    have hSn : (srtS W).Nodup := (srtS_asc wf.nd).nodup slt_lin
    have hdl : (dct (srtS W) (nmV (WM.Lf PP W.length))).length = W.length := by rw [dct_len, srtS_len]
    -- the odd thing
    refine ⟨_, rfl, Nat.zero_le _, fun l0 hl0 => ?_⟩
    have s1 := (Same.refl H).add hl0 (.lst [])
    have hl1 : upd H l0 (.lst []) l0 = some (.lst []) := upd_same
    generalize upd H l0 (.lst []) = H1 at s1 hl1 ⊢
    refine ⟨_, rfl, u, _, rfl, s1 _ _ hu', fun H2 p2 ts2 s2 np2 nts2 nin2 hp2 hpr2 => ⟨hc2, fun t3 ht3 => ⟨hc1, fun l3 hl3 => ?_⟩⟩⟩
    have s2 : Same H1 H2 := s2
    have a3 := (Same.refl H2).add ht3 (.tup [V.str "zz", V.int 0])
    have b3 := a3.add hl3 (.lst [V.ref t3])
    have n3 : t3 ≠ l3 := ne_of_none upd_same hl3
    have k3 : upd (upd H2 t3 (.tup [V.str "zz", V.int 0])) l3 (.lst [V.ref t3]) l3 = some (.lst [V.ref t3]) := upd_same
    have j3 : upd (upd H2 t3 (.tup [V.str "zz", V.int 0])) l3 (.lst [V.ref t3]) t3 = some (.tup [V.str "zz", V.int 0]) := by rw [upd_ne n3, upd_same]
    generalize upd (upd H2 t3 (.tup [V.str "zz", V.int 0])) l3 (.lst [V.ref t3]) = H3 at b3 k3 j3 ⊢
    have hlen2 : ts2.length = W.length := hpr2.length.trans hdl
    refine ⟨p2, l3, _, _, rfl, rfl, b3 _ _ hp2, k3, by rw [List.length_map, hlen2]; exact Nat.le_of_lt (small1000 (by show W.length + 1 ≤ 1000; omega)), fun p4 hp4 => ?_⟩
    have c4 := (Same.refl H3).add hp4 (.lst (ts2.map V.ref ++ [V.ref t3]))
    refine ⟨p4, ts2 ++ [t3], _ ++ [(kS "zz", V.int 0)], rfl, SqL.of (by rw [upd_same, List.map_append]; rfl), Paired.snoc (Paired.mapP hpr2 fun c q e => SqT.of (c4 _ _ (b3 _ _ e))) (SqT.of (c4 _ _ j3)), fun d1 hd1 => ?_⟩
    have s4 := (((s1.trans s2).trans b3).trans c4).add hd1 (.dK (mergeK [] (dct (srtS W) (nmV (WM.Lf PP W.length)) ++ [(kS "zz", V.int 0)])))
    have z4 := ((s2.trans b3).trans c4).add hd1 (.dK (mergeK [] (dct (srtS W) (nmV (WM.Lf PP W.length)) ++ [(kS "zz", V.int 0)])))
    have hD1 : upd (upd H3 p4 (.lst (ts2.map V.ref ++ [V.ref t3]))) d1 (.dK (mergeK [] (dct (srtS W) (nmV (WM.Lf PP W.length)) ++ [(kS "zz", V.int 0)]))) d1 = some (.dK (mergeK [] (dct (srtS W) (nmV (WM.Lf PP W.length)) ++ [(kS "zz", V.int 0)]))) := upd_same
    have hl4 := z4 _ _ hl1
    generalize upd (upd H3 p4 (.lst (ts2.map V.ref ++ [V.ref t3]))) d1 (.dK (mergeK [] (dct (srtS W) (nmV (WM.Lf PP W.length)) ++ [(kS "zz", V.int 0)]))) = H4 at s4 hD1 hl4 ⊢
    clear hpr2 k3 j3 b3 a3 c4 z4
    refine ⟨_, rfl, u, _, rfl, s4 _ _ hu', fun H5 p5 ts5 s5 np5 nts5 nin5 hp5 hpr5 => ⟨hc2, fun t6 ht6 => ⟨hc1, fun l6 hl6 => ?_⟩⟩⟩
    have s5 : Same H4 H5 := s5
    have a6 := (Same.refl H5).add ht6 (.tup [V.int 5, V.int 0])
    have b6 := a6.add hl6 (.lst [V.ref t6])
    have n6 : t6 ≠ l6 := ne_of_none upd_same hl6
    have k6 : upd (upd H5 t6 (.tup [V.int 5, V.int 0])) l6 (.lst [V.ref t6]) l6 = some (.lst [V.ref t6]) := upd_same
    have j6 : upd (upd H5 t6 (.tup [V.int 5, V.int 0])) l6 (.lst [V.ref t6]) t6 = some (.tup [V.int 5, V.int 0]) := by rw [upd_ne n6, upd_same]
    generalize upd (upd H5 t6 (.tup [V.int 5, V.int 0])) l6 (.lst [V.ref t6]) = H6 at b6 k6 j6 ⊢
    have hlen5 : ts5.length = W.length := hpr5.length.trans hdl
    refine ⟨p5, l6, _, _, rfl, rfl, b6 _ _ hp5, k6, by rw [List.length_map, hlen5]; exact Nat.le_of_lt (small1000 (by show W.length + 1 ≤ 1000; omega)), fun p7 hp7 => ?_⟩
    have c7 := (Same.refl H6).add hp7 (.lst (ts5.map V.ref ++ [V.ref t6]))
    refine ⟨p7, ts5 ++ [t6], _ ++ [(Sum.inl 5, V.int 0)], rfl, SqL.of (by rw [upd_same, List.map_append]; rfl), Paired.snoc (Paired.mapP hpr5 fun c q e => SqT.of (c7 _ _ (b6 _ _ e))) (SqT.of (c7 _ _ j6)), fun d2 hd2 => ?_⟩
    have z7 := ((s5.trans b6).trans c7).add hd2 (.dK (mergeK [] (dct (srtS W) (nmV (WM.Lf PP W.length)) ++ [(Sum.inl 5, V.int 0)])))
    have s7 := s4.trans z7
    have hD2 : upd (upd H6 p7 (.lst (ts5.map V.ref ++ [V.ref t6]))) d2 (.dK (mergeK [] (dct (srtS W) (nmV (WM.Lf PP W.length)) ++ [(Sum.inl 5, V.int 0)]))) d2 = some (.dK (mergeK [] (dct (srtS W) (nmV (WM.Lf PP W.length)) ++ [(Sum.inl 5, V.int 0)]))) := upd_same
    have hl7 := z7 _ _ hl4
    have hD17 := z7 _ _ hD1
    generalize upd (upd H6 p7 (.lst (ts5.map V.ref ++ [V.ref t6]))) d2 (.dK (mergeK [] (dct (srtS W) (nmV (WM.Lf PP W.length)) ++ [(Sum.inl 5, V.int 0)]))) = H7 at s7 hD2 hl7 hD17 ⊢
    clear hpr5 k6 j6 b6 a6 c7 z7
    refine ⟨(by decide : (7 : Nat) ≤ sizeLine), fun lo hlo => ?_⟩
    have g8 := (Same.refl H7).add hlo (.lst [V.non, V.int 5, V.ref l0, V.str "ab", V.bl true, V.ref d1, V.ref d2])
    have s8 := s7.trans g8
    refine ⟨a, lo, _, rfl, hp.same s8, (hp.same s7).ne hlo, upd_same, by simp, (by show 7 < 1000; decide), fun H9 x s9 p9 hx => ?_⟩
    have na : ∀ {c : Addr} {o : HO}, H7 c = some o → (∀ xs, o ≠ .lst xs) → c ≠ a := fun {c o} e n q => by
      obtain ⟨x1, y1, z1, e1⟩ := hp.same s7
      rw [q, e1] at e
      exact n _ (Option.some.inj e).symm
    have nl0a : l0 ≠ a := hp.ne hl0
    have odd : OddAt K H9 x W := by
      rcases List.mem_cons.mp hx with z | hx
      · rw [z]; exact odd_non
      rcases List.mem_cons.mp hx with z | hx
      · rw [z]; exact odd_int 5
      rcases List.mem_cons.mp hx with z | hx
      · rw [z]; exact odd_lst (s9 _ _ nl0a (g8 _ _ hl7))
      rcases List.mem_cons.mp hx with z | hx
      · rw [z]; exact odd_str (by decide +kernel)
      rcases List.mem_cons.mp hx with z | hx
      · rw [z]; exact odd_bl true
      rcases List.mem_cons.mp hx with z | hx
      · rw [z]
        exact odd_more wf.nd (s9 _ _ (na hD17 fun _ z => by cases z) (g8 _ _ hD17)) (dct_out fun z => hzz (mem_srtS.mp z))
      · rw [List.mem_singleton.mp hx]
        exact odd_more wf.nd (s9 _ _ (na hD2 fun _ z => by cases z) (g8 _ _ hD2)) (dct_num (S := srtS W) (i := 5) _)
    have S9 : SmN a H H9 := SmN.of ((Sm.of s8).trans s9)
    have T9 : Tabs T H9 := tabs_sm (hT.ext s8) (hp.same s8) s9
    clear hl7 hD17 hD2 hD1 hl4 hl1 nl0a na hx s9 s8 g8 s7 s4 s1 s2 s5
    -- what is kept
    have keepW : ∀ {Hz : Hp}, SmN a H Hz → Hz b = some (.lst (W.map V.str)) := fun s => s _ _ hba hb fun _ z => by cases z
    have keepU : ∀ {Hz : Hp}, SmN a H Hz → Hz u = some (lfD W PP) := fun s => s _ _ hua hu' fun _ z => by cases z
    have keepM : ∀ {Hz : Hp}, SmN a H Hz → WishAt C Hz m W PP := fun s => hm.smn hp s
    refine ⟨T9, fun H10 e10 T10 => ⟨_, rfl, _, rfl, m, x, W, PP, fun _ => none, rfl, keepM (S9.trans (SmN.ofE e10)), wf, hrs, fun _ => ⟨false, odd.no _ e10, fun _ H11 dd s11 hdd => .inl ⟨rfl, dd, x, rfl, hdd, fun t12 ht12 => ⟨_, rfl, hc2, fun t13 ht13 => ?_⟩⟩, fun z => nomatch z⟩, fun ring er => absurd (er.symm.trans hwr) (by simp)⟩⟩
    have a12 := (Same.refl H11).add ht12 (.tup [V.str "numbers", x])
    have b12 := a12.add ht13 (.tup [V.str "numbers", x])
    have n12 : t12 ≠ t13 := ne_of_none upd_same ht13
    refine ne_same (by decide +kernel) odd.kind (by rw [upd_ne n12, upd_same]) upd_same ⟨false, rfl, iteF ?_⟩
    have S13 := (S9.trans (SmN.ofE e10)).trans (SmN.ofS (s11.trans b12))
    have T13 := T10.ext (s11.trans b12)
    have p13 : PoolAt (upd (upd H11 t12 (.tup [V.str "numbers", x])) t13 (.tup [V.str "numbers", x])) a := by
      obtain ⟨x1, y1, z1, e1⟩ := p9
      exact ⟨x1, y1, z1, b12 _ _ (s11 _ _ (ext_lst e10 e1))⟩
    generalize upd (upd H11 t12 (.tup [V.str "numbers", x])) t13 (.tup [V.str "numbers", x]) = H13 at S13 T13 p13 ⊢
    -- if there are words
    refine ⟨_, rfl, Nat.zero_le _, fun e2 he2 => ?_⟩
    have t1 := (Same.refl H13).add he2 (.lst [])
    refine ⟨_, _, dp_list (t1 _ _ (keepW S13)) (all_strs wf.wds), .lst (SqL.of upd_same) .nil, shp_dat (all_strs wf.wds), shp_nil, ?_⟩
    rw [eqv_nil]
    have S14 := S13.trans (SmN.ofS t1)
    have T14 := T13.ext t1
    have p14 := p13.same t1
    generalize upd H13 e2 (.lst []) = H14 at S14 T14 p14 ⊢
    by_cases hW : W = []
    · refine ⟨_, rfl, ?_⟩
      rw [show (W.map V.str).isEmpty = true by rw [hW]; rfl]
      exact iteF (qR _ _ _ S14 T14)
    · refine ⟨true, congrArg V.bl (by cases hWe : W with | nil => exact absurd hWe hW | cons _ _ => rfl), iteT ?_⟩
      refine ⟨_, rfl, _, rfl, a, b, _, rfl, p14, hba, keepW S14, by simpa using hW, by rw [List.length_map]; omega, fun H15 y s15 p15 hy => ?_⟩
      obtain ⟨word, hwd, rfl⟩ := List.mem_map.mp hy
      have S15 := S14.trans (SmN.of s15)
      have T15 := tabs_sm T14 p14 s15
      refine ⟨_, rfl, b, rfl, ⟨_, SqL.of (keepW S15)⟩, fun E1 hE1 => ?_⟩
      refine lc_it (walk_list (K := K) (a := b) (xs := W.map V.str)) (fun i H' => Same H15 H' ∧ ∃ ts, H' E1 = some (.lst (ts.map V.ref)) ∧ KvAt H' ts (((W.take i).filter fun w => decide (w ≠ word)).map fun z => (z, nmV (WM.Lf PP W.length) z)) ∧ ts.length ≤ i)
        ⟨(Same.refl H15).new hE1 _, [], upd_same, .nil, Nat.le_refl _⟩ (fun i H' _ h => SqL.of (h.1 _ _ (keepW S15))) ?_ ?_
      · rintro i z _ H16 hi ⟨s16, ts, hts, hkv, htl⟩ ⟨rfl, hz⟩
        obtain ⟨wd, hwi, rfl⟩ := map_at hz
        have hi5 : i < 50 := by rw [List.length_map] at hi; omega
        have hu16 := s16 _ _ (keepU S15)
        refine ⟨rfl, _, rfl, _, rfl, rfl, ?_⟩
        by_cases e : wd = word
        · subst e
          exact ⟨false, by simp, iteF ⟨s16, ts, hts, by rw [less_skip hwi]; exact hkv, Nat.le_succ_of_le htl⟩⟩
        · refine ⟨true, by simp [e], iteT ⟨_, rfl, _, rfl, _, rfl, u, _, rfl, .inl ⟨_, kS wd, .inl hu16, rfl, (dct_in (mem_srtS.mpr (List.mem_of_getElem? hwi))).symm⟩, hc2, fun t ht => ?_⟩⟩
          exact less_turn s16 hE1 hts hkv htl hi5 hwi e ht
      · rintro H16 ⟨s16, ts, hts, hkv, htl⟩
        rw [List.length_map, List.take_length] at hkv
        refine ⟨E1, ts, _, rfl, SqL.of hts, hkv.sq, fun d hd => ?_⟩
        rw [kvs_dct (W.filter fun w => decide (w ≠ word)) (nmV (WM.Lf PP W.length)), merge_dct0 _ (List.Sublist.nodup List.filter_sublist wf.nd)]
        have g17 := s16.add hd (.dK (dct (W.filter fun w => decide (w ≠ word)) (nmV (WM.Lf PP W.length))))
        have S17 := S15.trans (SmN.ofS g17)
        have T17 := T15.ext g17
        have p17 := p15.same g17
        have nda : d ≠ a := (p15.same s16).ne hd
        have hd17 : upd H16 d (.dK (dct (W.filter fun w => decide (w ≠ word)) (nmV (WM.Lf PP W.length)))) d = some (.dK (dct (W.filter fun w => decide (w ≠ word)) (nmV (WM.Lf PP W.length)))) := upd_same
        generalize upd H16 d (.dK (dct (W.filter fun w => decide (w ≠ word)) (nmV (WM.Lf PP W.length)))) = H17 at S17 T17 p17 hd17 ⊢
        have odd2 : OddAt K H17 (.ref d) W := odd_less wf.nd hwd hd17
        refine ⟨T17, fun H20 e20 T20 => ⟨_, rfl, _, rfl, m, .ref d, W, PP, fun _ => none, rfl, keepM (S17.trans (SmN.ofE e20)), wf, hrs, fun _ => ⟨false, odd2.no _ e20, fun _ H21 dd s21 hdd => .inl ⟨rfl, dd, _, rfl, hdd, fun t22 ht22 => ⟨_, rfl, hc2, fun t23 ht23 => ?_⟩⟩, fun z => nomatch z⟩, fun ring er => absurd (er.symm.trans hwr) (by simp)⟩⟩
        have a22 := (Same.refl H21).add ht22 (.tup [V.str "numbers", V.ref d])
        have b22 := a22.add ht23 (.tup [V.str "numbers", V.ref d])
        have n22 : t22 ≠ t23 := ne_of_none upd_same ht23
        refine ne_same (by decide +kernel) odd2.kind (by rw [upd_ne n22, upd_same]) upd_same ⟨false, rfl, iteF ?_⟩
        have e23 : ExtN H17 (upd (upd H21 t22 (.tup [V.str "numbers", V.ref d])) t23 (.tup [V.str "numbers", V.ref d])) := e20.trans (ExtN.of (s21.trans b22))
        have S23 := S17.trans (SmN.ofE e23)
        have T23 := T20.ext (s21.trans b22)
        have hd23 := ext_dK e23 hd17
        have p23 : PoolAt (upd (upd H21 t22 (.tup [V.str "numbers", V.ref d])) t23 (.tup [V.str "numbers", V.ref d])) a := by
          obtain ⟨x1, y1, z1, e1⟩ := p17
          exact ⟨x1, y1, z1, ext_lst e23 e1⟩
        generalize upd (upd H21 t22 (.tup [V.str "numbers", V.ref d])) t23 (.tup [V.str "numbers", V.ref d]) = H23 at S23 T23 p23 hd23 ⊢
        clear e23 b22 a22
        -- a value that is no number
        refine ⟨_, rfl, _, rfl, hc1, fun t24 ht24 => ⟨hc1, fun l24 hl24 => ⟨(by decide : (6 : Nat) ≤ sizeLine), fun lo2 hlo2 => ?_⟩⟩⟩
        have a24 := (Same.refl H23).add ht24 (.tup [V.int 1])
        have b24 := a24.add hl24 (.lst [V.int 0])
        have c24 := b24.add hlo2 (.lst [V.int (-1), V.non, V.bl true, V.str "1", V.ref t24, V.ref l24])
        have nt24 : t24 ≠ l24 := ne_of_none upd_same hl24
        have nl24a : l24 ≠ a := (p23.same a24).ne hl24
        have nt24a : t24 ≠ a := p23.ne ht24
        have hl25 := ((Same.refl _).add hlo2 (.lst [V.int (-1), V.non, V.bl true, V.str "1", V.ref t24, V.ref l24])) _ _ (upd_same (H := upd H23 t24 (.tup [V.int 1])) (a := l24) (o := .lst [V.int 0]))
        have ht25 := ((Same.refl _).add hlo2 (.lst [V.int (-1), V.non, V.bl true, V.str "1", V.ref t24, V.ref l24])) _ _ (show upd (upd H23 t24 (.tup [V.int 1])) l24 (.lst [V.int 0]) t24 = some (.tup [V.int 1]) by rw [upd_ne nt24, upd_same])
        refine ⟨a, lo2, _, rfl, p23.same c24, (p23.same b24).ne hlo2, upd_same, by simp, (by show 6 < 1000; decide), fun H26 v s26 p26 hv => ?_⟩
        have S26 := (S23.trans (SmN.ofS c24)).trans (SmN.of s26)
        have T26 := tabs_sm (T23.ext c24) (p23.same c24) s26
        have hd26 := s26 _ _ nda (c24 _ _ hd23)
        have ht26 := s26 _ _ nt24a ht25
        have hl26 := s26 _ _ nl24a hl25
        have nld : l24 ≠ d := fun e => by rw [e, hd26] at hl26; cases hl26
        have ntd : t24 ≠ d := fun e => by rw [e, hd26] at ht26; cases ht26
        refine ⟨_, rfl, _, rfl, d, _, rfl, DPut.k (k := kS word) hd26 (by rw [dct_len]; exact small1000 (Nat.le_trans (List.length_filter_le _ _) (by omega))), ?_⟩
        have T27 := tabs_put (o := .dK (putK (dct (W.filter fun w => decide (w ≠ word)) (nmV (WM.Lf PP W.length))) (kS word) v)) T26 hd26
        have S27 : SmN a H (upd H26 d (.dK (putK (dct (W.filter fun w => decide (w ≠ word)) (nmV (WM.Lf PP W.length))) (kS word) v))) := fun c o nc e ht => by
          have hc := (S15.trans (SmN.ofS s16)) _ _ nc e ht
          rw [upd_ne (ne_of_none hc hd)]
          exact S26 _ _ nc e ht
        have hd27 : upd H26 d (.dK (putK (dct (W.filter fun w => decide (w ≠ word)) (nmV (WM.Lf PP W.length))) (kS word) v)) d = some (.dK (putK (dct (W.filter fun w => decide (w ≠ word)) (nmV (WM.Lf PP W.length))) (kS word) v)) := upd_same
        have ht27 : upd H26 d (.dK (putK (dct (W.filter fun w => decide (w ≠ word)) (nmV (WM.Lf PP W.length))) (kS word) v)) t24 = some (.tup [V.int 1]) := by rw [upd_ne ntd]; exact ht26
        have hl27 : upd H26 d (.dK (putK (dct (W.filter fun w => decide (w ≠ word)) (nmV (WM.Lf PP W.length))) (kS word) v)) l24 = some (.lst [V.int 0]) := by rw [upd_ne nld]; exact hl26
        generalize upd H26 d (.dK (putK (dct (W.filter fun w => decide (w ≠ word)) (nmV (WM.Lf PP W.length))) (kS word) v)) = H27 at T27 S27 hd27 ht27 hl27 ⊢
        have bad : ∀ H', ExtN H27 H' → NatV K H' v false := by
          rcases List.mem_cons.mp hv with z | hv
          · rw [z]; exact bad_neg
          rcases List.mem_cons.mp hv with z | hv
          · rw [z]; exact bad_non
          rcases List.mem_cons.mp hv with z | hv
          · rw [z]; exact bad_bl true
          rcases List.mem_cons.mp hv with z | hv
          · rw [z]; exact bad_str "1"
          rcases List.mem_cons.mp hv with z | hv
          · rw [z]; exact bad_tup ht27
          · rw [List.mem_singleton.mp hv]; exact bad_lst hl27
        have odd3 : OddAt K H27 (.ref d) W := odd_put hwd hd27 bad
        refine ⟨T27, fun H30 e30 T30 => ⟨_, rfl, _, rfl, m, .ref d, W, PP, fun _ => none, rfl, keepM (S27.trans (SmN.ofE e30)), wf, hrs, fun _ => ⟨false, odd3.no _ e30, fun _ H31 dd s31 hdd => .inl ⟨rfl, dd, _, rfl, hdd, fun t32 ht32 => ⟨_, rfl, hc2, fun t33 ht33 => ?_⟩⟩, fun z => nomatch z⟩, fun ring er => absurd (er.symm.trans hwr) (by simp)⟩⟩
        have a32 := (Same.refl H31).add ht32 (.tup [V.str "numbers", V.ref d])
        have b32 := a32.add ht33 (.tup [V.str "numbers", V.ref d])
        have n32 : t32 ≠ t33 := ne_of_none upd_same ht33
        refine ne_same (by decide +kernel) odd3.kind (by rw [upd_ne n32, upd_same]) upd_same ⟨false, rfl, iteF ?_⟩
        exact qR _ _ _ (S27.trans (SmN.ofE (e30.trans (ExtN.of (s31.trans b32))))) (T30.ext (s31.trans b32))
end
end Lk

set_option Elab.async false
set_option linter.all false
set_option maxRecDepth 100000
set_option maxHeartbeats 4000000
/-! list(zip(xs, ys)), at the library's level -/
namespace Lk
open PySem PySem.W PySem.Calls PyProof.Rows PyProof.V PySem.Spec
theorem zl_no_len : typeLookup (.type "zip") "__len__" = pure none := by rw [typeLookup_type, builtinLookup_eq_fast]; kernel_rfl
theorem zl_no_hint : typeLookup (.type "zip") "__length_hint__" = pure none := by rw [typeLookup_type, builtinLookup_eq_fast]; kernel_rfl
/-- the zip at z, i pairs given out, while the list at S grows -/
def ZlSt (h : Heap) (z TI TO i1 i2 l1 l2 S : Addr) (xs ys : Array Value) (i : Nat) : Prop :=
  IsPair h TI (.ref i1) (.ref i2) ∧ h.IsListIter i1 l1 i ∧ h.IsListIter i2 l2 i ∧ h.IsList l1 xs ∧ h.IsList l2 ys ∧
    ((IsZip h z TI TO .none ∧ ∃ a b, IsPair h TO a b) ∨ ∃ (T : Addr) (f : Bool) (oT : Obj), IsZipHeld h z TI TO T f ∧ h.get? T = some oT ∧ T ≠ z ∧ T ≠ i1 ∧ T ≠ i2 ∧ T ≠ S)
theorem ZlSt.keep {h h' : Heap} {z TI TO i1 i2 l1 l2 S : Addr} {xs ys : Array Value} {i : Nat} (st : ZlSt h z TI TO i1 i2 l1 l2 S xs ys i) (hk : ∀ b o, b ≠ S → h.get? b = some o → h'.get? b = some o)
    (n : S ≠ z ∧ S ≠ TI ∧ S ≠ TO ∧ S ≠ i1 ∧ S ≠ i2 ∧ S ≠ l1 ∧ S ≠ l2) : ZlSt h' z TI TO i1 i2 l1 l2 S xs ys i := by
  obtain ⟨hTI, h1, h2, hl1, hl2, hz⟩ := st
  obtain ⟨dz, dTI, dTO, di1, di2, dl1, dl2⟩ := n
  refine ⟨hk _ _ (Ne.symm dTI) hTI, h1.at fun o e => hk _ o (Ne.symm di1) e, h2.at fun o e => hk _ o (Ne.symm di2) e, hl1.at fun o e => hk _ o (Ne.symm dl1) e, hl2.at fun o e => hk _ o (Ne.symm dl2) e, ?_⟩
  rcases hz with ⟨hz, a, b, hTO⟩ | ⟨T, f, oT, hz, hT, r1, r2, r3, r4⟩
  · exact .inl ⟨hk _ _ (Ne.symm dz) hz, a, b, hk _ _ (Ne.symm dTO) hTO⟩
  · exact .inr ⟨T, f, oT, hk _ _ (Ne.symm dz) hz, hk _ _ r4 hT, r1, r2, r3, r4⟩
section
variable {prog : Program} {w : World} {A : Around} {E : Value → Shared → Prop} {s : Shared} {z TI TO i1 i2 l1 l2 S : Addr} {xs ys : Array Value}
theorem zl_item {i : Nat} {x y : Value} {Q : Option Value → Shared → Prop} (D : ZipApart z TI TO i1 i2 l1 l2) (st : ZlSt s.heap z TI TO i1 i2 l1 l2 S xs ys i) (hS : S < s.heap.objs.size) (ex : xs[i]? = some x) (ey : ys[i]? = some y)
    (hQ : ∀ h', ZlSt h' z TI TO i1 i2 l1 l2 S xs ys (i + 1) → IsPair h' s.heap.objs.size x y → h'.objs.size = s.heap.objs.size + 1 → (∀ c o, c ≠ z → c ≠ TO → c ≠ i1 → c ≠ i2 → s.heap.get? c = some o → h'.get? c = some o) → Q (some (.ref s.heap.objs.size)) { s with heap := h' }) :
    wpAny (model prog w) A (pyNext (.ref z)) Q E s := by
  obtain ⟨hTI, h1, h2, hl1, hl2, hz⟩ := st
  have lt : ∀ {c o}, s.heap.get? c = some o → s.heap.objs.size ≠ c := fun e => Nat.ne_of_gt (Heap.lt_size e)
  have n1 : s.heap.objs.size ≠ i1 := let ⟨_, e, _⟩ := h1; lt e
  have n2 : s.heap.objs.size ≠ i2 := let ⟨_, e, _⟩ := h2; lt e
  rcases hz with ⟨hz, a, b, hTO⟩ | ⟨T, f, oT, hz, hT, r1, r2, r3, r4⟩
  · refine wpAny_pyNext_zip_item D hz hTI hTO h1 h2 hl1 hl2 ex ey fun h' a1 a2 a3 a4 a5 a6 hk => ?_
    exact hQ h' ⟨hk _ _ D.TIz D.TITO D.TIi1 D.TIi2 hTI, a3, a4, hl1.at fun o e => hk _ o D.l1z D.l1TO D.l1i1 D.l1i2 e, hl2.at fun o e => hk _ o D.l2z D.l2TO D.l2i1 D.l2i2 e,
        .inr ⟨s.heap.objs.size, false, _, a1, a5, lt hz, n1, n2, Nat.ne_of_gt hS⟩⟩ a5 a6 hk
  · refine wpAny_pyNext_zip_item_held D hz hT hTI h1 h2 hl1 hl2 ex ey fun h' a1 a3 a4 a5 a6 hk => ?_
    exact hQ h' ⟨hk _ _ D.TIz D.TIi1 D.TIi2 hTI, a3, a4, hl1.at fun o e => hk _ o D.l1z D.l1i1 D.l1i2 e, hl2.at fun o e => hk _ o D.l2z D.l2i1 D.l2i2 e,
        .inr ⟨T, true, oT, a1, hk _ _ r1 r2 r3 hT, r1, r2, r3, r4⟩⟩ a5 a6 fun c o c1 _ c3 c4 e => hk c o c1 c3 c4 e
theorem zl_done {i : Nat} {Q : Option Value → Shared → Prop} (hh : A.handled = none) (D : ZipApart z TI TO i1 i2 l1 l2) (st : ZlSt s.heap z TI TO i1 i2 l1 l2 S xs ys i) (hend : xs[i]? = none ∨ ys[i]? = none)
    (hQ : ∀ h', (∀ c o, c ≠ z → c ≠ TO → c ≠ i1 → c ≠ i2 → s.heap.get? c = some o → h'.get? c = some o) → Q none { s with heap := h' }) : wpAny (model prog w) A (pyNext (.ref z)) Q E s := by
  obtain ⟨hTI, h1, h2, hl1, hl2, hz⟩ := st
  rcases hz with ⟨hz, a, b, hTO⟩ | ⟨T, f, oT, hz, hT, r1, r2, r3, r4⟩
  · exact wpAny_pyNext_zip_end hh D hz hTI hTO h1 h2 hl1 hl2 hend hQ
  · exact wpAny_pyNext_zip_end_held hh D hz hT hTI h1 h2 hl1 hl2 hend fun h' hk => hQ h' fun c o c1 _ c3 c4 e => hk c o c1 c3 c4 e
/-- the tuples made so far -/
structure ZlG (xs ys : Array Value) (lo : Addr) (h : Heap) (as : List Addr) : Prop where
  rise : as.Pairwise (· < ·)
  above : ∀ a ∈ as, lo < a
  pairs : ∀ (j : Nat) (a : Addr), as[j]? = some a → ∃ x y, xs[j]? = some x ∧ ys[j]? = some y ∧ IsPair h a x y
theorem ZlG.there {lo : Addr} {h : Heap} {as : List Addr} (g : ZlG xs ys lo h as) {a : Addr} (ha : a ∈ as) : a < h.objs.size := by
  obtain ⟨j, hj⟩ := List.mem_iff_getElem?.mp ha
  obtain ⟨_, _, _, _, e⟩ := g.pairs j a hj
  exact Heap.lt_size e
end
section
variable {prog : Program} {w : World} {A : Around} {E : Value → Shared → Prop} {s : Shared} {R : Result → Shared → Prop} {z TI TO i1 i2 l1 l2 S : Addr} {xs ys : Array Value}
theorem zl_loop (hh : A.handled = none) (D : ZipApart z TI TO i1 i2 l1 l2) (nS : S ≠ z ∧ S ≠ TI ∧ S ≠ TO ∧ S ≠ i1 ∧ S ≠ i2 ∧ S ≠ l1 ∧ S ≠ l2) {lo : Addr} (hlo : z ≤ lo ∧ TO ≤ lo ∧ i1 ≤ lo ∧ i2 ≤ lo ∧ S ≤ lo) (hn : min xs.size ys.size ≤ sizeLine) (res : Value) {h₁ : Heap} (hb : h₁.objs.size ≤ z ∧ h₁.objs.size ≤ TO ∧ h₁.objs.size ≤ i1 ∧ h₁.objs.size ≤ i2 ∧ h₁.objs.size ≤ S)
    (hR : ∀ h' tk acc c as, (∀ b o, h₁.get? b = some o → h'.get? b = some o) → h'.get? S = some { cls := .type "list", dict := none, data := .seq acc c, slots := #[] } → as.length = min xs.size ys.size → ZlG xs ys lo h' as →
      acc.toList = as.map Value.ref → R (.ok (.ret res)) { s with heap := h', toks := tk }) :
    ∀ (k i : Nat) (h : Heap) (tk c : Nat) (acc : Array Value) (as : List Addr), min xs.size ys.size - i = k → i ≤ min xs.size ys.size → ZlSt h z TI TO i1 i2 l1 l2 S xs ys i → (∀ b o, h₁.get? b = some o → h.get? b = some o) →
      h.get? S = some { cls := .type "list", dict := none, data := .seq acc c, slots := #[] } → acc.toList = as.map Value.ref → as.length = i → ZlG xs ys lo h as → lo < h.objs.size →
      codeAny (model prog w) A (.builtin "list.extend.loop" ⟨[.ref S, .ref z, res], []⟩) R { s with heap := h, toks := tk } := by
  have old : ∀ {b o}, h₁.get? b = some o → b ≠ z ∧ b ≠ TO ∧ b ≠ i1 ∧ b ≠ i2 ∧ b ≠ S := fun {b o} e => by
    have hl := Heap.lt_size e
    obtain ⟨b1, b2, b3, b4, b5⟩ := hb
    exact ⟨Nat.ne_of_lt (Nat.lt_of_lt_of_le hl b1), Nat.ne_of_lt (Nat.lt_of_lt_of_le hl b2), Nat.ne_of_lt (Nat.lt_of_lt_of_le hl b3), Nat.ne_of_lt (Nat.lt_of_lt_of_le hl b4), Nat.ne_of_lt (Nat.lt_of_lt_of_le hl b5)⟩
  have abv : ∀ {a : Addr}, lo < a → a ≠ z ∧ a ≠ TO ∧ a ≠ i1 ∧ a ≠ i2 ∧ a ≠ S := fun {a} hl => by
    obtain ⟨b1, b2, b3, b4, b5⟩ := hlo
    exact ⟨Nat.ne_of_gt (Nat.lt_of_le_of_lt b1 hl), Nat.ne_of_gt (Nat.lt_of_le_of_lt b2 hl), Nat.ne_of_gt (Nat.lt_of_le_of_lt b3 hl), Nat.ne_of_gt (Nat.lt_of_le_of_lt b4 hl), Nat.ne_of_gt (Nat.lt_of_le_of_lt b5 hl)⟩
  intro k
  induction k with
  | zero =>
    intro i h tk c acc as hk hi hst hkeep hS hacc hal hG hIs
    have hin : i = min xs.size ys.size := by omega
    have hend : xs[i]? = none ∨ ys[i]? = none := by
      rcases Nat.le_total xs.size ys.size with q | q
      · exact .inl (Array.getElem?_eq_none (by omega))
      · exact .inr (Array.getElem?_eq_none (by omega))
    refine codeAny_builtin PySem.F.entry_extend_loop ?_
    rw [Around.under_plainId PySem.F.plain_extend_loop _]
    show wpAny _ A.in1 (pyNext (.ref z) >>= _) _ _ _
    refine wpAny_bind (zl_done (s := { s with heap := h, toks := tk }) (A := A.in1) hh D hst hend fun h' he => ?_)
    refine wpAny_pure (hR h' tk acc c as (fun b o e => ?_) (he S _ nS.1 nS.2.2.1 nS.2.2.2.1 nS.2.2.2.2.1 hS) (by omega) ⟨hG.rise, hG.above, fun j a hj => ?_⟩ hacc)
    · obtain ⟨q1, q2, q3, q4, q5⟩ := old e
      exact he b o q1 q2 q3 q4 (hkeep b o e)
    · obtain ⟨x, y, e1, e2, e3⟩ := hG.pairs j a hj
      obtain ⟨q1, q2, q3, q4, q5⟩ := abv (hG.above a (List.mem_of_getElem? hj))
      exact ⟨x, y, e1, e2, he a _ q1 q2 q3 q4 e3⟩
  | succ k ih =>
    intro i h tk c acc as hk hi hst hkeep hS hacc hal hG hIs
    have hlt : i < min xs.size ys.size := by omega
    have hix : i < xs.size := by omega
    have hiy : i < ys.size := by omega
    have hsz : acc.size = i := by rw [← Array.length_toList, hacc, List.length_map, hal]
    refine codeAny_builtin PySem.F.entry_extend_loop ?_
    rw [Around.under_plainId PySem.F.plain_extend_loop _]
    show wpAny _ A.in1 (pyNext (.ref z) >>= _) _ _ _
    refine wpAny_bind (zl_item (s := { s with heap := h, toks := tk }) (S := S) D hst (Heap.lt_size hS) (Array.getElem?_eq_getElem hix) (Array.getElem?_eq_getElem hiy) fun h' hst' ht hz hkp => ?_)
    dsimp only at ht hz hkp ⊢
    have hS' := hkp S _ nS.1 nS.2.2.1 nS.2.2.2.1 nS.2.2.2.2.1 hS
    have up : ∀ b o, b ≠ S → h'.get? b = some o → (h'.update S (Obj.mapSeq (·.push (Value.ref h.objs.size)))).get? b = some o := fun b o hb e => (Heap.get?_update_other _ _ (Ne.symm hb)).trans e
    have hSl : S < h.objs.size := Heap.lt_size hS
    show wpAny _ A.in1 (updateSeq S (·.push (Value.ref h.objs.size)) >>= _) _ _ _
    refine wpAny_bind ?_
    refine wpAny_updateSeq hS' rfl (wpAny_pure ⟨plainId_quiet PySem.F.plain_extend_loop _, ih (i + 1) _ tk _ (acc.push (Value.ref h.objs.size)) (as ++ [h.objs.size]) (by omega) hlt (hst'.keep up nS)
      (fun b o e => ?_) (Heap.get?_update_self _ hS' rfl) (by rw [Array.toList_push, hacc, List.map_append]; rfl) (by rw [List.length_append, hal]; rfl) ⟨?_, ?_, ?_⟩ ?_⟩) (by rw [hsz]; omega) (by show (acc.push (Value.ref h.objs.size)).size ≤ sizeLine + 1; rw [Array.size_push, hsz]; omega)
    · obtain ⟨q1, q2, q3, q4, q5⟩ := old e
      exact up b o q5 (hkp b o q1 q2 q3 q4 (hkeep b o e))
    · refine List.pairwise_append.mpr ⟨hG.rise, List.pairwise_singleton _ _, fun a ha b hb => ?_⟩
      rw [List.mem_singleton.mp hb]
      exact hG.there ha
    · intro a ha
      rcases List.mem_append.mp ha with ha | ha
      · exact hG.above a ha
      · rw [List.mem_singleton.mp ha]; exact hIs
    · intro j b hj
      rcases Nat.lt_trichotomy j as.length with h1 | h1 | h1
      · rw [List.getElem?_append_left h1] at hj
        obtain ⟨x', y', e1, e2, e3⟩ := hG.pairs j b hj
        obtain ⟨q1, q2, q3, q4, q5⟩ := abv (hG.above b (List.mem_of_getElem? hj))
        exact ⟨x', y', e1, e2, up b _ q5 (hkp b _ q1 q2 q3 q4 e3)⟩
      · subst h1
        have hb : h.objs.size = b := by simpa using hj
        subst hb
        exact ⟨_, _, by rw [hal]; exact Array.getElem?_eq_getElem hix, by rw [hal]; exact Array.getElem?_eq_getElem hiy, up _ _ (Nat.ne_of_gt hSl) ht⟩
      · have hnone : (as ++ [h.objs.size])[j]? = none := List.getElem?_eq_none (by rw [List.length_append, List.length_singleton]; omega)
        rw [hnone] at hj; cases hj
    · have e : (h'.update S (Obj.mapSeq (·.push (Value.ref h.objs.size)))).get? h.objs.size = _ := up _ _ (Nat.ne_of_gt hSl) ht
      exact Nat.lt_trans hIs (Heap.lt_size e)
theorem zl_extend (hh : A.handled = none) (D : ZipApart z TI TO i1 i2 l1 l2) (hz : IsZip s.heap z TI TO .none) (nS : S ≠ z ∧ S ≠ TI ∧ S ≠ TO ∧ S ≠ i1 ∧ S ≠ i2 ∧ S ≠ l1 ∧ S ≠ l2) {lo : Addr} (hlo : z ≤ lo ∧ TO ≤ lo ∧ i1 ≤ lo ∧ i2 ≤ lo ∧ S ≤ lo) {h₁ : Heap} (hb : h₁.objs.size ≤ z ∧ h₁.objs.size ≤ TO ∧ h₁.objs.size ≤ i1 ∧ h₁.objs.size ≤ i2 ∧ h₁.objs.size ≤ S)
    (st : ZlSt s.heap z TI TO i1 i2 l1 l2 S xs ys 0) (hkeep : ∀ b o, h₁.get? b = some o → s.heap.get? b = some o) (hl : lo < s.heap.objs.size) (res : Value) (c₀ : Nat) (hS : s.heap.get? S = some { cls := .type "list", data := .seq #[] c₀ })
    (hR : ∀ h' tk acc c as, (∀ b o, h₁.get? b = some o → h'.get? b = some o) → h'.get? S = some { cls := .type "list", dict := none, data := .seq acc c, slots := #[] } → as.length = min xs.size ys.size → ZlG xs ys lo h' as →
      acc.toList = as.map Value.ref → R (.ok (.ret res)) { s with heap := h', toks := tk }) (hn : min xs.size ys.size ≤ sizeLine) :
    wpAny (model prog w) A.in1 (Builtin.List.listExtendWith (.ref S) (.ref z) res)
      (fun fin s' => match fin with | .done f => R (.ok f) s' | .again c' => c'.quiet = true ∧ codeAny (model prog w) A c' R s') (fun e s' => R (.error e) s') s := by
  have hT : s.TypeIs (.ref z) "zip" := ⟨_, hz, rfl⟩
  unfold Builtin.List.listExtendWith
  refine wpAny_bind (wpAny_typeOf (T := "zip") hT ?_)
  have h1 : Builtin.List.listSameRef (.ref S) (.ref z) = false := by simp [Builtin.List.listSameRef, nS.1]
  have h2 : (Value.type "zip" == Value.type "list") = false := by decide
  have h3 : (Value.type "zip" == Value.type "tuple") = false := by decide
  simp only [h1, h2, h3, Bool.or_false, Bool.false_eq_true, if_false]
  refine wpAny_bind (wpAny_pyIter_zip hz ?_)
  refine wpAny_bind (wpAny_holding ?_)
  unfold Builtin.List.listLengthHint
  refine wpAny_bind (wpAny_specialOf hT zl_no_len ?_)
  show wpAny _ A.in1 (specialOf (Value.ref z) (Str.ofString "__length_hint__") >>= _) _ _ _
  refine wpAny_bind (wpAny_specialOf hT zl_no_hint ?_)
  refine wpAny_pure ?_
  show wpAny _ A.in1 (rule "list.extend.makes-room" >>= fun _ => Builtin.List.listTouch (.ref S) >>= fun _ =>
    again (.builtin "list.extend.loop" ⟨[.ref S, .ref z, res], []⟩)) _ _ _
  refine wpAny_bind (wpAny_rule ?_)
  refine wpAny_bind ?_
  show wpAny _ _ (updateSeq S (·.push .none) >>= fun _ => updateSeq S (·.pop)) _ _ _
  refine wpAny_bind (wpAny_updateSeq hS rfl ?_)
  have hS₂ := Heap.get?_update_self (Obj.mapSeq (·.push Value.none)) hS rfl
  refine wpAny_updateSeq (hz := by seq_fits) hS₂ rfl ?_
  have hS₃ := Heap.get?_update_self (Obj.mapSeq (·.pop)) hS₂ rfl
  have oth : ∀ b o, b ≠ S → s.heap.get? b = some o → ((s.heap.update S (Obj.mapSeq (·.push Value.none))).update S (Obj.mapSeq (·.pop))).get? b = some o := fun b o hb e =>
    (Heap.get?_update_other _ _ (Ne.symm hb)).trans ((Heap.get?_update_other _ _ (Ne.symm hb)).trans e)
  have hsz : ((s.heap.update S (Obj.mapSeq (·.push Value.none))).update S (Obj.mapSeq (·.pop))).objs.size = s.heap.objs.size := ((Heap.SameBut.update ..).trans (Heap.SameBut.update ..)).1
  refine wpAny_pure ⟨plainId_quiet PySem.F.plain_extend_loop _, zl_loop (s := s) (h₁ := h₁) hh D nS hlo hn res hb hR (min xs.size ys.size) 0 _ s.toks _ #[] [] (Nat.sub_zero _) (Nat.zero_le _) (st.keep oth nS) (fun b o e => oth b o ?_ (hkeep b o e)) hS₃ rfl rfl
    ⟨List.Pairwise.nil, (fun _ ha => nomatch ha), (fun j a hj => by simp at hj)⟩ (by rw [hsz]; exact hl)⟩
  exact Nat.ne_of_lt (Nat.lt_of_lt_of_le (Heap.lt_size e) hb.2.2.2.2)
theorem zl_init (hh : A.handled = none) (D : ZipApart z TI TO i1 i2 l1 l2) (hz : IsZip s.heap z TI TO .none) (nS : S ≠ z ∧ S ≠ TI ∧ S ≠ TO ∧ S ≠ i1 ∧ S ≠ i2 ∧ S ≠ l1 ∧ S ≠ l2) {lo : Addr} (hlo : z ≤ lo ∧ TO ≤ lo ∧ i1 ≤ lo ∧ i2 ≤ lo ∧ S ≤ lo) {h₁ : Heap} (hb : h₁.objs.size ≤ z ∧ h₁.objs.size ≤ TO ∧ h₁.objs.size ≤ i1 ∧ h₁.objs.size ≤ i2 ∧ h₁.objs.size ≤ S)
    (st : ZlSt s.heap z TI TO i1 i2 l1 l2 S xs ys 0) (hkeep : ∀ b o, h₁.get? b = some o → s.heap.get? b = some o) (hl : lo < s.heap.objs.size) (hS : s.heap.get? S = some { cls := .type "list", data := .seq #[] })
    (hR : ∀ h' tk acc c as, (∀ b o, h₁.get? b = some o → h'.get? b = some o) → h'.get? S = some { cls := .type "list", dict := none, data := .seq acc c, slots := #[] } → as.length = min xs.size ys.size → ZlG xs ys lo h' as →
      acc.toList = as.map Value.ref → R (.ok (.ret .none)) { s with heap := h', toks := tk }) (hn : min xs.size ys.size ≤ sizeLine) :
    wpAny (model prog w) A.in1 (Builtin.«list.__init__» ⟨[.ref S, .ref z], []⟩)
      (fun fin s' => match fin with | .done f => R (.ok f) s' | .again c' => c'.quiet = true ∧ codeAny (model prog w) A c' R s') (fun e s' => R (.error e) s') s := by
  show wpAny _ _ (do let old ← Builtin.List.listItems (.ref S); Builtin.List.listUpdate (.ref S) (fun _ => #[]); letGo old.toList.reverse; Builtin.List.listExtendWith (.ref S) (.ref z) .none) _ _ s
  refine wpAny_bind ?_
  unfold Builtin.List.listItems
  refine wpAny_bind (wpAny_seqItems hS rfl (wpAny_pure ?_))
  show wpAny _ _ (updateSeq S (fun _ => #[]) >>= fun _ => letGo (#[] : Array Value).toList.reverse >>= fun _ => Builtin.List.listExtendWith (.ref S) (.ref z) .none) _ _ s
  refine wpAny_bind (wpAny_updateSeq hS rfl ?_)
  have hS₂ := Heap.get?_update_self (Obj.mapSeq (fun _ => (#[] : Array Value))) hS rfl
  have oth : ∀ b o, b ≠ S → s.heap.get? b = some o → (s.heap.update S (Obj.mapSeq (fun _ => (#[] : Array Value)))).get? b = some o :=
    fun b o hb e => (Heap.get?_update_other _ _ (Ne.symm hb)).trans e
  have hsz : (s.heap.update S (Obj.mapSeq (fun _ => (#[] : Array Value)))).objs.size = s.heap.objs.size := (Heap.SameBut.update ..).1
  refine wpAny_bind (wpAny_letGo ?_)
  exact zl_extend (h₁ := h₁) hh D (oth z _ nS.1.symm hz) nS hlo hb (st.keep oth nS) (fun b o e => oth b o (Nat.ne_of_lt (Nat.lt_of_lt_of_le (Heap.lt_size e) hb.2.2.2.2)) (hkeep b o e)) (by show lo < (s.heap.update S _).objs.size; rw [hsz]; exact hl) .none _ hS₂ (fun h' tk acc c as hk hS' hl hG hacc => hR h' tk acc c as hk hS' hl hG hacc) hn
/-- list(z), z a fresh zip over two lists -/
theorem zl_call {Q : Value → Shared → Prop} (hh : A.handled = none) (D : ZipApart z TI TO i1 i2 l1 l2) (hz : IsZip s.heap z TI TO .none) {h₁ : Heap} (hb : h₁.objs.size ≤ z ∧ h₁.objs.size ≤ TO ∧ h₁.objs.size ≤ i1 ∧ h₁.objs.size ≤ i2)
    (hTI : IsPair s.heap TI (.ref i1) (.ref i2)) (hTO : ∃ a b, IsPair s.heap TO a b) (hi1 : s.heap.IsListIter i1 l1 0) (hi2 : s.heap.IsListIter i2 l2 0) (hl1 : s.heap.IsList l1 xs) (hl2 : s.heap.IsList l2 ys) (hkeep : ∀ b o, h₁.get? b = some o → s.heap.get? b = some o) (hn : min xs.size ys.size ≤ sizeLine)
    (hQ : ∀ h' tk acc c as, (∀ b o, h₁.get? b = some o → h'.get? b = some o) → h'.get? s.heap.objs.size = some { cls := .type "list", dict := none, data := .seq acc c, slots := #[] } → as.length = min xs.size ys.size → ZlG xs ys s.heap.objs.size h' as →
      acc.toList = as.map Value.ref → Q (.ref s.heap.objs.size) { s with heap := h', toks := tk }) :
    wpAny (model prog w) A (call (.type "list") [.ref z]) Q E s := by
  refine callType_codes (Q₁ := fun obj s₁ => obj = .ref s.heap.objs.size ∧ s₁ = { s with heap := s.heap.push { cls := .type "list", data := .seq #[] } }) PySem.F.called_list (PySem.F.typeCall_list_1 _) PySem.F.entry_list_init
    (code_list_new _ ⟨rfl, rfl⟩) fun obj s₁ h₁' => ?_
  obtain ⟨rfl, rfl⟩ := h₁'
  have hS : (s.heap.push { cls := .type "list", data := .seq #[] }).get? s.heap.objs.size = some { cls := .type "list", data := .seq #[] } := Heap.get?_push_size _ rfl
  have lz : z < s.heap.objs.size := Heap.lt_size hz
  have lTI : TI < s.heap.objs.size := Heap.lt_size hTI
  have lTO : TO < s.heap.objs.size := let ⟨_, _, e⟩ := hTO; Heap.lt_size e
  have l1' : i1 < s.heap.objs.size := let ⟨_, e, _⟩ := hi1; Heap.lt_size e
  have l2' : i2 < s.heap.objs.size := let ⟨_, e, _⟩ := hi2; Heap.lt_size e
  have ll1 : l1 < s.heap.objs.size := let ⟨_, e, _⟩ := hl1; Heap.lt_size e
  have ll2 : l2 < s.heap.objs.size := let ⟨_, e, _⟩ := hl2; Heap.lt_size e
  have hb' : h₁.objs.size ≤ s.heap.objs.size := Nat.le_of_lt (Nat.lt_of_le_of_lt hb.1 lz)
  have pk : ∀ b o, s.heap.get? b = some o → (s.heap.push { cls := .type "list", data := .seq #[] }).get? b = some o := fun b o e => Heap.get?_push_of_some _ e
  refine ⟨⟨_, hS, rfl⟩, PySem.F.args_list_init_2 _ _, zl_init (A := A.in1) (h₁ := h₁) (lo := s.heap.objs.size) hh D (pk _ _ hz) ⟨Nat.ne_of_gt lz, Nat.ne_of_gt lTI, Nat.ne_of_gt lTO, Nat.ne_of_gt l1', Nat.ne_of_gt l2', Nat.ne_of_gt ll1, Nat.ne_of_gt ll2⟩
    ⟨Nat.le_of_lt lz, Nat.le_of_lt lTO, Nat.le_of_lt l1', Nat.le_of_lt l2', Nat.le_refl _⟩ ⟨hb.1, hb.2.1, hb.2.2.1, hb.2.2.2, hb'⟩
    ⟨pk _ _ hTI, hi1.at fun o e => pk _ o e, hi2.at fun o e => pk _ o e, hl1.at fun o e => pk _ o e, hl2.at fun o e => pk _ o e, .inl ⟨pk _ _ hz, let ⟨a, b, e⟩ := hTO; ⟨a, b, pk _ _ e⟩⟩⟩
    (fun b o e => pk _ _ (hkeep b o e)) (by show s.heap.objs.size < (s.heap.push _).objs.size; rw [Heap.size_push]; exact Nat.lt_succ_self _) hS (fun h' tk acc c as hk hS' hl hG hacc => ?_) hn⟩
  exact ⟨rfl, hQ h' tk acc c as hk hS' hl hG hacc⟩
end
end Lk

set_option Elab.async false
set_option linter.all false
set_option maxRecDepth 100000
set_option maxHeartbeats 4000000
/-! list(zip(..)), list(d.values()), d.update(e): rules -/
namespace Lk
open PySem PySem.Spec PyProof.Rows L2
/-- the pairs tracked at their addresses -/
def putP : Hp → List Addr → List (V × V) → Hp
  | H, a :: as, p :: ps => putP (upd H a (.tup [p.1, p.2])) as ps
  | H, _, _ => H
theorem putP_off {b : Addr} : ∀ (as : List Addr) (ps : List (V × V)) (H : Hp), b ∉ as → putP H as ps b = H b
  | [], _, _, _ => rfl
  | _ :: _, [], _, _ => rfl
  | a :: as, p :: ps, H, h => by
    show putP (upd H a (.tup [p.1, p.2])) as ps b = H b
    rw [putP_off as ps _ (fun z => h (List.mem_cons_of_mem _ z)), upd_ne (fun z => h (by rw [z]; exact List.mem_cons_self))]
theorem putP_at : ∀ (as : List Addr) (ps : List (V × V)) (H : Hp), as.length = ps.length → as.Nodup → Paired (fun (t : Addr) (p : V × V) => putP H as ps t = some (.tup [p.1, p.2])) as ps
  | [], [], _, _, _ => .nil
  | [], _ :: _, _, h, _ => by cases h
  | _ :: _, [], _, h, _ => by cases h
  | a :: as, p :: ps, H, h, hn => by
    have hn' := List.nodup_cons.mp hn
    have ih := putP_at as ps (upd H a (.tup [p.1, p.2])) (Nat.succ.inj h) hn'.2
    refine .cons ?_ ih
    show putP (upd H a (.tup [p.1, p.2])) as ps a = some (.tup [p.1, p.2])
    rw [putP_off as ps _ hn'.1, upd_same]
def rZipL (K : PySem.W.Frag) : List V → Hp → VK → Prop := fun vs H Q => ∃ (a b : Addr) (xs ys : List V), vs = [.ref a, .ref b] ∧ SqL K H a xs ∧ SqL K H b ys ∧
  ∀ (H' : Hp) (p : Addr) (ts : List Addr), Same H H' → H p = none → (∀ t ∈ ts, H t = none) → p ∉ ts → H' p = some (.lst (ts.map V.ref)) → Paired (fun (t : Addr) (q : V × V) => H' t = some (.tup [q.1, q.2])) ts (xs.zip ys) → Q (.ref p) H'
def tZipL (K : PySem.W.Frag) (ta : TA) : TE := fun σ H Q => ta σ H fun vs H1 => rZipL K vs H1 Q
section
variable {X : Cx} {e e2 : Expr} {ta : TA} {te : TE} {p p2 q apos cpos pos : Pos}
theorem zip_laid {pins : List (Addr × Obj)} {σ : L2.St} {H : Hp} {s : Shared} {S : Addr} {h' : Heap} {tk : Nat} {xs ys : List V} {us ws : List Value} {acc : Array Value} {c : Nat} {as : List Addr} (I : Inv X pins σ H s) (rx : Vals xs us) (ry : Vals ys ws) (hz : xs.length ≤ sizeLine)
    (hk : ∀ b o, s.heap.get? b = some o → h'.get? b = some o) (hS0 : s.heap.objs.size ≤ S) (hS : h'.get? S = some { cls := .type "list", dict := none, data := .seq acc c, slots := #[] }) (hl : as.length = min us.toArray.size ws.toArray.size) (hG : ZlG us.toArray ws.toArray S h' as) (hacc : acc.toList = as.map Value.ref) :
    ∃ H' : Hp, Same H H' ∧ H S = none ∧ (∀ t ∈ as, H t = none) ∧ S ∉ as ∧ H' S = some (.lst (as.map V.ref)) ∧ Paired (fun (t : Addr) (q : V × V) => H' t = some (.tup [q.1, q.2])) as (xs.zip ys) ∧ Inv X pins σ H' { s with heap := h', toks := tk } := by
  have l1 : xs.length = us.length := rx.length
  have l2 : ys.length = ws.length := ry.length
  have hl' : as.length = (xs.zip ys).length := by
    rw [List.length_zip, hl, List.size_toArray, List.size_toArray, l1, l2]
  have hSn : S ∉ as := fun z => Nat.lt_irrefl _ (hG.above _ z)
  have nd : as.Nodup := List.Pairwise.imp (fun {a b} (h : a < b) => Nat.ne_of_lt h) hG.rise
  have big : ∀ t ∈ as, s.heap.objs.size ≤ t := fun t ht => Nat.le_of_lt (Nat.lt_of_le_of_lt hS0 (hG.above t ht))
  have new : ∀ t ∈ as, H t = none := fun t ht => I.hok.fresh (big t ht)
  have newS : H S = none := I.hok.fresh hS0
  have atP := putP_at as (xs.zip ys) (upd H S (.lst (as.map V.ref))) hl' nd
  have off : ∀ b, b ∉ as → b ≠ S → putP (upd H S (.lst (as.map V.ref))) as (xs.zip ys) b = H b := fun b h1 h2 => by rw [putP_off as _ _ h1, upd_ne h2]
  have low : ∀ b o, s.heap.get? b = some o → b ∉ as ∧ b ≠ S := fun b o e => ⟨fun z => absurd (Heap.lt_size e) (Nat.not_lt.mpr (big b z)), Nat.ne_of_lt (Nat.lt_of_lt_of_le (Heap.lt_size e) hS0)⟩
  have kp : ∀ b u, H b = some u → (putP (upd H S (.lst (as.map V.ref))) as (xs.zip ys)) b = some u := fun b u e => by
    rw [off b (fun z => by rw [new b z] at e; cases e) (fun z => by rw [z, newS] at e; cases e)]
    exact e
  have eS : putP (upd H S (.lst (as.map V.ref))) as (xs.zip ys) S = some (.lst (as.map V.ref)) := by rw [putP_off as _ _ hSn, upd_same]
  refine ⟨putP (upd H S (.lst (as.map V.ref))) as (xs.zip ys), kp, newS, new, hSn, eS, atP, ?_⟩
  refine I.call' (ch := []) rfl ⟨fun b o q _ _ _ => hk b o q, fun b o q _ _ _ => ⟨o.slots, hk b o q⟩, fun b o q n _ => ?_, fun b o q _ => ⟨o, hk b o q⟩, fun b xs q => kp b _ q, fun b o u q => kp b _ q, fun b ps q => ⟨#[], by rw [kp b _ q]; simp⟩⟩ (fun b u q => ?_) I.bare fun b z => by simp at z
  · obtain ⟨z1, z2⟩ := low b o q
    rw [off b z1 z2]
    exact n
  · by_cases hb : b ∈ as
    · obtain ⟨j, pk, e1, e2, e3⟩ := LiI.paired_ix atP hb
      rw [e3] at q
      cases q
      obtain ⟨x, y, f1, f2, f3⟩ := hG.pairs j b e1
      obtain ⟨g1, g2⟩ := List.getElem?_zip_eq_some.mp e2
      obtain ⟨x', a1, a2⟩ := rx.get g1
      obtain ⟨y', b1, b2⟩ := ry.get g2
      have ex : x' = x := by
        have f1' : us[j]? = some x := by simpa using f1
        rw [a1] at f1'
        exact Option.some.inj f1'
      have ey : y' = y := by
        have f2' : ws[j]? = some y := by simpa using f2
        rw [b1] at f2'
        exact Option.some.inj f2'
      rw [ex] at a2
      rw [ey] at b2
      exact ⟨by show 2 ≤ sizeLine; decide, [x, y], .cons a2 (.cons b2 .nil), ⟨_, f3, rfl, _, rfl⟩⟩
    · by_cases hb2 : b = S
      · rw [hb2] at q ⊢
        rw [eS] at q
        cases q
        refine ⟨by rw [List.length_map, hl', List.length_zip]; omega, acc.toList, c, by rw [hacc]; exact LiI.vals_refs as, ?_⟩
        rw [Array.toArray_toList]
        exact hS
      · rw [off b hb hb2] at q
        exact (I.hok b u q).stay (fun d v _ y => hk d v y) (fun d y => kp d _ y) fun d xs y => kp d _ y
/-- list(zip(e, e2)) -/
theorem pe_listZip (hc : X.calm = true) (ha : PA X [e, e2] ta) (hg : Gl X "list") (hm : X.mg "list" = none) (hv : bootBuiltins "list" = some (.type "list")) (hgz : Gl X "zip") (hmz : X.mg "zip" = none)
    (hs : starEach [.Call (.Name "zip" p2) [e, e2] [] q] X.env = (false, eval (.Call (.Name "zip" p2) [e, e2] [] q) X.env) :: starEach [] X.env := by rfl)
    (hs2 : starEach [e, e2] X.env = (false, eval e X.env) :: starEach [e2] X.env := by rfl) (hpl : (backTo q (starEach [e2] X.env)).any (·.1) = false := by rfl) :
    PE X (.Call (.Name "list" p) [.Call (.Name "zip" p2) [e, e2] [] q] [] pos) (tZipL X.K ta) := by
  refine ⟨fun pins s σ H Q I hq => ?_⟩
  refine wpAny_Call_Name_kw (ld_blt I hg hm hv ?_)
  refine PyProof.Rows.callWith_type1 ?_ hs rfl
  rw [hs]
  show wpAny _ _ (spliced ((false, eval (.Call (.Name "zip" p2) [e, e2] [] q) X.env) :: backTo pos (starEach [] X.env))) _ _ s
  refine Calls.spliced_cons ?_
  refine Call_ (ld_blt I hgz hmz PyProof.Rows.boot_zip (PyProof.Rows.callWith_type1 (thn (ha.run q pins s σ H _ I hq) fun us s1 ⟨vs, H1, I1, r1, q1⟩ => ?_) hs2 hpl))
  obtain ⟨a, b, xs, ys, ex, hqx, hqy, q⟩ := q1
  subst ex
  obtain ⟨u1, u2, rfl, ra, rb⟩ := vals2 r1
  cases ra
  cases rb
  obtain ⟨its, rv, pl1, hzz⟩ := I1.list hqx
  obtain ⟨its2, rv2, pl2, _⟩ := I1.list hqy
  have la : a < s1.heap.objs.size := pl1.lt
  have lb : b < s1.heap.objs.size := pl2.lt
  have hz : xs.length ≤ sizeLine := by
    first | exact hzz | (have e := rv.length; omega)
  refine call_zip_2 pl1.isList pl2.isList fun h' hz' hTI hTO h1 h2 hsz hk => ?_
  refine Calls.spliced_nil ?_
  show wpAny _ _ (call (.type "list") [.ref (s1.heap.objs.size + 4)]) _ X.xe { s1 with heap := h' }
  refine zl_call (s := { s1 with heap := h' }) (xs := its.toArray) (ys := its2.toArray) (h₁ := s1.heap) (I1.ok.hd hc) (PySem.W.ktu_apart s1.heap.objs.size a b la lb) hz' ⟨Nat.le_add_right _ _, Nat.le_add_right _ _, Nat.le_refl _, Nat.le_add_right _ _⟩ hTI ⟨_, _, hTO⟩ h1 h2
    (pl1.isList.at fun o e => hk _ o e) (pl2.isList.at fun o e => hk _ o e) hk (by
      have e := rv.length
      rw [List.size_toArray]
      omega) fun h2' tk acc c as hk2 hS hl hG hacc => ?_
  obtain ⟨H', k1, k2, k3, k4, k5, k6, J⟩ := zip_laid (tk := tk) I1 rv rv2 hz hk2 (by show s1.heap.objs.size ≤ h'.objs.size; rw [hsz]; exact Nat.le_add_right _ _) hS hl hG hacc
  exact ⟨.ref _, H', J, rfl, q H' _ as k1 k2 k3 k4 k5 k6⟩
/-! list(d.values()) -/
def rValsL : V → Hp → VK → Prop := fun x H Q => ∃ (d : Addr) (kvs : List (Key × V)), x = .ref d ∧ H d = some (.dK kvs) ∧ ∀ p, H p = none → Q (.ref p) (upd H p (.lst (kvs.map (·.2))))
def tValsL (te : TE) : TE := fun σ H Q => te σ H fun x H1 => rValsL x H1 Q
theorem kv_vals {kvs : List (Key × V)} {vs : List (Key × Value)} (r : KV kvs vs) : Vals (kvs.map (·.2)) (vs.map (·.2)) := by
  unfold KV at r
  induction r with
  | nil => exact .nil
  | cons h t ih => exact .cons h.2 ih
theorem pe_listVals (hc : X.calm = true) (he : PE X e te) (hg : Gl X "list") (hm : X.mg "list" = none) (hv : bootBuiltins "list" = some (.type "list")) (hbase : attributeBase e "values" X.env (eval e X.env) = eval e X.env := by rfl) (hline : (apos.endLine == cpos.line) = true := by rfl)
    (hs : starEach [.Call (.Attribute e "values" apos) [] [] cpos] X.env = (false, eval (.Call (.Attribute e "values" apos) [] [] cpos) X.env) :: starEach [] X.env := by rfl) :
    PE X (.Call (.Name "list" p) [.Call (.Attribute e "values" apos) [] [] cpos] [] pos) (tValsL te) := by
  refine ⟨fun pins s σ H Q I hq => ?_⟩
  refine wpAny_Call_Name_kw (ld_blt I hg hm hv ?_)
  refine PyProof.Rows.callWith_type1 ?_ hs rfl
  rw [hs]
  show wpAny _ _ (spliced ((false, eval (.Call (.Attribute e "values" apos) [] [] cpos) X.env) :: backTo pos (starEach [] X.env))) _ _ s
  refine Calls.spliced_cons ?_
  refine wpAny_Call_method (T := "dict") (id := "dict.values") hbase rfl hline F.plainAttrs_dict F.slot_dict_values F.type_dict_values (thn (he.run pins s σ H _ I hq) fun u s1 ⟨x, H1, I1, rx, d, kvs, ex, hd, q⟩ => ?_)
  subst ex
  obtain rfl : u = Value.ref d := rx
  obtain ⟨hz, hs0, vs, kv, hdo⟩ := I1.hok d _ hd
  obtain ⟨ep, hat⟩ := hdo.dictAt
  have lk : kvs.length = vs.length := Paired.length kv
  have I2 : Inv X pins σ H1 { s1 with heap := s1.heap.push { cls := .type "dict_values", data := .fields #[.ref d] } } := I1.kept (t' := s1.toks) fun b ob q => Heap.get?_push_of_some _ q
  refine ⟨hdo.typeIs, hdo.mapOf.noDict, ?_⟩
  show wpAny _ _ (callWith cpos (.builtin "dict.values") [.ref d] [] []) _ X.xe s1
  refine method_meetsIn F.slot_dict_values F.entry_dict_values rfl (PySem.evalArgs_none ⟨rfl, hdo.typeIs, F.args_dict_values_1 _, _, meets_dict_values (mixKind X.prog X.w) d hs0, ⟨vs, hdo⟩, ?_⟩)
  refine Calls.spliced_nil ?_
  refine PySem.W.kdl_call (PySem.W.kdl_values (knd := mixKind X.prog X.w) (d := d) (r := s1.heap.objs.size) (kvs := vs) (ep := ep)) (I1.ok.hd hc) ⟨⟨_, Heap.get?_push_size _ rfl, rfl, rfl⟩, hat.push _⟩ (by omega) fun h' tk acc c hk hS hacc => ?_
  have e : acc.toList = vs.map (·.2) := PySem.W.kdl_vals_eq acc.toList (by rw [Array.length_toList]; exact hacc.1) fun j v e => hacc.2 j v (by rw [← Array.getElem?_toList]; exact e)
  have hle : s1.heap.objs.size ≤ (s1.heap.push { cls := .type "dict_values", data := .fields #[.ref d] }).objs.size := by rw [Heap.size_push]; exact Nat.le_succ _
  have ob : ObjOk X.prog X.w (upd H1 (s1.heap.push { cls := .type "dict_values", data := .fields #[.ref d] }).objs.size (.lst (kvs.map (·.2)))) h' (s1.heap.push { cls := .type "dict_values", data := .fields #[.ref d] }).objs.size (.lst (kvs.map (·.2))) :=
    ⟨by rw [List.length_map]; exact hz, acc.toList, c, by rw [e]; exact kv_vals kv, by rw [Array.toArray_toList]; exact hS⟩
  exact ⟨.ref _, _, I2.laid (t' := tk) (fun b o q => hk b o q) (Nat.le_refl _) ob, rfl, q _ (I2.hok.fresh (Nat.le_refl _))⟩
/-! d.update(e) -/
def rUpdD : V → List V → Hp → VK → Prop := fun x xs H Q => ∃ (d e : Addr) (kvs more : List (Key × V)), x = .ref d ∧ xs = [.ref e] ∧ H d = some (.dK kvs) ∧ H e = some (.dK more) ∧ d ≠ e ∧ kvs.length + more.length ≤ sizeLine ∧ Q .non (upd H d (.dK (mergeK kvs more)))
theorem mt_updateD : MtR X "dict.update" rUpdD := by
  intro pins s σ H x xs v us Q I rx rv h
  obtain ⟨d, e, kvs, more, rfl, rfl, hd, he, hne, hl, q⟩ := h
  obtain rfl : v = Value.ref d := rx
  obtain ⟨u, rfl, ru⟩ := vals1 rv
  obtain rfl : u = Value.ref e := ru
  obtain ⟨z1, n1, vs, kv1, d1⟩ := dk_of I.hok hd
  obtain ⟨z2, n2, ws, kv2, d2⟩ := dk_of I.hok he
  have lk1 : kvs.length = vs.length := Paired.length kv1
  have lk2 : more.length = ws.length := Paired.length kv2
  refine call_meetsIn F.slot_dict_update d1.typeIs F.entry_dict_update (F.args_dict_update_2 _ _) (meets_dict_update (mixKind X.prog X.w) d e hne n2) ⟨vs, ws, d1, d2, by omega, fun h' dd' _ hs => ?_⟩
  have hx : ∃ q, h'.get? d = some q := let ⟨q, _, _, hq, _⟩ := dd'; ⟨q, hq⟩
  have hl2 := length_mergeK more kvs
  exact ⟨.non, _, d_write (t' := s.toks) I (by rw [hd]; exact True.intro) hs hx (dk_new (by omega) n1 (KV.merge kv2 kv1) dd'), rfl, q⟩
end
end Lk

set_option Elab.async false
set_option linter.all false
set_option maxRecDepth 100000
set_option maxHeartbeats 4000000
/-! the nine words of the law -/
namespace Lk
open PySem PySem.Spec PyProof.Rows L2 LamX
def W9 : List Str := ["wa", "wb", "wc", "wd", "we", "wf", "wg", "wh", "wi"]
def W9r : List Str := ["wi", "wh", "wg", "wf", "we", "wd", "wc", "wb", "wa"]
def P9 : List (Str × Str) := [("wa", "wb"), ("wb", "wc"), ("wc", "wd"), ("wd", "we"), ("we", "wf"), ("wf", "wg"), ("wg", "wh"), ("wh", "wi")]
def PS : List (Str × Str) := [("wc", "wd"), ("wd", "we"), ("we", "wf")]
theorem srt9 : srtS W9 = W9 := by decide +kernel
theorem srt9r : srtS W9r = W9 := by decide +kernel
theorem wf9r : Wf W9r P9 := ⟨by unfold Wds; decide +kernel, by decide +kernel, by decide, by decide, by decide +kernel⟩
theorem wf9 : Wf W9 PS := ⟨by unfold Wds; decide +kernel, by decide +kernel, by decide, by decide, by decide +kernel⟩
def rk9 (w : Str) : Nat := W9.idxOf w
theorem ok9 : WM.Ok slt (srtS W9r) P9 rk9 := by
  rw [srt9r]
  exact ⟨slt_lin, by unfold WM.Asc; decide +kernel, by decide +kernel, by unfold WM.Ranked; decide +kernel⟩
theorem okS : WM.Ok slt (srtS W9) PS rk9 := by
  rw [srt9]
  exact ⟨slt_lin, by unfold WM.Asc; decide +kernel, by decide +kernel, by unfold WM.Ranked; decide +kernel⟩
theorem rings_ok {W : List Str} {PP : List (Str × Str)} {rk : Str → Nat} (K : WM.Ok slt (srtS W) PP rk) (h : ∀ z ∈ srtS W, rk z < (srtS W).length) : RingsAt W PP (fun _ => none) :=
  ⟨fun wd hw => ⟨(srtS W).length, WM.ring_none K h (mem_srtS.mpr hw)⟩, fun wd r h => by cases h⟩
theorem rings9 : RingsAt W9r P9 (fun _ => none) := rings_ok ok9 (by rw [srt9r]; decide +kernel)
theorem ringsS : RingsAt W9 PS (fun _ => none) := rings_ok okS (by rw [srt9]; decide +kernel)
theorem noring (W : List Str) : WM.wishRing (fun _ => none) (srtS W) = none := WM.wishRing_none fun _ _ => rfl
theorem ch9 : chT W9r P9 = W9 := by
  show WM.chainT (srtS W9r) P9 (srtS W9r).length (srtS W9r) = W9
  rw [srt9r]
  decide +kernel
theorem chS : chT W9 PS = (["wc", "wd", "we", "wf"] : List Str) := by
  show WM.chainT (srtS W9) PS (srtS W9).length (srtS W9) = (["wc", "wd", "we", "wf"] : List Str)
  rw [srt9]
  decide +kernel
theorem lf9 : (dct (srtS W9r) (nmV (WM.Lf P9 W9r.length))).map (·.2) = [0, 1, 2, 3, 4, 5, 6, 7, 8].map V.int := by
  rw [srt9r]
  decide +kernel
/-! a dict of numbers -/
theorem th_nums {K : PySem.W.Frag} {H : Hp} {d : Addr} {kvs : List (Key × V)} {W : List Str} {N : Str → Int} (h : H d = some (.dK kvs)) (hl : kvs.length = W.length) (hv : ∀ w ∈ W, valV kvs (kS w) = some (.int (N w))) (h0 : ∀ w ∈ W, 0 ≤ N w) : ThingIs K H (.ref d) W true :=
  .inr ⟨d, kvs, fun w => decide (0 ≤ N w), rfl, h, fun w hw => .inr ⟨_, hv w hw, fun _ _ => natV_int _⟩, by
    have e : (W.all fun w => decide (0 ≤ N w)) = true := List.all_eq_true.mpr fun w hw => decide_eq_true (h0 w hw)
    rw [e, decide_eq_true hl]
    rfl⟩
theorem th_dct {K : PySem.W.Frag} {H : Hp} {d : Addr} {L W : List Str} {N : Str → Int} (h : H d = some (.dK (dct L (nmV N)))) (hp : L.Perm W) (h0 : ∀ w ∈ W, 0 ≤ N w) : ThingIs K H (.ref d) W true :=
  th_nums h (by rw [dct_len, hp.length_eq]) (fun w hw => by rw [dct_in (hp.mem_iff.mpr hw)]; rfl) h0
theorem nums_dct {H : Hp} {d : Addr} {L W : List Str} {N : Str → Int} (h : H d = some (.dK (dct L (nmV N)))) (hp : L.Perm W) : NumsAt H d W N :=
  ⟨_, h, fun w hw => by rw [dct_in (hp.mem_iff.mpr hw)]; rfl⟩
theorem perm9 : W9r.Perm W9 := by
  have e : W9r = W9.reverse := by decide +kernel
  rw [e]
  exact List.reverse_perm W9
def N0 : Str → Int := fun _ => 0
def N1 (w : Str) : Int := if w = "we" then 1 else if w = "wf" then 2 else 0
def N2 (w : Str) : Int := if w = "wd" then 1 else N1 w
def N3 (w : Str) : Int := if w = "we" then 2 else N2 w
def N4 (w : Str) : Int := if w = "wf" then 10 ^ 9 else N3 w
theorem put1 : mergeK (dct W9r (nmV N0)) [(kS "we", .int 1), (kS "wf", .int 2)] = dct W9r (nmV N1) := by decide +kernel
theorem put2 : putK (dct W9r (nmV N1)) (kS "wd") (.int 1) = dct W9r (nmV N2) := by decide +kernel
theorem put3 : putK (dct W9r (nmV N2)) (kS "we") (.int 2) = dct W9r (nmV N3) := by decide +kernel
theorem put4 : putK (dct W9r (nmV N3)) (kS "wf") (.int (10 ^ 9)) = dct W9r (nmV N4) := by decide +kernel
def L1 : List Str := ["wa", "wb", "wd", "wc", "we", "wf", "wg", "wh", "wi"]
def L2' : List Str := ["wa", "wb", "wc", "we", "wd", "wf", "wg", "wh", "wi"]
theorem told1 : ∀ r ∈ WM.told slt N1 (srtS W9) PS, (∀ y ∈ WM.told slt N1 (srtS W9) PS, WM.llt slt y r = false) → r = L1 := by
  rw [srt9]
  decide +kernel
theorem told1n : WM.told slt N1 (srtS W9) PS ≠ [] := by
  rw [srt9]
  decide +kernel
theorem told2 : ∀ r ∈ WM.told slt N2 (srtS W9) PS, (∀ y ∈ WM.told slt N2 (srtS W9) PS, WM.llt slt y r = false) → r = L2' := by
  rw [srt9]
  decide +kernel
theorem told2n : WM.told slt N2 (srtS W9) PS ≠ [] := by
  rw [srt9]
  decide +kernel
theorem told4 : WM.told slt N4 (srtS W9) PS = [] := by
  rw [srt9]
  decide +kernel
theorem nn (w : Str) : 0 ≤ N0 w ∧ 0 ≤ N1 w ∧ 0 ≤ N2 w ∧ 0 ≤ N3 w ∧ 0 ≤ N4 w := by
  have h0 : 0 ≤ N0 w := Int.le_refl _
  have h1 : 0 ≤ N1 w := by
    unfold N1
    split
    · decide
    · split
      · decide
      · decide
  have h2 : 0 ≤ N2 w := by
    unfold N2
    split
    · decide
    · exact h1
  have h3 : 0 ≤ N3 w := by
    unfold N3
    split
    · decide
    · exact h2
  refine ⟨h0, h1, h2, h3, ?_⟩
  unfold N4
  split
  · decide
  · exact h3
end Lk

set_option Elab.async false
set_option linter.all false
set_option maxRecDepth 100000
set_option maxHeartbeats 4000000
/-! comparisons of lists -/
namespace Lk
open PySem PySem.Spec PyProof.Rows L2 LamX
section
variable {K : PySem.W.Frag} {H : Hp}
theorem eqv_lists (a b : List Str) : PyData.eqv (.list ((a.map V.str).map datOf)) (.list ((b.map V.str).map datOf)) = decide (a = b) := by
  rw [dat_strs, dat_strs]
  have e : PyData.eqv (.list (a.map PyData.str)) (.list (b.map PyData.str)) = PyData.eqvAll (a.map PyData.str) (b.map PyData.str) := by simp [PyData.eqv]
  rw [e, eqvAll_strs]
theorem ne_strs {a b : Addr} {r r' : List Str} {Q : VK} (ha : H a = some (.lst (r.map V.str))) (hb : H b = some (.lst (r'.map V.str))) (wa : (r.map V.str).all scl = true) (wb : (r'.map V.str).all scl = true) (q : Q (.bl (!decide (r = r'))) H) : rNeD K (.ref a) (.ref b) H Q :=
  ⟨_, _, dp_list ha wa, dp_list hb wb, shp_dat wa, shp_dat wb, by rw [eqv_lists]; exact q⟩
theorem eq_strs {a b : Addr} {r r' : List Str} {Q : VK} (ha : H a = some (.lst (r.map V.str))) (hb : H b = some (.lst (r'.map V.str))) (wa : (r.map V.str).all scl = true) (wb : (r'.map V.str).all scl = true) (q : Q (.bl (decide (r = r'))) H) : rEqD K (.ref a) (.ref b) H Q :=
  ⟨_, _, dp_list ha wa, dp_list hb wb, shp_dat wa, shp_dat wb, by rw [eqv_lists]; exact q⟩
theorem eqv_dat {x : V} (h : scl x = true) : PyData.eqv (datOf x) (datOf x) = true := by
  cases x with
  | str x => simp [datOf, PyData.eqv]
  | int i => simp [datOf, PyData.eqv]
  | bl b => cases b <;> simp [datOf, PyData.eqv]
  | non => simp [datOf, PyData.eqv]
  | _ => cases h
theorem eqvAll_refl {α : Type} {f : α → PyData} : ∀ {xs : List α}, (∀ x ∈ xs, PyData.eqv (f x) (f x) = true) → PyData.eqvAll (xs.map f) (xs.map f) = true
  | [], _ => by simp [PyData.eqvAll]
  | x :: xs, h => by
    simp only [List.map_cons, PyData.eqvAll, Bool.and_eq_true]
    exact ⟨h x List.mem_cons_self, eqvAll_refl fun y hy => h y (List.mem_cons_of_mem _ hy)⟩
theorem eqv_list_refl {α : Type} {f : α → PyData} {xs : List α} (h : ∀ x ∈ xs, PyData.eqv (f x) (f x) = true) : PyData.eqv (.list (xs.map f)) (.list (xs.map f)) = true := by
  simp only [PyData.eqv]
  exact eqvAll_refl h
/-- two lists of the same plain things -/
theorem ne_flat {a b : Addr} {xs : List V} {Q : VK} (ha : H a = some (.lst xs)) (hb : H b = some (.lst xs)) (w : xs.all scl = true) (q : Q (.bl false) H) : rNeD K (.ref a) (.ref b) H Q :=
  ⟨_, _, dp_list ha w, dp_list hb w, shp_dat w, shp_dat w, by rw [eqv_list_refl fun x hx => eqv_dat (List.all_eq_true.mp w x hx)]; exact q⟩
/-- pairs (word, number) of two lists -/
theorem dp_kv : ∀ {ts : List Addr} {L : List (Str × Int)}, Paired (fun (t : Addr) (q : Str × Int) => H t = some (.tup [.str q.1, .int q.2])) ts L → DpAll K H (ts.map V.ref) (L.map fun q => PyData.tuple [.str q.1, .int q.2])
  | _, _, .nil => .nil
  | _, _, .cons h t => .cons (.tup (SqT.of h) (.cons (.str _) (.cons (.int _) .nil))) (dp_kv t)
theorem ne_items {a b : Addr} {ts us : List Addr} {L : List (Str × Int)} {Q : VK} (ha : H a = some (.lst (ts.map V.ref))) (hb : H b = some (.lst (us.map V.ref))) (h1 : Paired (fun (t : Addr) (q : Str × Int) => H t = some (.tup [.str q.1, .int q.2])) ts L)
    (h2 : Paired (fun (t : Addr) (q : Str × Int) => H t = some (.tup [.str q.1, .int q.2])) us L) (w : ∀ q ∈ L, PyData.strOk q.1 = true) (q : Q (.bl false) H) : rNeD K (.ref a) (.ref b) H Q := by
  have sh : SeqAt.shaped (.list (L.map fun q => PyData.tuple [.str q.1, .int q.2])) = true := shp_list (d := 1) (fun x hx => by
      simp only [PyData.canLay0, PyData.canLayAll0, Bool.and_eq_true]
      exact ⟨w x hx, by simp [PyData.canLay0, PyData.canLayAll0]⟩) (fun x => by simp [PyData.depth, PyData.depthAll]) (by decide)
  refine ⟨_, _, .lst (SqL.of ha) (dp_kv h1), .lst (SqL.of hb) (dp_kv h2), sh, sh, ?_⟩
  rw [eqv_list_refl fun x _ => by simp [PyData.eqv, PyData.eqvAll]]
  exact q
/-- list(zip(..)) of words: the pairs -/
theorem prs_zip {xs ys : List V} {PP : List (Str × Str)} {ts : List Addr} {p : Addr} (hp : H p = some (.lst (ts.map V.ref))) (h : Paired (fun (t : Addr) (q : V × V) => H t = some (.tup [q.1, q.2])) ts (xs.zip ys)) (e : xs.zip ys = PP.map fun q => (V.str q.1, V.str q.2)) : PrsL H p PP := by
  refine ⟨ts, hp, ?_⟩
  rw [e] at h
  clear e hp
  induction PP generalizing ts with
  | nil =>
    cases h
    exact .nil
  | cons q PP ih =>
    cases h with
    | cons a t => exact .cons a (ih t)
/-- pairs (word, 0) in the making -/
def ZeI (E1 : Addr) (H0 : Hp) (L : List Str) (m : Nat) (H' : Hp) : Prop := Same H0 H' ∧ ∃ ts : List Addr, H' E1 = some (.lst (ts.map V.ref)) ∧ KvAt H' ts ((L.take m).map fun z => (z, nmV N0 z)) ∧ ts.length ≤ m
theorem ZeI.start {E1 : Addr} {H0 : Hp} {L : List Str} (hE : H0 E1 = none) : ZeI E1 H0 L 0 (upd H0 E1 (.lst [])) := ⟨(Same.refl H0).new hE _, [], upd_same, .nil, Nat.le_refl _⟩
theorem ZeI.turn {E1 : Addr} {H0 H5 : Hp} {L : List Str} {m : Nat} {wd : Str} (hE : H0 E1 = none) (h : ZeI E1 H0 L m H5) (hw : L[m]? = some wd) (hm : m < 50) {t : Addr} (ht : H5 t = none) :
    ∃ acc, upd H5 t (.tup [.str wd, .int 0]) E1 = some (.lst acc) ∧ acc.length < sizeLine ∧ ZeI E1 H0 L (m + 1) (upd (upd H5 t (.tup [.str wd, .int 0])) E1 (.lst (acc ++ [.ref t]))) := by
  obtain ⟨s5, ts, hts, hkv, htl⟩ := h
  have t1 := (Same.refl H5).add ht (.tup [V.str wd, V.int 0])
  have nEt : E1 ≠ t := ne_of_none hts ht
  refine ⟨_, t1 _ _ hts, small1000 (by rw [List.length_map]; omega), (s5.trans t1).new hE _, ts ++ [t], by rw [upd_same, List.map_append]; rfl, ?_, by rw [List.length_append, List.length_singleton]; omega⟩
  rw [take_more hw, List.map_append]
  refine Paired.snoc (KvAt.sm (x := E1) (hkv.same t1) ((Sm.refl _ _).put _) fun xs e => by rw [t1 _ _ hts] at e; cases e) ?_
  show upd (upd H5 t (.tup [.str wd, .int 0])) E1 _ t = some (.tup [.str wd, .int 0])
  rw [upd_ne nEt.symm, upd_same]
end
/-! a def without parameters called -/
section
variable {X : Cx} {CX : CXT} {k j : Nat} {x : Str} {sp : Sp} {E : XK} {p pos : Pos}
theorem pe_cc0 (c : Cal X.prog X.w X.K X.mg X.base CX j x sp) (hr : Room k X.A) (hj : j ≤ k) (hx : Passes CX X E) (hg : Gl X x := by rfl) (hdb : (x == ("__debug__" : Str)) = false := by decide) :
    PE X (.Call (.Name x p) [] [] pos) (tCall sp [] E tNil) := by
  obtain ⟨f, fd, ps, F, hm, hk, hb⟩ := c.ex
  exact pe_call0 F (hr.mono hj) hg hm hk hb .nil hx hdb
end
end Lk

set_option Elab.async false
set_option linter.all false
set_option maxRecDepth 100000
set_option maxHeartbeats 4000000
namespace Lk
open PySem PySem.Spec PyProof.Rows L2 LamX
abbrev sNine : Stmt := top 40
abbrev NNine : List Str := ["_law_words", "_law_whole", "_law_short", "_law_numbers", "_law_word"]
def spNine : Sp := fun vs H Q _ => vs = [] ∧ ∀ H', Same H H' → Q (.bl true) H'
section
variable {P : Program} {w : World} {K : PySem.W.Frag} {mg : Str → Option Value} {base : Heap}
theorem scNine : FnScope NNine [] (defScope sNine) := ⟨rfl, rfl, rfl, by decide +kernel, rfl, by decide +kernel, by decide +kernel⟩
theorem cal_nine {C CR CN : Addr} (B : Blt mg) (D : Def K mg "_law_nine_right" sNine) (MW : MkW P w K mg base C)
    (CB : Cal P w K mg base (L2.CX P w) 4 "breaking_line" (spBreak K C CR CN)) (CL : Cal P w K mg base (L2.CX P w) 5 "least_numbers" (spLeast C CR)) (CG : Cal P w K mg base (L2.CX P w) 5 "longest_chain" (spLong C CR)) :
    Cal P w K mg base CX0 6 "_law_nine_right" spNine := by
  refine D.cal scNine (fun vs H Q E h => ?_) (fun _ _ _ _ _ _ us hl => match us, hl with | [], _ => rfl) (fun f cdv A outer s H vs Q E hr h => ?_)
  · obtain ⟨rfl, _⟩ := h
    rfl
  · obtain ⟨rfl, q⟩ := h
    refine ⟨_, pss_cons (ps_set (i := 0) scNine.nd rfl (Or.inl rfl) (pe_lst (pa_cons pe_str (pa_cons pe_str (pa_cons pe_str (pa_cons pe_str (pa_cons pe_str (pa_cons pe_str (pa_cons pe_str (pa_cons pe_str (pa_cons pe_str pa_nil)))))))))))
      (pss_cons (ps_par (i := 1) (j := 2) (by rfl) scNine.nd rfl rfl (by decide) rfl rfl (pa_cons (pe_wishes MW hr (by decide) (pa_cons (pe_revL (pv 0)) (pa_cons (pe_listZip rfl (pa_cons (pv 0) (pa_cons (pe_slice sl_list (pv 0) (po_some pe_int) po_none) pa_nil)) (by rfl) B.list (by rfl) (by rfl) B.zip) pa_nil))) (pa_cons (pe_wishes MW hr (by decide) (pa_cons (pv 0) (pa_cons (pe_listZip rfl (pa_cons (pe_slice sl_list (pv 0) (po_some pe_int) (po_some pe_int)) (pa_cons (pe_slice sl_list (pv 0) (po_some pe_int) (po_some pe_int)) pa_nil)) (by rfl) B.list (by rfl) (by rfl) B.zip) pa_nil))) pa_nil)) (by rfl))
      (pss_cons (ps_if (PW.pt (pw_or (pt_cmpR (op_neD hr.units) (pe_cc CG hr (by decide) (passes_call LamX.takes0 (fun _ _ _ _ h => h)) (pa_cons (pv 1) pa_nil)) (pv 0) (nomark _)) (pw_or1 (pt_cmpR (op_neD hr.units) (pe_listVals rfl (pe_cc CL hr (by decide) (passes_call LamX.takes0 (fun _ _ _ _ h => h)) (pa_cons (pv 1) pa_nil)) (by rfl) B.list (by rfl)) (pe_listRg rfl (by rfl) B.list (prg_1 (by rfl) B.range pe_int)) (nomark _))))) (pss_one (ps_ret pe_bl)) pss_nil)
      (pss_cons (ps_set (i := 3) scNine.nd rfl (Or.inl rfl) (pe_callTy (call_dictP rfl) (by rfl) B.dict (by decide +kernel) (pa_cons (pe_lc (own := [("_law_word", 4)]) (g := gName 4) (tt := tYes) rfl scNine.nd (pi_list (pe_revL (pv 0))) (blkOk_by (N := NNine) (sc := defScope sNine) (by decide +kernel)) (fun _ _ _ _ _ => pg_name (i := 4) scNine.nd rfl (Or.inl rfl)) (fun _ _ _ _ _ => pts_nil) (fun _ _ _ _ _ => pe_tup (pa_cons (pv 4) (pa_cons pe_int pa_nil)))) pa_nil)))
      (pss_cons (ps_expr (pe_bm PySem.F.plainAttrs_dict PySem.F.slot_dict_update PySem.F.type_dict_update mt_updateD (pv 3) (pa_cons (pe_disp (pps_cons pe_str pe_int (pps_cons pe_str pe_int pps_nil)) (by rfl) (by rfl) (fun z => by cases z) (by decide)) pa_nil)))
      (pss_cons (ps_if (pt_cmpR (op_neD hr.units) (pe_cc CB hr (by decide) (passes_call LamX.takes0 (fun _ _ _ _ h => h)) (pa_cons (pv 2) (pa_cons (pv 3) pa_nil))) (pe_lst (pa_cons pe_str (pa_cons pe_str (pa_cons pe_str (pa_cons pe_str (pa_cons pe_str (pa_cons pe_str (pa_cons pe_str (pa_cons pe_str (pa_cons pe_str pa_nil)))))))))) (nomark _)) (pss_one (ps_ret pe_bl)) pss_nil)
      (pss_cons (ps_dput (Rm.u1 hr) (pv 3) pe_str pe_int rfl)
      (pss_cons (ps_if (pt_cmpR (op_neD hr.units) (pe_cc CB hr (by decide) (passes_call LamX.takes0 (fun _ _ _ _ h => h)) (pa_cons (pv 2) (pa_cons (pv 3) pa_nil))) (pe_lst (pa_cons pe_str (pa_cons pe_str (pa_cons pe_str (pa_cons pe_str (pa_cons pe_str (pa_cons pe_str (pa_cons pe_str (pa_cons pe_str (pa_cons pe_str pa_nil)))))))))) (nomark _)) (pss_one (ps_ret pe_bl)) pss_nil)
      (pss_cons (ps_dput (Rm.u1 hr) (pv 3) pe_str pe_int rfl)
      (pss_cons (ps_dput (Rm.u1 hr) (pv 3) pe_str (pe_op op_pow pe_int pe_int) rfl)
      (pss_one (ps_ret (pe_and (pe_cmpR op_isN (pe_cc CB hr (by decide) (passes_call LamX.takes0 (fun _ _ _ _ h => h)) (pa_cons (pv 2) (pa_cons (pv 3) pa_nil))) pe_non (nomark _)) (pe_one (pe_cmpR (op_eqD hr.units) (pe_cc CG hr (by decide) (passes_call LamX.takes0 (fun _ _ _ _ h => h)) (pa_cons (pv 2) pa_nil)) (pe_slice sl_list (pv 0) (po_some pe_int) (po_some pe_int)) (nomark _))))))))))))))), ?_⟩
    have hc2 : (2 : Nat) ≤ sizeLine := by decide
    have hc9 : (9 : Nat) ≤ sizeLine := by decide
    have s9 : (W9.map V.str).all scl = true := by decide +kernel
    have e9 : [V.str "wa", V.str "wb", V.str "wc", V.str "wd", V.str "we", V.str "wf", V.str "wg", V.str "wh", V.str "wi"] = W9.map V.str := rfl
    refine ⟨hc9, fun b hb => ?_⟩
    have t1 := (Same.refl H).add hb (.lst (W9.map V.str))
    have kb : upd H b (.lst (W9.map V.str)) b = some (.lst (W9.map V.str)) := upd_same
    rw [e9]
    generalize upd H b (.lst (W9.map V.str)) = H1 at t1 kb ⊢
    -- Wishes(words[::-1], list(zip(words, words[1:])))
    refine ⟨_, rfl, b, _, rfl, SqL.of kb, fun rv hrv => ?_⟩
    have erv : (W9.map V.str).reverse = W9r.map V.str := by decide +kernel
    rw [erv]
    have t2 := t1.add hrv (.lst (W9r.map V.str))
    have k2 := ((Same.refl H1).add hrv (.lst (W9r.map V.str))) _ _ kb
    have r2 : upd H1 rv (.lst (W9r.map V.str)) rv = some (.lst (W9r.map V.str)) := upd_same
    generalize upd H1 rv (.lst (W9r.map V.str)) = H2 at t2 k2 r2 ⊢
    refine ⟨_, rfl, _, rfl, 1, rfl, b, _, rfl, SqL.of k2, fun sl hsl => ?_⟩
    have t3 := (Same.refl H2).add hsl (.lst (cutV (W9.map V.str) (some 1) none))
    refine ⟨b, sl, _, _, rfl, SqL.of (t3 _ _ k2), SqL.of upd_same, fun H3 zl ts s3 nzl nts nin hzl hpr => ?_⟩
    have s3' : Same H2 H3 := t3.trans s3
    have pz : PrsL H3 zl P9 := prs_zip hzl hpr (by decide +kernel)
    obtain ⟨ps, ps1, ps2⟩ := pz
    refine fun mw dx nmw hdx nd => ⟨H3, mw, dx, rv, zl, W9r, P9, ps, rfl, fun c o e => by rw [upd_ne (ne_of_none e nmw), upd_ne (ne_of_none e hdx)]; exact e, nmw, upd_same, s3' _ _ r2, ps1, ps2, wf9r, fun H4 s4 hmw => ⟨rfl, ?_⟩⟩
    have s24 := s3'.trans s4
    have t4 := t2.trans s24
    have k4 := s24 _ _ k2
    clear hpr hzl nin nts ps1 ps2 s3 s3' t3 s24
    -- Wishes(words, list(zip(words[2:6], words[3:6])))
    refine ⟨_, rfl, _, rfl, 2, rfl, 6, rfl, b, _, rfl, SqL.of k4, fun s5 hs5 => ?_⟩
    have t5 := (Same.refl H4).add hs5 (.lst (cutV (W9.map V.str) (some 2) (some 6)))
    refine ⟨_, rfl, 3, rfl, 6, rfl, b, _, rfl, SqL.of (t5 _ _ k4), fun s6 hs6 => ?_⟩
    have t6 := t5.add hs6 (.lst (cutV (W9.map V.str) (some 3) (some 6)))
    have n56 : s5 ≠ s6 := ne_of_none upd_same hs6
    refine ⟨s5, s6, _, _, rfl, SqL.of (by rw [upd_ne n56, upd_same]), SqL.of upd_same, fun H7 zl ts s7 nzl nts nin hzl hpr => ?_⟩
    have s47 : Same H4 H7 := t6.trans s7
    have pz : PrsL H7 zl PS := prs_zip hzl hpr (by decide +kernel)
    obtain ⟨ps', ps1, ps2⟩ := pz
    refine fun ms dx' nms hdx' nd' => ⟨H7, ms, dx', b, zl, W9, PS, ps', rfl, fun c o e => by rw [upd_ne (ne_of_none e nms), upd_ne (ne_of_none e hdx')]; exact e, nms, upd_same, s47 _ _ k4, ps1, ps2, wf9, fun H8 s8 hms => ⟨rfl, ?_⟩⟩
    have s48 := s47.trans s8
    have t8 := t4.trans s48
    have k8 := s48 _ _ k4
    have hmw8 := hmw.same s48
    clear hpr hzl nin nts ps1 ps2 s7 s47 t5 t6 s48 n56
    refine ⟨_, _, rfl, ?_⟩
    -- the chain and the least numbers
    refine ⟨_, rfl, mw, W9r, P9, fun _ => none, rfl, hmw8, wf9r, rings9, fun _ => ⟨⟨rk9, ok9⟩, fun H9 l s9' nl hl => ?_⟩, fun ring er => absurd (er.symm.trans (noring _)) (by simp)⟩
    rw [ch9] at hl
    have k9 := s9' _ _ k8
    refine ⟨_, rfl, ne_strs hl k9 s9 s9 ⟨false, rfl, iteF ?_⟩⟩
    refine ⟨_, rfl, mw, W9r, P9, fun _ => none, rfl, hmw8.same s9', wf9r, rings9, fun _ => ⟨⟨rk9, by have := ok9.rank; rwa [srtS_len] at this⟩, fun H10 d0 s10 nd10 hd10 => ?_⟩, fun ring er => absurd (er.symm.trans (noring _)) (by simp)⟩
    have t10 := (t8.trans s9').trans s10
    have k10 := s10 _ _ k9
    have hms10 := (hms.same s9').same s10
    refine ⟨d0, _, rfl, hd10, fun p hp => ?_⟩
    rw [lf9]
    refine ⟨9, rfl, RgOk.of_le (by decide) (by decide) (by decide) (by decide), fun r hr => ?_⟩
    have erg : rgV 0 9 = [0, 1, 2, 3, 4, 5, 6, 7, 8].map V.int := by decide +kernel
    rw [erg]
    have npr : p ≠ r := ne_of_none upd_same hr
    have t11 := ((Same.refl H10).add hp (.lst ([0, 1, 2, 3, 4, 5, 6, 7, 8].map V.int))).add hr (.lst ([0, 1, 2, 3, 4, 5, 6, 7, 8].map V.int))
    refine ne_flat (by rw [upd_ne npr, upd_same]) upd_same (all_ints _) ⟨false, rfl, iteF ?_⟩
    have t12 := t10.trans t11
    have k12 := t11 _ _ k10
    have hms12 := hms10.same t11
    generalize upd (upd H10 p (.lst ([0, 1, 2, 3, 4, 5, 6, 7, 8].map V.int))) r (.lst ([0, 1, 2, 3, 4, 5, 6, 7, 8].map V.int)) = H12 at t12 k12 hms12 ⊢
    clear t11 npr hr hp hd10 nd10 s10 s9' hms hms10 hmw8 hmw t10 k10 k9 k8 t8 hl
    -- the numbers
    refine ⟨_, rfl, b, _, rfl, SqL.of k12, fun rw2 hrw2 => ?_⟩
    rw [erv]
    have a13 := (Same.refl H12).add hrw2 (.lst (W9r.map V.str))
    have r13 : upd H12 rw2 (.lst (W9r.map V.str)) rw2 = some (.lst (W9r.map V.str)) := upd_same
    have t13 := t12.trans a13
    have k13 := a13 _ _ k12
    have hms13 := hms12.same a13
    generalize upd H12 rw2 (.lst (W9r.map V.str)) = H13 at r13 t13 k13 hms13 ⊢
    refine ⟨rw2, rfl, ⟨_, SqL.of r13⟩, fun E1 hE1 => ?_⟩
    refine lc_it (walk_list (K := K) (a := rw2) (xs := W9r.map V.str)) (ZeI E1 H13 W9r) (ZeI.start hE1) (fun m H' _ h => SqL.of (h.1 _ _ r13)) ?_ ?_
    · rintro m z _ H5 hm hI ⟨rfl, hz⟩
      obtain ⟨wd, hwd, rfl⟩ := map_at hz
      exact ⟨rfl, _, rfl, hc2, fun t ht => ZeI.turn hE1 hI hwd (Nat.lt_trans hm (by decide)) ht⟩
    · rintro H14 ⟨s14, ts, hts, hkv, htl⟩
      rw [List.length_map, List.take_length] at hkv
      refine ⟨E1, ts, _, rfl, SqL.of hts, hkv.sq, fun d hd => ?_⟩
      rw [kvs_dct W9r (nmV N0), merge_dct0 _ wf9r.nd]
      have a15 := s14.add hd (.dK (dct W9r (nmV N0)))
      have d15 : upd H14 d (.dK (dct W9r (nmV N0))) d = some (.dK (dct W9r (nmV N0))) := upd_same
      have t15 := t13.trans a15
      have k15 := a15 _ _ k13
      have hms15 := hms13.same a15
      have ndH : H d = none := (t13.trans s14).free hd
      have new : ∀ {Hz : Hp} {kv : HO}, Same H Hz → Same H (upd Hz d kv) := fun {Hz kv} s c o e => by
        rw [upd_ne (ne_of_none e ndH)]
        exact s _ _ e
      generalize upd H14 d (.dK (dct W9r (nmV N0))) = H15 at d15 t15 k15 hms15 ⊢
      -- what a put of the dict leaves
      have nbd : ∀ {Hz : Hp} {kvs : List (Key × V)}, Hz d = some (.dK kvs) → Hz b = some (.lst (W9.map V.str)) → b ≠ d := fun h1 h2 e => by
        rw [e, h1] at h2
        cases h2
      have wput : ∀ {Hz : Hp} {kvs : List (Key × V)} {o : HO}, Hz d = some (.dK kvs) → WishAt C Hz ms W9 PS → WishAt C (upd Hz d o) ms W9 PS := fun {Hz kvs o} h1 h2 => by
        obtain ⟨dx, tw, tp, ps, g1, g2, g3, g4⟩ := h2
        have ne : ∀ {c : Addr} {u : HO}, Hz c = some u → (∀ kv, u ≠ .dK kv) → c ≠ d := fun {c u} e n z => by
          rw [z, h1] at e
          exact n _ (Option.some.inj e).symm
        exact ⟨dx, tw, tp, ps, by rw [upd_ne (ne g1 fun _ z => by cases z)]; exact g1, by rw [upd_ne (ne g2 fun _ z => by cases z)]; exact g2, by rw [upd_ne (ne g3 fun _ z => by cases z)]; exact g3,
          Paired.mapP g4 fun c q e => by rw [upd_ne (ne e fun _ z => by cases z)]; exact e⟩
      refine ⟨_, rfl, .inr (.inr (.inl ⟨rfl, .inl ⟨_, d15⟩⟩)), fun p hp => ⟨upd_same, [(kS "we", V.int 1), (kS "wf", V.int 2)], rfl, by decide, ?_⟩⟩
      have em : mergeK [] [(kS "we", V.int 1), (kS "wf", V.int 2)] = [(kS "we", V.int 1), (kS "wf", V.int 2)] := by decide +kernel
      rw [em]
      have a16 := ((Same.refl H15).add hp (.dK []))
      have ndp : d ≠ p := ne_of_none d15 hp
      have d16 : upd (upd H15 p (.dK [])) p (.dK [(kS "we", V.int 1), (kS "wf", V.int 2)]) d = some (.dK (dct W9r (nmV N0))) := by rw [upd_ne ndp, upd_ne ndp]; exact d15
      have b16 : Same H15 (upd (upd H15 p (.dK [])) p (.dK [(kS "we", V.int 1), (kS "wf", V.int 2)])) := fun c o e => by
        rw [upd_ne (ne_of_none e hp), upd_ne (ne_of_none e hp)]
        exact e
      refine ⟨d, p, _, _, rfl, rfl, d16, upd_same, ndp, by rw [dct_len]; decide, ?_⟩
      rw [put1]
      have t17 := new (kv := .dK (dct W9r (nmV N1))) (t15.trans b16)
      have d17 : upd (upd (upd H15 p (.dK [])) p (.dK [(kS "we", V.int 1), (kS "wf", V.int 2)])) d (.dK (dct W9r (nmV N1))) d = some (.dK (dct W9r (nmV N1))) := upd_same
      have k17 : upd (upd (upd H15 p (.dK [])) p (.dK [(kS "we", V.int 1), (kS "wf", V.int 2)])) d (.dK (dct W9r (nmV N1))) b = some (.lst (W9.map V.str)) := by
        rw [upd_ne (nbd d15 k15)]
        exact b16 _ _ k15
      have w17 := wput (o := .dK (dct W9r (nmV N1))) d16 (hms15.same b16)
      generalize upd (upd (upd H15 p (.dK [])) p (.dK [(kS "we", V.int 1), (kS "wf", V.int 2)])) d (.dK (dct W9r (nmV N1))) = H17 at t17 d17 k17 w17 ⊢
      clear d16 b16 a16 hp ndp
      -- the first
      refine ⟨_, rfl, _, rfl, ms, .ref d, W9, PS, fun _ => none, rfl, w17, wf9, ringsS, fun _ => ⟨true, th_dct d17 perm9 fun w _ => (nn w).2.1, fun z => (nomatch z), fun _ => ⟨d, N1, rfl, nums_dct d17 perm9, fun e => absurd e told1n, fun H18 l r s18 hr hlr hl => ?_⟩⟩, fun ring er => absurd (er.symm.trans (noring _)) (by simp)⟩
      rw [told1 r hr hlr] at hl
      refine ⟨hc9, fun l2 hl2 => ?_⟩
      have c18 := (Same.refl H18).add hl2 (.lst (L1.map V.str))
      have sL1 : (L1.map V.str).all scl = true := by decide +kernel
      have sL2 : (L2'.map V.str).all scl = true := by decide +kernel
      refine ne_strs (r := L1) (r' := L1) (c18 _ _ hl) upd_same sL1 sL1 ⟨false, rfl, iteF ?_⟩
      have c19 : Same H17 (upd H18 l2 (.lst (L1.map V.str))) := s18.trans c18
      have t19 := t17.trans c19
      have d19 := c19 _ _ d17
      have k19 := c19 _ _ k17
      have w19 := w17.same c19
      show tNext _ _ (upd H18 l2 (.lst (L1.map V.str)))
      generalize upd H18 l2 (.lst (L1.map V.str)) = H19 at t19 d19 k19 w19 ⊢
      clear c19 c18 hl2 s18 hl
      -- numbers["wd"] = 1
      refine ⟨_, rfl, d, _, rfl, DPut.k (k := kS "wd") d19 (by rw [dct_len]; decide), ?_⟩
      rw [put2]
      have t20 := new (kv := .dK (dct W9r (nmV N2))) t19
      have d20 : upd H19 d (.dK (dct W9r (nmV N2))) d = some (.dK (dct W9r (nmV N2))) := upd_same
      have k20 : upd H19 d (.dK (dct W9r (nmV N2))) b = some (.lst (W9.map V.str)) := by rw [upd_ne (nbd d19 k19)]; exact k19
      have w20 := wput (o := .dK (dct W9r (nmV N2))) d19 w19
      generalize upd H19 d (.dK (dct W9r (nmV N2))) = H20 at t20 d20 k20 w20 ⊢
      refine ⟨_, rfl, _, rfl, ms, .ref d, W9, PS, fun _ => none, rfl, w20, wf9, ringsS, fun _ => ⟨true, th_dct d20 perm9 fun w _ => (nn w).2.2.1, fun z => (nomatch z), fun _ => ⟨d, N2, rfl, nums_dct d20 perm9, fun e => absurd e told2n, fun H18 l r s18 hr hlr hl => ?_⟩⟩, fun ring er => absurd (er.symm.trans (noring _)) (by simp)⟩
      rw [told2 r hr hlr] at hl
      refine ⟨hc9, fun l2 hl2 => ?_⟩
      have c18 := (Same.refl H18).add hl2 (.lst (L2'.map V.str))
      refine ne_strs (r := L2') (r' := L2') (c18 _ _ hl) upd_same sL2 sL2 ⟨false, rfl, iteF ?_⟩
      have c21 : Same H20 (upd H18 l2 (.lst (L2'.map V.str))) := s18.trans c18
      have t21 := t20.trans c21
      have d21 := c21 _ _ d20
      have k21 := c21 _ _ k20
      have w21 := w20.same c21
      show tNext _ _ (upd H18 l2 (.lst (L2'.map V.str)))
      generalize upd H18 l2 (.lst (L2'.map V.str)) = H21 at t21 d21 k21 w21 ⊢
      clear c21 c18 hl2 s18 hl
      -- the last two
      refine ⟨_, rfl, d, _, rfl, DPut.k (k := kS "we") d21 (by rw [dct_len]; decide), ?_⟩
      rw [put3]
      have t22 := new (kv := .dK (dct W9r (nmV N3))) t21
      have d22 : upd H21 d (.dK (dct W9r (nmV N3))) d = some (.dK (dct W9r (nmV N3))) := upd_same
      have k22 : upd H21 d (.dK (dct W9r (nmV N3))) b = some (.lst (W9.map V.str)) := by rw [upd_ne (nbd d21 k21)]; exact k21
      have w22 := wput (o := .dK (dct W9r (nmV N3))) d21 w21
      generalize upd H21 d (.dK (dct W9r (nmV N3))) = H22 at t22 d22 k22 w22 ⊢
      refine ⟨10, 9, rfl, rfl, ⟨by decide, by decide, by decide⟩, _, rfl, d, _, rfl, DPut.k (k := kS "wf") d22 (by rw [dct_len]; decide), ?_⟩
      have e4 : putK (dct W9r (nmV N3)) (kS "wf") (.int (10 ^ (9 : Int).toNat)) = dct W9r (nmV N4) := put4
      rw [e4]
      have t23 := new (kv := .dK (dct W9r (nmV N4))) t22
      have d23 : upd H22 d (.dK (dct W9r (nmV N4))) d = some (.dK (dct W9r (nmV N4))) := upd_same
      have k23 : upd H22 d (.dK (dct W9r (nmV N4))) b = some (.lst (W9.map V.str)) := by rw [upd_ne (nbd d22 k22)]; exact k22
      have w23 := wput (o := .dK (dct W9r (nmV N4))) d22 w22
      generalize upd H22 d (.dK (dct W9r (nmV N4))) = H23 at t23 d23 k23 w23 ⊢
      refine ⟨_, rfl, _, rfl, ms, .ref d, W9, PS, fun _ => none, rfl, w23, wf9, ringsS, fun _ => ⟨true, th_dct d23 perm9 fun w _ => (nn w).2.2.2.2, fun z => (nomatch z), fun _ => ⟨d, N4, rfl, nums_dct d23 perm9, fun _ H24 s24 => ?_, fun H18 l r s18 hr => absurd hr (by rw [told4]; simp)⟩⟩, fun ring er => absurd (er.symm.trans (noring _)) (by simp)⟩
      refine ⟨rfl, true, rfl, iteT ?_⟩
      have k24 := s24 _ _ k23
      refine ⟨_, rfl, ms, W9, PS, fun _ => none, rfl, w23.same s24, wf9, ringsS, fun _ => ⟨⟨rk9, okS⟩, fun H25 l s25 nl hl => ?_⟩, fun ring er => absurd (er.symm.trans (noring _)) (by simp)⟩
      rw [chS] at hl
      have k25 := s25 _ _ k24
      refine ⟨_, rfl, 2, rfl, 6, rfl, b, _, rfl, SqL.of k25, fun sl hsl => ?_⟩
      have ecut : cutV (W9.map V.str) (some 2) (some 6) = (["wc", "wd", "we", "wf"] : List Str).map V.str := by decide +kernel
      rw [ecut]
      have c26 := (Same.refl H25).add hsl (.lst ((["wc", "wd", "we", "wf"] : List Str).map V.str))
      refine eq_strs (c26 _ _ hl) upd_same (by decide +kernel) (by decide +kernel) ?_
      exact q _ (((t23.trans s24).trans s25).trans c26)
end
end Lk

set_option Elab.async false
set_option linter.all false
set_option maxRecDepth 100000
set_option maxHeartbeats 4000000
/-! what the law's own words give -/
namespace Lk
open PySem PySem.Spec PyProof.Rows L2 LamX
def W6 : List Str := ["a", "bb", "c", "zeta", "main", "to"]
theorem idxOf_lt {l : List Str} {x : Str} (h : x ∈ l) : l.idxOf x < l.length := (List.getElem?_eq_some_iff.mp (idx_at h).1).1
theorem along_ok {W : List Str} {PP : List (Str × Str)} (n : W.Nodup) (al : Along W PP) : ∃ rk : Str → Nat, WM.Ok slt (srtS W) PP rk ∧ (∀ z ∈ srtS W, rk z < (srtS W).length) ∧ WM.Ranked PP W.length rk := by
  obtain ⟨line, pm, h⟩ := al
  have hl : line.length = W.length := pm.length_eq
  have lt : ∀ z ∈ W, line.idxOf z < W.length := fun z hz => by
    rw [← hl]
    exact idxOf_lt (pm.mem_iff.mpr hz)
  have R : WM.Ranked PP W.length line.idxOf := fun p hp => ⟨(h p hp).2.2, lt _ (h p hp).2.1⟩
  exact ⟨line.idxOf, ⟨slt_lin, srtS_asc n, fun p hp => ⟨mem_srtS.mpr (h p hp).1, mem_srtS.mpr (h p hp).2.1⟩, by rw [srtS_len]; exact R⟩, fun z hz => by rw [srtS_len]; exact lt z (mem_srtS.mp hz), R⟩
theorem along_wf {W : List Str} {PP : List (Str × Str)} (n : W.Nodup) (hW : ∀ z ∈ W, z ∈ W6) (h5 : W.length ≤ 5) (h16 : PP.length ≤ 16) (al : Along W PP) : Wf W PP := by
  obtain ⟨line, pm, h⟩ := al
  have w6 : Wds W6 := by unfold Wds; decide +kernel
  refine ⟨fun z hz => w6 z (hW z hz), n, by omega, by omega, fun p hp => ⟨(h p hp).1, (h p hp).2.1, fun e => ?_⟩⟩
  have := (h p hp).2.2
  rw [e] at this
  omega
theorem no_zz {W : List Str} (hW : ∀ z ∈ W, z ∈ W6) : ("zz" : Str) ∉ W := fun h => by
  have e : ("zz" : Str) ∉ W6 := by decide +kernel
  exact e (hW _ h)
theorem w6_nd : W6.Nodup := by decide +kernel
theorem w6_scl : (W6.map V.str).all scl = true := by decide +kernel
/-- the first line by which numbers break a wish, as the program tells it and as the law looks for it -/
theorem line_is {W : List Str} {PP : List (Str × Str)} {N : Str → Int} (wf : Wf W PP) {r : List Str} (hr : r ∈ WM.told slt N (srtS W) PP) (hl : ∀ y ∈ WM.told slt N (srtS W) PP, WM.llt slt y r = false) :
    (WM.rowsT (srtS W) (srtS W).length).find? (WM.broken N PP) = some r := WM.line_some slt_lin (srtS_asc wf.nd) (fun p hp => ⟨mem_srtS.mpr (wf.mem p hp).1, mem_srtS.mpr (wf.mem p hp).2.1, (wf.mem p hp).2.2⟩) hr hl
theorem line_no {W : List Str} {PP : List (Str × Str)} {N : Str → Int} (wf : Wf W PP) (h : WM.told slt N (srtS W) PP = []) :
    (WM.rowsT (srtS W) (srtS W).length).find? (WM.broken N PP) = none := WM.line_none slt_lin (srtS_asc wf.nd) (fun p hp => ⟨mem_srtS.mpr (wf.mem p hp).1, mem_srtS.mpr (wf.mem p hp).2.1, (wf.mem p hp).2.2⟩) h
theorem told_keeps {W : List Str} {PP : List (Str × Str)} {N : Str → Int} (wf : Wf W PP) : WM.told slt N (srtS W) PP = [] ↔ ∀ p ∈ PP, N p.1 < N p.2 := WM.told_nil fun p hp => ⟨mem_srtS.mpr (wf.mem p hp).1, mem_srtS.mpr (wf.mem p hp).2.1, (wf.mem p hp).2.2⟩
/-- a list of texts told by the first line has plain texts -/
theorem rows_scl {W : List Str} {r : List Str} (h : ∀ z ∈ r, z ∈ W) (w : Wds W) : (r.map V.str).all scl = true := all_strs fun z hz => w z (h z hz)
theorem chain_sub {S : List Str} {PP : List (Str × Str)} : ∀ (k : Nat) (F : List Str), (∀ x ∈ F, x ∈ S) → ∀ z ∈ WM.chainT S PP k F, z ∈ S
  | 0, _, _, z, hz => by cases hz
  | k + 1, F, hF, z, hz => by
    unfold WM.chainT at hz
    split at hz
    · cases hz
    · rename_i c r e
      rcases List.mem_cons.mp hz with q | q
      · have h1 : c ∈ F.filter fun w => decide (WM.Hf PP S.length w = WM.best PP S.length F) := by rw [e]; exact List.mem_cons_self
        rw [q]
        exact hF c (List.mem_filter.mp h1).1
      · exact chain_sub k _ (fun x hx => (WM.mem_bh.mp hx).1) z q
theorem chain_scl {W : List Str} {PP : List (Str × Str)} (w : Wds W) : ((chT W PP).map V.str).all scl = true := all_strs fun z hz => w z (mem_srtS.mp (chain_sub _ _ (fun _ h => h) z hz))
theorem line_scl {W : List Str} {PP : List (Str × Str)} {N : Str → Int} {r : List Str} (w : Wds W) (h : (WM.rowsT (srtS W) (srtS W).length).find? (WM.broken N PP) = some r) : (r.map V.str).all scl = true :=
  all_strs fun z hz => w z (mem_srtS.mp ((WM.mem_rows.mp (List.mem_of_find?_eq_some h)).2.2 z hz))
/-! heaps -/
theorem ext_sql {K : PySem.W.Frag} {H H' : Hp} {a : Addr} {xs : List V} (e : ExtN H H') (h : SqL K H a xs) : SqL K H' a xs := by
  rcases h with (h | ⟨o, h⟩) | h
  · exact .inl (.inl (e _ _ h fun _ z => by cases z))
  · exact .inl (.inr ⟨o, e _ _ h fun _ z => by cases z⟩)
  · exact .inr h
theorem sql_smn {K : PySem.W.Frag} {H H' : Hp} {p a : Addr} {xs : List V} (n : H p = none) (e : SmN p H H') (h : SqL K H a xs) : SqL K H' a xs := by
  rcases h with (h | ⟨o, h⟩) | h
  · exact .inl (.inl (e _ _ (ne_of_none h n) h fun _ z => by cases z))
  · exact .inl (.inr ⟨o, e _ _ (ne_of_none h n) h fun _ z => by cases z⟩)
  · exact .inr h
/-- the items of two like dicts -/
theorem kv_items {H : Hp} {ts : List Addr} {S : List Str} {f : Str → Int} (h : Paired (fun (t : Addr) (q : Key × V) => H t = some (.tup [kV q.1, q.2])) ts (dct S (nmV f))) : Paired (fun (t : Addr) (q : Str × Int) => H t = some (.tup [.str q.1, .int q.2])) ts (S.map fun w => (w, f w)) := by
  unfold dct at h
  induction S generalizing ts with
  | nil => cases h; exact .nil
  | cons x S ih =>
    cases h with
    | cons a t => exact .cons a (ih t)
end Lk

set_option Elab.async false
set_option linter.all false
set_option maxRecDepth 100000
set_option maxHeartbeats 4000000
namespace Lk
open PySem PySem.Spec PyProof.Rows L2 LamX
abbrev sLaw : Stmt := top 41
abbrev NLaw : List Str := ["_law_script", "_law_turn", "_law_pool_here", "_law_words", "_law_pairs", "_law_made", "_law_due", "_law_chain", "_law_told", "_law_row", "_law_k", "_law_numbers", "_law_line", "_law_word", "_law_one_here", "_law_other"]
def spLaw (K : PySem.W.Frag) (T : List (Addr × Str)) : Sp := fun vs H Q _ => ∃ (a : Addr) (ns : List Int), vs = [.ref a] ∧ SqL K H a (ns.map V.int) ∧ Tabs T H ∧ ∀ H', Q (.bl true) H'
/-- what stands in a turn of the law, from its chain on -/
structure LF (C : Addr) (T : List (Addr × Str)) (p bw bp m u cl : Addr) (W : List Str) (PP : List (Str × Str)) (Ha H : Hp) : Prop where
  sm : SmN p Ha H
  pool : PoolAt H p
  words : H bw = some (.lst (W.map V.str))
  prs : PrsL H bp PP
  made : WishAt C H m W PP
  due : H u = some (lfD W PP)
  chain : H cl = some (.lst ((chT W PP).map V.str))
  tabs : Tabs T H
  nw : bw ≠ p
  np : bp ≠ p
  nu : u ≠ p
  nc : cl ≠ p
section
variable {C p bw bp m u cl : Addr} {T : List (Addr × Str)} {W : List Str} {PP : List (Str × Str)} {Ha H H' : Hp}
theorem LF.move (f : LF C T p bw bp m u cl W PP Ha H) (s : SmN p H H') (p' : PoolAt H' p) (t' : Tabs T H') : LF C T p bw bp m u cl W PP Ha H' := by
  obtain ⟨ps, h1, h2⟩ := f.prs
  obtain ⟨x1, y1, z1, e1⟩ := f.pool
  refine ⟨f.sm.trans s, p', s _ _ f.nw f.words (fun _ z => by cases z), ⟨ps, s _ _ f.np h1 (fun _ z => by cases z), Paired.mapP h2 fun c q e => s _ _ (fun z => ?_) e (fun _ z => by cases z)⟩, f.made.smn f.pool s, s _ _ f.nu f.due (fun _ z => by cases z), s _ _ f.nc f.chain (fun _ z => by cases z), t', f.nw, f.np, f.nu, f.nc⟩
  rw [z, e1] at e
  cases e
theorem LF.same (f : LF C T p bw bp m u cl W PP Ha H) (s : Same H H') : LF C T p bw bp m u cl W PP Ha H' := f.move (SmN.ofS s) (f.pool.same s) (f.tabs.ext s)
theorem LF.ofSm (f : LF C T p bw bp m u cl W PP Ha H) (s : Sm p H H') (p' : PoolAt H' p) : LF C T p bw bp m u cl W PP Ha H' := f.move (SmN.of s) p' (tabs_sm f.tabs f.pool s)
theorem LF.ext (f : LF C T p bw bp m u cl W PP Ha H) (e : ExtN H H') (t' : Tabs T H') : LF C T p bw bp m u cl W PP Ha H' := by
  obtain ⟨x1, y1, z1, e1⟩ := f.pool
  exact f.move (SmN.ofE e) ⟨x1, y1, z1, ext_lst e e1⟩ t'
end
section
variable {P : Program} {w : World} {K : PySem.W.Frag} {mg : Str → Option Value} {base : Heap}
theorem scLaw : FnScope NLaw ["_law_script"] (defScope sLaw) := ⟨rfl, rfl, rfl, by decide +kernel, rfl, by decide +kernel, by decide +kernel⟩
theorem fn_law {C CR0 CN f : Addr} {fd : FuncData} {T : List (Addr × Str)} (B : Blt mg) (F : Fun K "law" "law" sLaw f fd) (MW : MkW P w K mg base C)
    (CC : Cal P w K mg base CX0 1 "_law_cell" (spCell K)) (CP : Cal P w K mg base CX0 2 "_law_pool" (spPool K)) (CO : Cal P w K mg base CX0 2 "_law_one" (spOne K)) (CM : Cal P w K mg base CX0 2 "_law_mixed" spMixed) (CW : Cal P w K mg base CX0 3 "_law_wishes" spWishesL)
    (CD : Cal P w K mg base CX0 1 "_law_least_due" (spLeastD K)) (CH : Cal P w K mg base CX0 2 "_law_chain_due" (spChain K)) (CL : Cal P w K mg base (L2.CX P w) 5 "least_numbers" (spLeast C CR0)) (CG : Cal P w K mg base (L2.CX P w) 5 "longest_chain" (spLong C CR0))
    (CR : Cal P w K mg base CX0 2 "wish_ring" (spWRing C)) (CDR : Cal P w K mg base CX0 3 "_law_drawn_numbers" spDrawn) (CLN : Cal P w K mg base CX0 6 "_law_line_due" (spLine K T)) (CB : Cal P w K mg base (L2.CX P w) 4 "breaking_line" (spBreak K C CR0 CN))
    (CF : Cal P w K mg base CX0 8 "_law_refusals_right" (spRight C T)) (C9 : Cal P w K mg base CX0 6 "_law_nine_right" spNine) : FnOk P w K mg base CX0 9 f fd ["_law_script"] (spLaw K T) := by
  refine F.ok scLaw (fun vs H Q E h => ?_) (fun cdv A outer s H vs Q E hr h => ?_)
  · obtain ⟨_, _, rfl, _⟩ := h
    rfl
  · obtain ⟨a, ns, rfl, hS, hT, q⟩ := h
    obtain ⟨tR, hR, qR⟩ : ∃ t, PSs (cxOf CX0 P w K mg base NLaw "law" (defScope sLaw) f cdv A outer s H E).nox ((defBody sLaw).drop 1) t ∧
        ∀ H1 : Hp, Same H H1 → t { nx := fun _ H' => Q .non H', rt := Q } [some (.ref a), none, none, none, none, none, none, none, none, none, none, none, none, none, none, none] H1 := by
      refine ⟨_, pss_cons (ps_for PassesOwn.never rfl (pi_range1 (by rfl) B.range (pa_cons pe_int pa_nil)) (pg_name (i := 1) scLaw.nd rfl (Or.inl rfl))
      (pss_cons (ps_set (i := 2) scLaw.nd rfl (Or.inl rfl) (pe_cc CP hr (by decide) pass0 (pa_cons (pv 0) (pa_cons (pv 1) pa_nil))))
      (pss_cons (ps_set (i := 3) scLaw.nd rfl (Or.inl rfl) (pe_slice sl_list (pe_cc CM hr (by decide) pass0 (pa_cons (pv 2) (pa_cons (pe_lst (pa_cons pe_str (pa_cons pe_str (pa_cons pe_str (pa_cons pe_str (pa_cons pe_str (pa_cons pe_str pa_nil))))))) pa_nil))) po_none (po_some (pe_cc CO hr (by decide) pass0 (pa_cons (pv 2) (pa_cons (pe_lst (pa_cons pe_int (pa_cons pe_int (pa_cons pe_int (pa_cons pe_int (pa_cons pe_int (pa_cons pe_int (pa_cons pe_int pa_nil)))))))) pa_nil))))))
      (pss_cons (ps_set (i := 4) scLaw.nd rfl (Or.inl rfl) (pe_cc CW hr (by decide) pass0 (pa_cons (pv 2) (pa_cons (pv 3) pa_nil))))
      (pss_cons (ps_asg (pe_tup (pa_cons (pe_wishes MW hr (by decide) (pa_cons (pv 3) (pa_cons (pv 4) pa_nil))) (pa_cons (pe_cc CD hr (by decide) pass0 (pa_cons (pv 3) (pa_cons (pv 4) pa_nil))) pa_nil))) (pg_tup rfl (pgs_cons (pg_name (i := 5) scLaw.nd rfl (Or.inl rfl)) (pgs_cons (pg_name (i := 6) scLaw.nd rfl (Or.inr rfl)) pgs_nil))))
      (pss_cons (ps_set (i := 7) scLaw.nd rfl (Or.inl rfl) (pe_cc CH hr (by decide) pass0 (pa_cons (pv 3) (pa_cons (pv 4) pa_nil))))
      (pss_cons (ps_par (i := 8) (j := 9) (by rfl) scLaw.nd rfl rfl (by decide) rfl rfl (pa_cons (pe_cc CL hr (by decide) (passes_call LamX.takes0 (fun _ _ _ _ h => h)) (pa_cons (pv 5) pa_nil)) (pa_cons (pe_cc CG hr (by decide) (passes_call LamX.takes0 (fun _ _ _ _ h => h)) (pa_cons (pv 5) pa_nil)) pa_nil)) (by rfl))
      (pss_cons (ps_if (PW.pt (pw_or (pt_cmpR (op_neD hr.units) (LiI.pe_listItems rfl (pv 8) (by rfl) B.list (by rfl)) (LiI.pe_listItems rfl (pv 6) (by rfl) B.list (by rfl)) (nomark _)) (pw_or (pt_cmpR (op_neD hr.units) (pv 9) (pv 7) (nomark _)) (pw_or1 (pt_cmpR op_notN (pe_cc CR hr (by decide) pass0 (pa_cons (pv 5) pa_nil)) pe_non (nomark _)))))) (pss_one (ps_ret pe_bl)) pss_nil)
      (pss_cons (ps_if (pt_cmpR op_ne (pe_callB call_len_seq (by rfl) B.len PySem.boot_len (pa_cons (pe_callB (cr_sortedN' rfl) (by rfl) B.sorted (by decide +kernel) (pa_cons (pe_callTy (cr_setOf rfl) (by rfl) B.set (by decide +kernel) (pa_cons (pe_lock (pe_lc (own := [("_law_word", 13)]) (g := gName 13) (tt := tYes) rfl scLaw.nd (pi_keys (pv 6)) (blkOk_by (N := NLaw) (sc := defScope sLaw) (by decide +kernel)) (fun _ _ _ _ _ => pg_name (i := 13) scLaw.nd rfl (Or.inl rfl)) (fun _ _ _ _ _ => pts_nil) (fun _ _ _ _ _ => pe_dget (Rm.u1 hr) (pv 6) (pv 13) (fun _ _ => rfl)))) pa_nil)) pa_nil)) pa_nil)) (pe_callB call_len_seq (by rfl) B.len PySem.boot_len (pa_cons (pv 7) pa_nil)) (nomark _)) (pss_one (ps_ret pe_bl)) pss_nil)
      (pss_cons (ps_expr (pe_dclear (pv 8)))
      (pss_cons (ps_expr (pe_bm PySem.F.plainAttrs_list PySem.F.slot_list_append PySem.F.type_list_append mt_append (pv 9) (pa_cons pe_str pa_nil)))
      (pss_cons (ps_if (PW.pt (pw_or (pt_cmpR (op_ne_dictA hr.units0) (pe_cc CL hr (by decide) (passes_call LamX.takes0 (fun _ _ _ _ h => h)) (pa_cons (pv 5) pa_nil)) (pv 6) (nomark _)) (pw_or1 (pt_cmpR (op_neD hr.units) (pe_cc CG hr (by decide) (passes_call LamX.takes0 (fun _ _ _ _ h => h)) (pa_cons (pv 5) pa_nil)) (pv 7) (nomark _))))) (pss_one (ps_ret pe_bl)) pss_nil)
      (pss_cons (ps_for PassesOwn.never rfl (pi_range1 (by rfl) B.range (pa_cons pe_int pa_nil)) (pg_name (i := 10) scLaw.nd rfl (Or.inl rfl))
      (pss_cons (ps_set (i := 11) scLaw.nd rfl (Or.inr rfl) (pe_cc CDR hr (by decide) pass0 (pa_cons (pv 2) (pa_cons (pv 3) (pa_cons (pv 6) pa_nil)))))
      (pss_cons (ps_set (i := 12) scLaw.nd rfl (Or.inl rfl) (pe_cc CLN hr (by decide) pass0 (pa_cons (pv 3) (pa_cons (pv 4) (pa_cons (pv 11) pa_nil)))))
      (pss_cons (ps_if (pt_cmpR (op_neD hr.units) (pe_cc CB hr (by decide) (passes_call LamX.takes0 (fun _ _ _ _ h => h)) (pa_cons (pv 5) (pa_cons (pv 11) pa_nil))) (pv 12) (nomark _)) (pss_one (ps_ret pe_bl)) pss_nil)
      (pss_one (ps_if (pt_cmpR op_ne (pe_cmpR op_isN (pv 12) pe_non (nomark _)) (pe_callB (cr_all rfl) (by rfl) B.all (by decide +kernel) (pa_cons (pe_lc (own := [("_law_one_here", 14), ("_law_other", 15)]) (g := gTup K 2 (gCons (gName 14) (gCons (gName 15) gNil))) (tt := tYes) rfl scLaw.nd (pi_list (pv 4)) (blkOk_by (N := NLaw) (sc := defScope sLaw) (by decide +kernel)) (fun _ _ _ _ _ => pg_tup rfl (pgs_cons (pg_name (i := 14) scLaw.nd rfl (Or.inl rfl)) (pgs_cons (pg_name (i := 15) scLaw.nd rfl (Or.inl rfl)) pgs_nil))) (fun _ _ _ _ _ => pts_nil) (fun _ _ _ _ _ => pe_cmpR op_lt (pe_dget (Rm.u1 hr) (pv 11) (pv 14) (fun _ _ => rfl)) (pe_dget (Rm.u1 hr) (pv 11) (pv 15) (fun _ _ => rfl)) (nomark _))) pa_nil)) (nomark _)) (pss_one (ps_ret pe_bl)) pss_nil))))))
      (pss_one (ps_if (pt_not (pt_val (pe_cc CF hr (by decide) pass0 (pa_cons (pv 2) (pa_cons (pv 5) (pa_cons (pv 3) (pa_cons (pv 6) pa_nil))))))) (pss_one (ps_ret pe_bl)) pss_nil)))))))))))))))
      (pss_one (ps_ret pe_bl)), ?_⟩
      intro H1 s1
      refine ⟨2, rfl, by decide, by decide, ?_⟩
      refine for_range (lo := 0) (n := 2) (fun _ σ H' => (∃ v1 v2 v3 v4 v5 v6 v7 v8 v9 v10 v11 v12, σ = [some (.ref a), v1, v2, v3, v4, v5, v6, v7, v8, v9, v10, v11, v12, none, none, none]) ∧ SqL K H' a (ns.map V.int) ∧ Tabs T H')
        ⟨⟨_, _, _, _, _, _, _, _, _, _, _, _, rfl⟩, s1.seq hS, hT.ext s1⟩ ?_ ?_
      · rintro i σ Ha hi ⟨⟨v1, v2, v3, v4, v5, v6, v7, v8, v9, v10, v11, v12, rfl⟩, hSa, hTa⟩
        have hc2 : (2 : Nat) ≤ sizeLine := by decide
        -- the pool
        refine ⟨_, rfl, _, rfl, a, ns, (0 + (i : Int)), rfl, hSa, by omega, by omega, fun H2 p s2 hp p2 => ?_⟩
        -- the words
        refine ⟨_, rfl, (by decide : (6 : Nat) ≤ sizeLine), fun l6 hl6 => ?_⟩
        have a3 := (Same.refl H2).add hl6 (.lst (W6.map V.str))
        refine ⟨p, l6, W6.map V.str, rfl, p2.same a3, p2.ne hl6, upd_same, w6_scl, by decide, fun H3 ln ys pm s3 p3 hln hlnp hln3 => ?_⟩
        obtain ⟨line, rfl, pml⟩ := perm_strs pm
        refine ⟨_, rfl, (by decide : (7 : Nat) ≤ sizeLine), fun l7 hl7 => ?_⟩
        have a4 := (Same.refl H3).add hl7 (.lst [V.int 0, V.int 1, V.int 2, V.int 3, V.int 4, V.int 4, V.int 5])
        refine ⟨p, l7, _, rfl, p3.same a4, p3.ne hl7, upd_same, by simp, by decide, fun H4 x s4 p4 hx => ?_⟩
        obtain ⟨k, hk5, rfl⟩ : ∃ k : Nat, k ≤ 5 ∧ x = .int (k : Int) := by
          rcases List.mem_cons.mp hx with z | hx
          · exact ⟨0, by decide, z⟩
          rcases List.mem_cons.mp hx with z | hx
          · exact ⟨1, by decide, z⟩
          rcases List.mem_cons.mp hx with z | hx
          · exact ⟨2, by decide, z⟩
          rcases List.mem_cons.mp hx with z | hx
          · exact ⟨3, by decide, z⟩
          rcases List.mem_cons.mp hx with z | hx
          · exact ⟨4, by decide, z⟩
          rcases List.mem_cons.mp hx with z | hx
          · exact ⟨4, by decide, z⟩
          · exact ⟨5, by decide, List.mem_singleton.mp hx⟩
        have hln4 := s4 _ _ hlnp (a4 _ _ hln3)
        refine ⟨(k : Int), rfl, ln, _, rfl, SqL.of hln4, fun bw hbw => ?_⟩
        rw [cutV_lo, ← List.map_take]
        have hWl : (line.take k).length ≤ 5 := by rw [List.length_take]; omega
        have hWn : (line.take k).Nodup := List.Sublist.nodup (List.take_sublist k line) (pml.nodup_iff.mpr w6_nd)
        have hW6 : ∀ z ∈ line.take k, z ∈ W6 := fun z hz => pml.mem_iff.mp (List.mem_of_mem_take hz)
        generalize line.take k = W at hWl hWn hW6 ⊢
        have hWd : Wds W := fun z hz => (show Wds W6 by unfold Wds; decide +kernel) z (hW6 z hz)
        have nbw : bw ≠ p := p4.ne hbw
        have a5 := (Same.refl H4).add hbw (.lst (W.map V.str))
        have sm5 : SmN p Ha (upd H4 bw (.lst (W.map V.str))) := (((((SmN.ofS (a := p) s2).trans (SmN.ofS a3)).trans (SmN.of s3)).trans (SmN.ofS a4)).trans (SmN.of s4)).trans (SmN.ofS a5)
        have T5 : Tabs T (upd H4 bw (.lst (W.map V.str))) := (tabs_sm ((tabs_sm ((hTa.ext s2).ext a3) (p2.same a3) s3).ext a4) (p3.same a4) s4).ext a5
        have p5 := p4.same a5
        have hw5 : upd H4 bw (.lst (W.map V.str)) bw = some (.lst (W.map V.str)) := upd_same
        generalize upd H4 bw (.lst (W.map V.str)) = H5 at sm5 T5 p5 hw5 ⊢
        clear a5 a4 a3 s4 s3 p4 p3 hln4 hln3 hx hl7 hl6 pm pml hbw
        -- the wishes
        refine ⟨_, rfl, _, rfl, p, bw, W, rfl, p5, nbw, hw5, hWn, hWd, by omega, fun H6 bp PP s6 p6 nbp0 nbp hpr al h16 => ?_⟩
        have wf := along_wf hWn hW6 hWl h16 al
        obtain ⟨rk, KO, hrk, R⟩ := along_ok hWn al
        have hrs := rings_ok KO hrk
        have T6 := tabs_sm T5 p5 s6
        have sm6 := sm5.trans (SmN.of s6)
        have hw6 := s6 _ _ nbw hw5
        obtain ⟨ps, hps1, hps2⟩ := id hpr
        -- what they make
        refine ⟨_, rfl, _, rfl, fun m dx nm hdx nd => ⟨H6, m, dx, bw, bp, W, PP, ps, rfl, fun c o e => by rw [upd_ne (ne_of_none e nm), upd_ne (ne_of_none e hdx)]; exact e, nm, upd_same, hw6, hps1, hps2, wf, fun H7 s7 hm => ⟨rfl, ?_⟩⟩⟩
        have T7 := T6.ext s7
        have p7 := p6.same s7
        have hw7 := s7 _ _ hw6
        refine ⟨_, rfl, _, rfl, bw, bp, W, PP, rfl, hw7, hpr.same s7, wf, ⟨rk, R⟩, fun H8 u s8 nu8 hu8 => ?_⟩
        refine ⟨hc2, fun t9 ht9 => ⟨t9, _, rfl, SqT.of upd_same, rfl, _, _, rfl, _, _, rfl, rfl, ?_⟩⟩
        have a9 := s8.add ht9 (.tup [V.ref m, V.ref u])
        have hu9 := ((Same.refl H8).add ht9 (.tup [V.ref m, V.ref u])) _ _ hu8
        have nup : u ≠ p := p7.ne nu8
        generalize upd H8 t9 (.tup [V.ref m, V.ref u]) = H9 at a9 hu9 ⊢
        refine ⟨_, rfl, _, rfl, bw, bp, W, PP, rfl, a9 _ _ hw7, (hpr.same s7).same a9, wf, hWl, fun H10 cl s10 hcl => ?_⟩
        rw [WM.chain_eq KO] at hcl
        have ncl : cl ≠ p := fun e => by
          obtain ⟨x1, y1, z1, e1⟩ := (p7.same a9).same s10
          rw [e, e1] at hcl
          have h1 := Option.some.inj hcl
          injection h1 with h1
          cases hch : WM.chainT (srtS W) PP (srtS W).length (srtS W) with
          | nil => rw [hch] at h1; cases h1
          | cons x r => rw [hch] at h1; injection h1 with h1; cases h1
        have L : LF C T p bw bp m u cl W PP Ha H10 :=
          ⟨((sm6.trans (SmN.ofS s7)).trans (SmN.ofS a9)).trans (SmN.ofS s10), (p7.same a9).same s10, s10 _ _ (a9 _ _ hw7), ((hpr.same s7).same a9).same s10, (hm.same a9).same s10, s10 _ _ hu9, hcl, (T7.ext a9).ext s10, nbw, nbp, nup, ncl⟩
        clear hcl s10 hu9 a9 hu8 nu8 s8 hw7 p7 T7 hm s7 hps1 hps2 hpr T6 sm6 hw6 T5 sm5 p5 hw5 s6 p6
        have hfirst := noring W
        have hdn : (dct (srtS W) (nmV (WM.Lf PP W.length))).length < 1000 := by rw [dct_len, srtS_len]; omega
        have chW : ((chT W PP).map V.str).all scl = true := chain_scl hWd
        -- the least numbers, the longest chain
        refine ⟨_, rfl, m, W, PP, fun _ => none, rfl, L.made, wf, hrs, fun _ => ⟨⟨rk, R⟩, fun H11 t s11 nt11 ht11 => ?_⟩, fun ring er => absurd (er.symm.trans hfirst) (by simp)⟩
        refine ⟨_, rfl, m, W, PP, fun _ => none, rfl, L.made.same s11, wf, hrs, fun _ => ⟨⟨rk, KO⟩, fun H12 r s12 nr12 hr12 => ?_⟩, fun ring er => absurd (er.symm.trans hfirst) (by simp)⟩
        refine ⟨_, _, rfl, ?_⟩
        have ntr : t ≠ r := ne_of_none ht11 nr12
        have ht12 := s12 _ _ ht11
        have L12 := L.same (s11.trans s12)
        have S12 := s11.trans s12
        -- told.items(), due.items()
        refine ⟨_, rfl, t, _, rfl, ht12, fun H13 p13 ts13 s13 np13 nts13 nin13 hp13 hpr13 => ⟨_, rfl, u, _, rfl, s13 _ _ L12.due, fun H14 p14 ts14 s14 np14 nts14 nin14 hp14 hpr14 => ?_⟩⟩
        have s13 : Same H12 H13 := s13
        have s14 : Same H13 H14 := s14
        refine ne_items (s14 _ _ hp13) hp14 (Paired.mapP (kv_items hpr13) fun c q e => s14 _ _ e) (kv_items hpr14) (fun q hq => ?_) ⟨false, rfl, iteF ?_⟩
        · obtain ⟨z, hz, rfl⟩ := List.mem_map.mp hq
          exact okw_str (hWd z (mem_srtS.mp hz))
        have S14 := S12.trans (s13.trans s14)
        have L14 := L12.same (s13.trans s14)
        have ht14 := (s13.trans s14) _ _ ht12
        have hr14 := (s13.trans s14) _ _ hr12
        clear hpr13 hpr14 hp13 hp14 nin13 nin14 nts13 nts14
        refine ⟨_, rfl, _, rfl, ne_strs hr14 L14.chain chW chW ⟨false, by simp, iteF ?_⟩⟩
        refine ⟨_, rfl, m, W, PP, fun _ => none, rfl, L14.made, wf, hrs, fun H15 bv s15 hB => ?_⟩
        rw [hfirst] at hB
        rcases hB with ⟨_, rfl⟩ | ⟨_, _, e, _⟩
        rotate_left
        · cases e
        refine ⟨rfl, false, rfl, iteF ?_⟩
        have S15 := S14.trans s15
        have L15 := L14.same s15
        have ht15 := s15 _ _ ht14
        have hr15 := s15 _ _ hr14
        clear hr14 ht14 L14 S14 s15 s14 s13 hr12 ht12 L12 S12
        -- as many as unlike least numbers
        refine ⟨u, _, L15.due, trivial, fun od => ?_⟩
        refine ⟨_, rfl, u, od, rfl, .inl ⟨_, upd_same, fun E1 hE1 => ?_⟩⟩
        have lk : ∀ {c : Addr} {o : HO}, c ≠ u → H15 c = some o → upd H15 u (.frz od (lfD W PP)) c = some o := fun n e => by rw [upd_ne n]; exact e
        have hul : upd H15 u (.frz od (lfD W PP)) u = some (.frz od (lfD W PP)) := upd_same
        have hE1u : E1 ≠ u := (ne_of_none hul hE1).symm
        have free15 : ∀ {c : Addr}, upd H15 u (.frz od (lfD W PP)) c = none → H15 c = none := fun {c} e => by
          rw [upd_ne (fun z => by rw [z, hul] at e; cases e)] at e
          exact e
        refine lc_it (walk_keys (d := u) (o := od) (kvs := dct (srtS W) (nmV (WM.Lf PP W.length)))) (fun i H' => Same (upd H15 u (.frz od (lfD W PP))) H' ∧ H' E1 = some (.lst (((srtS W).take i).map fun z => V.int (WM.Lf PP W.length z))))
          ⟨(Same.refl _).new hE1 _, upd_same⟩ (fun i H' _ h => h.1 _ _ hul) ?_ ?_
        · rintro i y H2 _ hi ⟨sx, hx⟩ ⟨rfl, k, v, hk, rfl⟩
          obtain ⟨wd, hwd, e⟩ := map_at hk
          cases e
          refine ⟨rfl, _, rfl, _, rfl, u, _, rfl, .inl ⟨_, kS wd, .inr ⟨od, sx _ _ hul⟩, rfl, (dct_in (List.mem_of_getElem? hwd)).symm⟩, _, hx, small1000 (by rw [List.length_map, List.length_take]; rw [srtS_len]; omega), sx.new hE1 _, ?_⟩
          rw [upd_same, take_more hwd, List.map_append]
          rfl
        · rintro H16 ⟨sx, hx⟩
          rw [dct_len, List.take_length] at hx
          refine ⟨sx _ _ hul, ?_⟩
          have hu16 : upd H16 u (lfD W PP) u = some (lfD W PP) := upd_same
          have S16 : Same H15 (upd H16 u (lfD W PP)) := fun c o e => by
            by_cases z : c = u
            · rw [z] at e ⊢
              rw [L15.due] at e
              rw [upd_same]
              exact e
            · rw [upd_ne z]
              exact sx _ _ (lk z e)
          have hx16 : upd H16 u (lfD W PP) E1 = some (.lst ((((srtS W).map fun z => (Sum.inl (WM.Lf PP W.length z) : Key))).map kV)) := by
            rw [upd_ne hE1u, hx, List.map_map]
            rfl
          have L16 := L15.same S16
          have ht16 := S16 _ _ ht15
          have hr16 := S16 _ _ hr15
          have Sr16 := S15.trans S16
          generalize upd H16 u (lfD W PP) = H17 at S16 hx16 L16 ht16 hr16 Sr16 ⊢
          have hkl : ((srtS W).map fun z => (Sum.inl (WM.Lf PP W.length z) : Key)).length ≤ 5 := by rw [List.length_map, srtS_len]; exact hWl
          refine ⟨E1, _, rfl, SqL.of hx16, by omega, fun g c hg hc => ⟨g, _, c, rfl, upd_same, by omega, fun k hk => ?_, fun ys sp hys hmem hsp => ?_⟩⟩
          · obtain ⟨z, _, e⟩ := List.mem_map.mp (inK_iff.1 hk)
            exact ⟨_, e.symm⟩
          have hcount : ys.length = (chT W PP).length := by
            refine WM.vals_count KO hys fun k => ?_
            rw [hmem, inK_iff]
            constructor
            · intro h
              obtain ⟨z, hz, e⟩ := List.mem_map.mp h
              refine ⟨z, hz, ?_⟩
              rw [srtS_len]
              exact Sum.inl.inj e
            · rintro ⟨z, hz, e⟩
              rw [srtS_len] at e
              exact List.mem_map.mpr ⟨z, hz, by rw [e]⟩
          have a18 := ((Same.refl H17).add hg (SetKO w g (inK ((srtS W).map fun z => (Sum.inl (WM.Lf PP W.length z) : Key))) c)).add hsp (.lst (ys.map V.int))
          have hsp18 : upd (upd H17 g (SetKO w g (inK ((srtS W).map fun z => (Sum.inl (WM.Lf PP W.length z) : Key))) c)) sp (.lst (ys.map V.int)) sp = some (.lst (ys.map V.int)) := upd_same
          have L18 := L16.same a18
          have S18 := Sr16.trans a18
          have ht18 := a18 _ _ ht16
          have hr18 := a18 _ _ hr16
          refine ⟨sp, _, rfl, .inl (SqL.of hsp18), _, rfl, cl, _, rfl, .inl (SqL.of L18.chain), rfl, false, ?_, iteF ?_⟩
          · rw [List.length_map, List.length_map, hcount]
            simp
          -- cleared, lengthened
          refine ⟨_, rfl, .inr (.inr (.inl ⟨rfl, .inl ⟨_, ht18⟩⟩)), t, _, rfl, rfl, ht18, ?_⟩
          have hrt : upd (upd (upd H17 g (SetKO w g (inK ((srtS W).map fun z => (Sum.inl (WM.Lf PP W.length z) : Key))) c)) sp (.lst (ys.map V.int))) t (.dK []) r = some (.lst ((chT W PP).map V.str)) := by
            rw [upd_ne ntr.symm]
            exact hr18
          have hchl : (chT W PP).length ≤ 5 := by
            rw [← hcount]
            have h1 := WM.nodup_len (r := ys.map fun i => (i : Int)) (S := (srtS W).map (WM.Lf PP W.length)) (by
              rw [List.map_id']
              exact List.Pairwise.imp (fun {a b} (h : a < b) => Int.ne_of_lt h) hys) (fun x hx => by
              rw [List.map_id'] at hx
              obtain ⟨z, hz, e⟩ := List.mem_map.mp (inK_iff.1 ((hmem x).1 hx))
              exact List.mem_map.mpr ⟨z, hz, Sum.inl.inj e⟩)
            rw [List.length_map, List.length_map, srtS_len] at h1
            omega
          refine ⟨_, rfl, .inl ⟨rfl, _, SqL.of hrt⟩, r, _, _, rfl, rfl, hrt, small1000 (by rw [List.length_map]; omega), ?_⟩
          have S19 : Same H10 (upd (upd (upd (upd H17 g (SetKO w g (inK ((srtS W).map fun z => (Sum.inl (WM.Lf PP W.length z) : Key))) c)) sp (.lst (ys.map V.int))) t (.dK [])) r (.lst ((chT W PP).map V.str ++ [V.str "late"]))) := fun b o e => by
            rw [upd_ne (ne_of_none e (s11.free nr12)), upd_ne (ne_of_none e nt11)]
            exact S18 _ _ e
          have L19 := L.same S19
          clear S19 hrt hr18 ht18 S18 L18 hsp18 a18 hcount hmem hys hsp Sr16 hr16 ht16 L16 hx16 S16 hx sx
          refine ⟨_, rfl, m, W, PP, fun _ => none, rfl, L19.made, wf, hrs, fun _ => ⟨⟨rk, R⟩, fun H20 d s20 nd20 hd20 => ⟨_, rfl, d, u, _, _, rfl, rfl, hd20, s20 _ _ L19.due, rfl, fun q hq => ?_, false, rfl, iteF ?_⟩⟩, fun ring er => absurd (er.symm.trans hfirst) (by simp)⟩
          · unfold dct at hq
            obtain ⟨z, hz, rfl⟩ := List.mem_map.mp hq
            exact ⟨dct_in hz, rfl⟩
          have L20 := L19.same s20
          refine ⟨_, rfl, m, W, PP, fun _ => none, rfl, L20.made, wf, hrs, fun _ => ⟨⟨rk, KO⟩, fun H21 l s21 nl hl => ⟨_, rfl, ne_strs hl (s21 _ _ L20.chain) chW chW ⟨false, by simp, iteF ?_⟩⟩⟩, fun ring er => absurd (er.symm.trans hfirst) (by simp)⟩
          have L21 := L20.same s21
          clear hl nl s21 L20 hd20 nd20 s20 L19
          -- three times numbers
          refine ⟨3, rfl, by decide, by decide, ?_⟩
          refine for_range (lo := 0) (n := 3) (fun _ σ H' => (∃ v10 v11 v12, σ = [some (.ref a), some (.int (0 + (i : Int))), some (.ref p), some (.ref bw), some (.ref bp), some (.ref m), some (.ref u), some (.ref cl), some (.ref t), some (.ref r), v10, v11, v12, none, none, none]) ∧ LF C T p bw bp m u cl W PP Ha H')
            ⟨⟨_, _, _, rfl⟩, L21⟩ ?_ ?_
          · rintro j σ Hk hj ⟨⟨v10, v11, v12, rfl⟩, Lk⟩
            refine ⟨_, rfl, _, rfl, _, rfl, p, bw, u, W, PP, rfl, Lk.pool, Lk.nw, Lk.nu, Lk.words, Lk.due, wf, ⟨rk, R⟩, fun H2 d N s2 p2 hd hdp hN => ?_⟩
            obtain ⟨Lw, pmL, hdL, hg0⟩ := hN
            have L2 := Lk.ofSm s2 p2
            refine ⟨_, rfl, _, rfl, _, rfl, bw, bp, d, W, PP, N, rfl, L2.words, L2.prs, nums_dct hdL pmL, wf, hWl, L2.tabs, fun H3 e3 T3 => ?_⟩
            have L3 := L2.ext e3 T3
            have hd3 := ext_dK e3 hdL
            clear hdL e3 T3 L2
            refine ⟨fun hno => ?A, fun l rr hso hl3 => ?B⟩
            case' A =>
              refine ⟨_, rfl, _, rfl, m, .ref d, W, PP, fun _ => none, rfl, L3.made, wf, hrs, fun _ => ⟨true, th_dct hd3 pmL fun w _ => hg0 w, fun z => (nomatch z), fun _ => ⟨d, N, rfl, nums_dct hd3 pmL, fun e H4 s4 => ?A1, fun H4 l r' s4 hr' hlr hl => ?A2⟩⟩, fun ring er => absurd (er.symm.trans hfirst) (by simp)⟩
              case A2 =>
                have h1 := line_is wf hr' hlr
                rw [hno] at h1
                cases h1
              refine ⟨_, rfl, ⟨.none, .none, .non, .non, by decide +kernel, by decide +kernel, false, by simp [PyData.eqv], iteF ?_⟩⟩
              have hv : decide (V.non = V.non) = decide (∀ q ∈ PP, N q.1 < N q.2) := by
                rw [decide_eq_true ((told_keeps wf).mp e)]
                rfl
              clear e hno
            case' B =>
              refine ⟨_, rfl, _, rfl, m, .ref d, W, PP, fun _ => none, rfl, L3.made, wf, hrs, fun _ => ⟨true, th_dct hd3 pmL fun w _ => hg0 w, fun z => (nomatch z), fun _ => ⟨d, N, rfl, nums_dct hd3 pmL, fun e H4 s4 => ?B1, fun H4 l2 r' s4 hr' hlr hl => ?B2⟩⟩, fun ring er => absurd (er.symm.trans hfirst) (by simp)⟩
              case B1 =>
                have h1 := line_no wf e
                rw [hso] at h1
                cases h1
              have er : rr = r' := Option.some.inj (hso.symm.trans (line_is wf hr' hlr))
              subst er
              refine ⟨_, rfl, ne_strs hl (s4 _ _ hl3) (line_scl hWd hso) (line_scl hWd hso) ⟨false, by simp, iteF ?_⟩⟩
              have hv : decide (V.ref l = V.non) = decide (∀ q ∈ PP, N q.1 < N q.2) := by
                rw [decide_eq_false (fun z => by cases z), decide_eq_false fun z => ?_]
                have h1 := (told_keeps wf).mpr z
                rw [h1] at hr'
                cases hr'
              clear hl hlr hr' hl3 hso
            all_goals
              have L4 := L3.same s4
              have hd4 := s4 _ _ hd3
              obtain ⟨ps, hps1, hps2⟩ := L4.prs
              refine ⟨_, rfl, rfl, _, rfl, bp, rfl, ⟨_, SqL.of hps1⟩, fun E1 hE1 => ?_⟩
              refine lc_fmpL (fun q => some (.bl (decide (N q.1 < N q.2)))) hps1 hps2 hE1 (Nat.le_trans wf.fewP (by decide)) (fun q t5 H5 hq ht5 s5 N1' N0' hy h0 => ?_) fun H5 s5 hE5 => ?_
              · have m1 := pmL.mem_iff.mpr (wf.mem q hq).1
                have m2 := pmL.mem_iff.mpr (wf.mem q hq).2.1
                have hd5 := s5 _ _ hd4
                exact ⟨t5, _, rfl, SqT.of ht5, rfl, _, _, rfl, _, _, rfl, rfl, rfl, _, rfl, _, rfl, d, _, rfl, .inl ⟨_, kS q.1, .inl hd5, rfl, (dct_in m1).symm⟩, _, rfl, _, rfl, d, _, rfl, .inl ⟨_, kS q.2, .inl hd5, rfl, (dct_in m2).symm⟩, _, _, rfl, rfl, hy _ _ rfl (Same.refl _)⟩
              · have ef : PP.filterMap (fun q => some (V.bl (decide (N q.1 < N q.2)))) = (PP.map fun q => decide (N q.1 < N q.2)).map V.bl := by
                  rw [fm_some, List.map_map]
                  rfl
                rw [ef] at hE5
                refine ⟨E1, _, rfl, SqL.of hE5, rfl, false, ?_, iteF ⟨⟨_, _, _, rfl⟩, L4.same s5⟩⟩
                have eall : ((PP.map fun q => decide (N q.1 < N q.2)).all id) = decide (∀ q ∈ PP, N q.1 < N q.2) := by
                  rw [List.all_map]
                  exact Bool.eq_iff_iff.mpr (by simp [List.all_eq_true])
                rw [eall, ← hv]
                simp
          · rintro σ Hk ⟨⟨v10, v11, v12, rfl⟩, Lk⟩
            refine ⟨_, rfl, _, rfl, _, rfl, _, rfl, p, m, bw, u, W, PP, rfl, Lk.pool, Lk.nw, Lk.nu, Lk.made, Lk.words, Lk.due, wf, hrs, no_zz hW6, Lk.tabs, fun H' sN TN => ⟨true, rfl, iteF ?_⟩⟩
            exact ⟨⟨_, _, _, _, _, _, _, _, _, _, _, _, rfl⟩, sql_smn hp (Lk.sm.trans sN) hSa, TN⟩
      · rintro σ H2 ⟨⟨v1, v2, v3, v4, v5, v6, v7, v8, v9, v10, v11, v12, rfl⟩, _, _⟩
        exact q H2
    refine ⟨_, pss_cons (ps_if (PW.pt (pw_and (pt_cmpR op_eq (pe_op op_mod (pe_cc CC hr (by decide) pass0 (pa_cons (pv 0) (pa_cons pe_int pa_nil))) pe_int) pe_int (nomark _)) (pw_and1 (pt_not (pt_val (pe_cc0 C9 hr (by decide) pass0)))))) (pss_one (ps_ret pe_bl)) pss_nil) hR, ?_⟩
    refine ⟨_, rfl, a, ns, 0, rfl, hS, by decide, by decide, fun H1 z s1 => ?_⟩
    refine ⟨_, _, rfl, rfl, (by show (0 : Int) < 3; decide), rfl, _, rfl, ite2 (fun c => ?_) (fun c => iteF (qR _ s1))⟩
    refine ⟨rfl, fun H2 s2 => ⟨true, rfl, iteF (qR _ (s1.trans s2))⟩⟩
end
end Lk

set_option Elab.async false
set_option linter.all false
set_option maxRecDepth 100000
set_option maxHeartbeats 0
/-! the head: facts by names, the run -/
namespace Lk
open PySem PySem.Spec PyProof.Rows L2 LamX
def dN (x : Str) (i : Nat) : He.DefD := ⟨(x, none), x, x, defArgs (top i), defBody (top i), defScope (top i), [], []⟩
def dM (c q : Str) (st : Stmt) : He.DefD := ⟨(c, some "__init__"), "__init__", q, defArgs st, defBody st, defScope st, [], []⟩
def hfn : List He.DefD := [dN "is_integer" 2, dN "is_natural" 3, dN "is_list" 4, dN "is_pair" 5, dN "is_word" 6, dN "first_bad_word" 7, dN "is_wish" 16, dN "behind_all" 17, dN "ring_through" 18, dN "wish_ring" 19, dN "check_ringless" 20, dN "first_order" 21, dN "least_numbers" 22, dN "longest_chain" 23, dN "are_numbers" 24, dN "breaking_line" 25, dN "_law_cell" 27, dN "_law_pool" 28, dN "_law_take" 29, dN "_law_one" 30, dN "_law_mixed" 31, dN "_law_refused" 32, dN "_law_rows" 33, dN "_law_wishes" 34, dN "_law_least_due" 35, dN "_law_chain_due" 36, dN "_law_line_due" 37, dN "_law_drawn_numbers" 38, dN "_law_refusals_right" 39, dN "_law_nine_right" 40, dN "law" 41,
  dM "Wishes" "Wishes.__init__" sInitW, dM "Ringed" "Ringed.__init__" sInitR, dM "BadNumbers" "BadNumbers.__init__" sInitN]
def hfa : List He.Fa := [.glo "is_integer", .glo "is_natural", .glo "is_list", .glo "is_pair", .glo "is_word", .glo "first_bad_word", .glo "is_wish", .glo "behind_all", .glo "ring_through", .glo "wish_ring", .glo "check_ringless", .glo "first_order", .glo "least_numbers", .glo "longest_chain", .glo "are_numbers", .glo "breaking_line", .glo "_law_cell", .glo "_law_pool", .glo "_law_take", .glo "_law_one", .glo "_law_mixed", .glo "_law_refused", .glo "_law_rows", .glo "_law_wishes", .glo "_law_least_due", .glo "_law_chain_due", .glo "_law_line_due", .glo "_law_drawn_numbers", .glo "_law_refusals_right", .glo "_law_nine_right", .glo "law",
  .glo "Ringed", .glo "BadNumbers", .glo "Wishes", .str "LETTERS" letters, .cls "Wishes", .noat "Wishes" "kept_words", .noat "Wishes" "kept_pairs", .mkr "Wishes",
  .noat "BadNumbers" "thing", .noat "Ringed" "ring", .meth "BadNumbers" "__init__", .meth "Ringed" "__init__", .exm "BadNumbers" "BadNumbers" true, .exm "Ringed" "BadNumbers" false, .exm "Ringed" "Ringed" true,
  .free "isinstance", .free "int", .free "bool", .free "list", .free "tuple", .free "str", .free "dict", .free "set", .free "len", .free "all", .free "any", .free "enumerate", .free "sorted", .free "max", .free "min", .free "sum", .free "abs", .free "range", .free "zip"]
/-- an own exception class whose __init__ is a def -/
def oexB (K : PySem.W.Frag) (C : Addr) : Bool := (match K.lookup C with
  | some ⟨.type t, _, .cls cd, sl⟩ => (match cd.mro, sl.toList with
    | .ref C' :: bm, [_, _, _, _, some (.builtin n), _] => decide (t = "type") && (decide (C' = C) && (decide (n = "ValueError.__new__") && (!cd.hasDel && (cd.hasDict && PySem.HandSPX.refsVE bm))))
    | _, _ => false)
  | _ => false) && (decide (PySem.W.findIn K (.ref C) "__setattr__" = some (some (.builtin "object.__setattr__"))) && (decide (PySem.W.subIn K (.ref C) (.type "BaseException") = some true) && (decide (PySem.W.typeIn K (.ref C) = some (.type "type")) && PySem.W.keepIn K (.ref C))))
theorem oexB_ok {K : PySem.W.Frag} {C : Addr} (h : oexB K C = true) : OexC K C := by
  obtain ⟨h1, h⟩ := Bool.and_eq_true_iff.mp h
  obtain ⟨h2, h⟩ := Bool.and_eq_true_iff.mp h
  obtain ⟨h3, h⟩ := Bool.and_eq_true_iff.mp h
  obtain ⟨h4, h5⟩ := Bool.and_eq_true_iff.mp h
  refine ⟨?_, of_decide_eq_true h2, of_decide_eq_true h3, of_decide_eq_true h4, h5⟩
  split at h1
  · rename_i t dd cd sl ho
    split at h1
    · rename_i C' bm k0 k1 k2 k3 n k5 hm hs
      simp only [Bool.and_eq_true, decide_eq_true_eq, Bool.not_eq_true'] at h1
      obtain ⟨rfl, rfl, rfl, hdel, hdict, hr⟩ := h1
      obtain ⟨nm, bs, mro, ns, qn, hd, sn, sub, ab, col, del⟩ := cd
      dsimp only at hm hdel hdict
      subst hm hdel hdict
      have hsl : sl = #[k0, k1, k2, k3, some (.builtin "ValueError.__new__"), k5] := by
        obtain ⟨l⟩ := sl
        simp only at hs
        rw [hs]
      subst hsl
      exact ⟨nm, qn, ns, bs, bm, sn, sub, ab, col, dd, k0, k1, k2, k3, k5, ho, hr⟩
    · cases h1
  · cases h1
def htf : List He.Defn := [("_law_line_due", none), ("_law_refusals_right", none)]
def hex (K : PySem.W.Frag) : Bool := oexB K (He.ga K "BadNumbers") && (oexB K (He.ga K "Ringed") && (xfB K (He.ga K "BadNumbers") && (xfB K (He.ga K "Ringed") && !decide ((He.cT K ("_law_line_due", none)).2 = (He.cT K ("_law_refusals_right", none)).2))))
abbrev hR : PySem.W.OpenRow := PySem.W.OpenLaw.row PySem.Challenge.rw_linklines_k52_whole_numbers_and_lines
abbrev hkk : PySem.W.Hook := He.hookX 5 hfa hfn [] htf hex
def hob (s : PySem.W.SharedT) : He.AlX := He.obsX 5 hfa hfn [] htf hex (HandSHeadRun.getT s)
theorem hob_eq (s : PySem.W.SharedT) : hob s = hkk.obs s.abs := He.obsX_eq (HandSHeadRun.getT_eq s)
def loose1 : List Str := ["LETTERS", "is_integer", "is_natural", "is_list", "is_pair", "is_word", "first_bad_word", "LinkError", "BadWords", "BadWishes", "Ringed", "BadNumbers", "Wishes", "is_wish", "behind_all", "ring_through", "wish_ring", "check_ringless"]
def loose2 : List Str := ["first_order", "least_numbers", "longest_chain", "are_numbers", "breaking_line", "_law_cell", "_law_pool", "_law_take", "_law_one", "_law_mixed", "_law_refused", "_law_rows", "_law_wishes", "_law_least_due", "_law_chain_due", "_law_line_due", "_law_drawn_numbers", "_law_refusals_right", "_law_nine_right"]
def loose : List Str := loose1 ++ loose2
theorem run (w : World) : HandSHeadRun.RunEq hR (PySem.W.view hR.prog [41]) hkk hob 6000 loose w := by
  intro os
  kernel_rfl
end Lk

set_option Elab.async false
set_option linter.all false
set_option maxRecDepth 100000
set_option maxHeartbeats 4000000
/-! the end: what the head tells, put together -/
namespace Lk
open PySem PySem.Spec PyProof.Rows L2 LamX
section
variable {K : PySem.W.Frag} {h : Heap} {mg : Str → Option Value} {w : World}
theorem fun_of {x q : Str} {st : Stmt} {f : Addr} {fd : FuncData} (F : FunD K x q (defArgs st) (defBody st) (defScope st) [] [] f fd) : Fun K x q st f fd := by
  obtain ⟨oc, od, dV, kV, doc, pm, an, cdv, ct, osl, e, lk, hc, hd, _⟩ := F.ex
  have z : dV = .none := hd.elim (fun h => h.2) (fun h => absurd rfl h.1)
  subst z
  exact ⟨⟨oc, od, kV, doc, pm, an, cdv, ct, osl, e, lk, hc⟩, F.kp⟩
theorem got_def (X : K.In h) (G : h.Ns mainGlobals mg) (c : He.SaysD hfa hfn K) {x : Str} {i : Nat} (k j : Nat) (h1 : hfn[k]? = some (dN x i)) (h2 : hfa[j]? = some (.glo x)) : Def K mg x (top i) := by
  obtain ⟨fd, F⟩ := c.def_ k h1
  exact ⟨He.ga K x, fd, fun_of F, He.glo_ok X G (c.fact j h2)⟩
theorem got_meth (c : He.SaysD hfa hfn K) {x q : Str} {st : Stmt} (k : Nat) (h1 : hfn[k]? = some (dM x q st)) : ∃ fd, Fun K "__init__" q st (He.ma K (He.ga K x) "__init__") fd := by
  obtain ⟨fd, F⟩ := c.def_ k h1
  exact ⟨fd, fun_of F⟩
theorem got_defC (X : K.In h) (G : h.Ns mainGlobals mg) (c : He.SaysD hfa hfn K) {x : Str} {i : Nat} (k j : Nat) (h1 : hfn[k]? = some (dN x i)) (h2 : hfa[j]? = some (.glo x)) : DefC K mg x (top i) (He.cT K (x, none)).1 := by
  obtain ⟨fd, F⟩ := c.def_ k h1
  obtain ⟨oc, od, kV, doc, pm, an, cdv, ct, osl, rfl, lk, hc⟩ := (fun_of F).ex
  obtain ⟨cc, rfl⟩ := He.codeIn_ref hc
  have e : He.codeOf K (x, none) = cc := He.codeOf_eq lk rfl
  show DefC K mg x (top i) (He.codeOf K (x, none))
  rw [e]
  exact ⟨He.ga K x, oc, od, kV, doc, pm, an, ct, osl, lk, hc, F.kp, He.glo_ok X G (c.fact j h2)⟩
theorem isfn_ty {v : Value} (h : PySem.W.isFn K v = true) : PySem.W.typeIn K v = some (.type "function") := beq_iff_eq.mp h
theorem law_at (Y : hkk.says w h) (G : h.Ns mainGlobals mg) {fa : Addr} (hfa : mg "law" = some (.ref fa)) : ∃ K : PySem.W.Frag, K.In h ∧ LawAtS PySem.Challenge.rw_linklines_k52_whole_numbers_and_lines w K L2.CX0 9 63 "_law_script" mg fa h := by
  obtain ⟨K, X, c⟩ := Y
  refine ⟨K, X, ?_⟩
  have d := c.t.d
  obtain ⟨x1, hx⟩ := Bool.and_eq_true_iff.mp (show hex K = true from c.more)
  obtain ⟨x2, hx⟩ := Bool.and_eq_true_iff.mp hx
  obtain ⟨x3, hx⟩ := Bool.and_eq_true_iff.mp hx
  obtain ⟨x4, hx⟩ := Bool.and_eq_true_iff.mp hx
  have hne : (He.cT K ("_law_line_due", none)).2 ≠ (He.cT K ("_law_refusals_right", none)).2 := by
    simpa using hx
  have B : Blt mg := ⟨He.free_ok X G (d.fact 46 (f := .free "isinstance") rfl), He.free_ok X G (d.fact 47 (f := .free "int") rfl), He.free_ok X G (d.fact 48 (f := .free "bool") rfl), He.free_ok X G (d.fact 49 (f := .free "list") rfl), He.free_ok X G (d.fact 50 (f := .free "tuple") rfl), He.free_ok X G (d.fact 51 (f := .free "str") rfl), He.free_ok X G (d.fact 52 (f := .free "dict") rfl), He.free_ok X G (d.fact 53 (f := .free "set") rfl), He.free_ok X G (d.fact 54 (f := .free "len") rfl), He.free_ok X G (d.fact 55 (f := .free "all") rfl), He.free_ok X G (d.fact 56 (f := .free "any") rfl), He.free_ok X G (d.fact 57 (f := .free "enumerate") rfl), He.free_ok X G (d.fact 58 (f := .free "sorted") rfl), He.free_ok X G (d.fact 59 (f := .free "max") rfl), He.free_ok X G (d.fact 60 (f := .free "min") rfl), He.free_ok X G (d.fact 61 (f := .free "sum") rfl), He.free_ok X G (d.fact 62 (f := .free "abs") rfl), He.free_ok X G (d.fact 63 (f := .free "range") rfl), He.free_ok X G (d.fact 64 (f := .free "zip") rfl)⟩
  have D2 : Def K mg "is_integer" (top 2) := got_def X G d 0 0 rfl rfl
  have D3 : Def K mg "is_natural" (top 3) := got_def X G d 1 1 rfl rfl
  have D4 : Def K mg "is_list" (top 4) := got_def X G d 2 2 rfl rfl
  have D5 : Def K mg "is_pair" (top 5) := got_def X G d 3 3 rfl rfl
  have D6 : Def K mg "is_word" (top 6) := got_def X G d 4 4 rfl rfl
  have D7 : Def K mg "first_bad_word" (top 7) := got_def X G d 5 5 rfl rfl
  have D16 : Def K mg "is_wish" (top 16) := got_def X G d 6 6 rfl rfl
  have D17 : Def K mg "behind_all" (top 17) := got_def X G d 7 7 rfl rfl
  have D18 : Def K mg "ring_through" (top 18) := got_def X G d 8 8 rfl rfl
  have D19 : Def K mg "wish_ring" (top 19) := got_def X G d 9 9 rfl rfl
  have D20 : Def K mg "check_ringless" (top 20) := got_def X G d 10 10 rfl rfl
  have D21 : Def K mg "first_order" (top 21) := got_def X G d 11 11 rfl rfl
  have D22 : Def K mg "least_numbers" (top 22) := got_def X G d 12 12 rfl rfl
  have D23 : Def K mg "longest_chain" (top 23) := got_def X G d 13 13 rfl rfl
  have D24 : Def K mg "are_numbers" (top 24) := got_def X G d 14 14 rfl rfl
  have D25 : Def K mg "breaking_line" (top 25) := got_def X G d 15 15 rfl rfl
  have D27 : Def K mg "_law_cell" (top 27) := got_def X G d 16 16 rfl rfl
  have D28 : Def K mg "_law_pool" (top 28) := got_def X G d 17 17 rfl rfl
  have D29 : Def K mg "_law_take" (top 29) := got_def X G d 18 18 rfl rfl
  have D30 : Def K mg "_law_one" (top 30) := got_def X G d 19 19 rfl rfl
  have D31 : Def K mg "_law_mixed" (top 31) := got_def X G d 20 20 rfl rfl
  have D32 : Def K mg "_law_refused" (top 32) := got_def X G d 21 21 rfl rfl
  have D33 : Def K mg "_law_rows" (top 33) := got_def X G d 22 22 rfl rfl
  have D34 : Def K mg "_law_wishes" (top 34) := got_def X G d 23 23 rfl rfl
  have D35 : Def K mg "_law_least_due" (top 35) := got_def X G d 24 24 rfl rfl
  have D36 : Def K mg "_law_chain_due" (top 36) := got_def X G d 25 25 rfl rfl
  have D37 : DefC K mg "_law_line_due" (top 37) (He.cT K ("_law_line_due", none)).1 := got_defC X G d 26 26 rfl rfl
  have D38 : Def K mg "_law_drawn_numbers" (top 38) := got_def X G d 27 27 rfl rfl
  have D39 : DefC K mg "_law_refusals_right" (top 39) (He.cT K ("_law_refusals_right", none)).1 := got_defC X G d 28 28 rfl rfl
  have D40 : Def K mg "_law_nine_right" (top 40) := got_def X G d 29 29 rfl rfl
  have gC : mg "Wishes" = some (.ref (He.ga K "Wishes")) := He.glo_ok X G (d.fact 33 (f := .glo "Wishes") rfl)
  have gN : mg "BadNumbers" = some (.ref (He.ga K "BadNumbers")) := He.glo_ok X G (d.fact 32 (f := .glo "BadNumbers") rfl)
  have gR : mg "Ringed" = some (.ref (He.ga K "Ringed")) := He.glo_ok X G (d.fact 31 (f := .glo "Ringed") rfl)
  have LT : ∃ t, mg "LETTERS" = some (.str letters t) := He.str_ok X G (d.fact 34 (f := .str "LETTERS" letters) rfl)
  have TW0 : TW K (He.ga K "Wishes") := ⟨He.cls_ok (d.fact 35 (f := .cls "Wishes") rfl), He.noat_ok (d.fact 36 (f := .noat "Wishes" "kept_words") rfl), He.noat_ok (d.fact 37 (f := .noat "Wishes" "kept_pairs") rfl)⟩
  have noN := He.noat_ok (d.fact 39 (f := .noat "BadNumbers" "thing") rfl)
  have noR := He.noat_ok (d.fact 40 (f := .noat "Ringed" "ring") rfl)
  have meN := He.meth_ok (d.fact 41 (f := .meth "BadNumbers" "__init__") rfl)
  have meR := He.meth_ok (d.fact 42 (f := .meth "Ringed" "__init__") rfl)
  have T2 : Two K mg (He.ga K "BadNumbers") (He.ga K "Ringed") := ⟨He.exm_ok (d.fact 43 (f := .exm "BadNumbers" "BadNumbers" true) rfl), He.exm_ok (d.fact 44 (f := .exm "Ringed" "BadNumbers" false) rfl), He.exm_ok (d.fact 45 (f := .exm "Ringed" "Ringed" true) rfl), gN, gR, xfB_ok x3, xfB_ok x4, noN, noR⟩
  obtain ⟨fdW, FW⟩ := got_meth d (x := "Wishes") (q := "Wishes.__init__") (st := sInitW) 31 rfl
  obtain ⟨fdR, FR⟩ := got_meth d (x := "Ringed") (q := "Ringed.__init__") (st := sInitR) 32 rfl
  obtain ⟨fdN, FN⟩ := got_meth d (x := "BadNumbers") (q := "BadNumbers.__init__") (st := sInitN) 33 rfl
  have MK0 := He.mkr_ok (d.fact 38 (f := .mkr "Wishes") rfl)
  obtain ⟨fdL, FL0⟩ := d.def_ 30 (d := dN "law" 41) rfl
  have FL : Fun K "law" "law" sLaw (He.ga K "law") fdL := fun_of FL0
  have efa := hfa.symm.trans (He.glo_ok X G (d.fact 30 (f := .glo "law") rfl))
  cases efa
  have bL : Binds K fdL ["_law_script"] [] := FL.binds fun _ _ _ _ _ _ us hl => match us, hl with | [_], _ => rfl
  refine ⟨fdL, [He.cT K ("_law_line_due", none), He.cT K ("_law_refusals_right", none)], spLaw K [((He.cT K ("_law_line_due", none)).2, lamQ "_law_line_due"), ((He.cT K ("_law_refusals_right", none)).2, lamQ "_law_refusals_right")], ?_, ?_, ?_, ?_, ?_, ?_⟩
  · intro p hp
    rcases List.mem_cons.mp hp with e | e
    · rw [e]; exact c.empty _ List.mem_cons_self
    · rw [List.mem_singleton.mp e]; exact c.empty _ (List.mem_cons_of_mem _ List.mem_cons_self)
  · intro p hp
    rcases List.mem_cons.mp hp with e | e
    · rw [e]; exact c.out _ List.mem_cons_self
    · rw [List.mem_singleton.mp e]; exact c.out _ (List.mem_cons_of_mem _ List.mem_cons_self)
  · intro p hp
    rcases List.mem_cons.mp hp with e | e
    · rw [e]; exact PySem.W.codeHd_of_K X (c.hd _ List.mem_cons_self)
    · rw [List.mem_singleton.mp e]; exact PySem.W.codeHd_of_K X (c.hd _ (List.mem_cons_of_mem _ List.mem_cons_self))
  · obtain ⟨oc, od, kV, doc, pm, an, cdv, ct, osl, rfl, lk, hcd⟩ := FL.ex
    exact fun s u => .of_eq rfl
  · intro H a ns _ _ hT hS
    refine ⟨a, ns, rfl, hS, fun p hp => ?_, fun _ => rfl⟩
    rcases List.mem_cons.mp hp with e | e
    · rw [e]; exact .nil (hT _ List.mem_cons_self)
    · rw [List.mem_singleton.mp e]; exact .nil (hT _ (List.mem_cons_of_mem _ List.mem_cons_self))
  · intro base XB GB hTB
    have TB1 : TabB base mg (He.cT K ("_law_line_due", none)).1 (He.cT K ("_law_line_due", none)).2 := hTB _ List.mem_cons_self
    have TB2 : TabB base mg (He.cT K ("_law_refusals_right", none)).1 (He.cT K ("_law_refusals_right", none)).2 := hTB _ (List.mem_cons_of_mem _ List.mem_cons_self)
    have ER : Err (PySem.W.OpenLaw.prog PySem.Challenge.rw_linklines_k52_whole_numbers_and_lines) w K mg base "Ringed" "ring" (He.ga K "Ringed") :=
      ⟨oexB_ok x2, gR, noR, xfB_ok x4, ⟨_, fdR, fn_initR FR, meR.at_, isfn_ty meR.fn, FR.binds fun _ _ _ _ _ _ us hl => match us, hl with | [_, _], _ => rfl⟩⟩
    have EN : Err (PySem.W.OpenLaw.prog PySem.Challenge.rw_linklines_k52_whole_numbers_and_lines) w K mg base "BadNumbers" "thing" (He.ga K "BadNumbers") :=
      ⟨oexB_ok x1, gN, noN, xfB_ok x3, ⟨_, fdN, fn_initN FN, meN.at_, isfn_ty meN.fn, FN.binds fun _ _ _ _ _ _ us hl => match us, hl with | [_, _], _ => rfl⟩⟩
    have C2 := cal_isInt (P := PySem.W.OpenLaw.prog PySem.Challenge.rw_linklines_k52_whole_numbers_and_lines) (w := w) (base := base) B D2
    have C3 := cal_isNat B D3 C2
    have C4 := cal_isList (P := PySem.W.OpenLaw.prog PySem.Challenge.rw_linklines_k52_whole_numbers_and_lines) (w := w) (base := base) B D4
    have C5 := cal_isPair B D5 C4
    have C6 := cal_isWord (P := PySem.W.OpenLaw.prog PySem.Challenge.rw_linklines_k52_whole_numbers_and_lines) (w := w) (base := base) B LT D6
    have C7 := cal_firstBad B D7 C4 C6
    have C16 := cal_isWish B D16 C5
    have MW : MkW (PySem.W.OpenLaw.prog PySem.Challenge.rw_linklines_k52_whole_numbers_and_lines) w K mg base (He.ga K "Wishes") :=
      ⟨⟨_, fdW, MK0, fn_initW B FW TW0 C4 C7 C16, FW.binds (fun _ _ _ _ _ _ us hl => match us, hl with | [_, _, _], _ => rfl), gC⟩⟩
    have C17 := cal_behind (P := PySem.W.OpenLaw.prog PySem.Challenge.rw_linklines_k52_whole_numbers_and_lines) (w := w) (base := base) B TW0 D17
    have C18 := cal_ring (P := PySem.W.OpenLaw.prog PySem.Challenge.rw_linklines_k52_whole_numbers_and_lines) (w := w) (base := base) B D18
    have C19 := cal_wring B D19 C17 C18
    have C20 := cal_check B D20 C19 ER
    have C21 := cal_first B TW0 D21 C20
    have C22 := cal_least B TW0 D22 C21
    have C23 := cal_long B D23 C17 C21
    have C24 := cal_are B TW0 D24 C3
    have C25 := cal_break B TW0 D25 C20 C24 EN
    have C27 := cal_cell (P := PySem.W.OpenLaw.prog PySem.Challenge.rw_linklines_k52_whole_numbers_and_lines) (w := w) (base := base) B D27
    have C28 := cal_pool B D28 C27
    have C29 := cal_take (P := PySem.W.OpenLaw.prog PySem.Challenge.rw_linklines_k52_whole_numbers_and_lines) (w := w) (K := K) (base := base) B D29
    have C30 := cal_one B D30 C29
    have C31 := cal_mixed B D31 C29
    have C33 := cal_rows (P := PySem.W.OpenLaw.prog PySem.Challenge.rw_linklines_k52_whole_numbers_and_lines) (w := w) (base := base) B D33
    have C34 := cal_wishesL B D34 C29 C30 C31
    have C35 := cal_leastD (P := PySem.W.OpenLaw.prog PySem.Challenge.rw_linklines_k52_whole_numbers_and_lines) (w := w) (base := base) B D35
    have C36 := cal_chain B D36 C33
    have C37 := cal_line (T := [((He.cT K ("_law_line_due", none)).2, lamQ "_law_line_due"), ((He.cT K ("_law_refusals_right", none)).2, lamQ "_law_refusals_right")]) B D37 TB1 List.mem_cons_self (fun p hp e => by
      rcases List.mem_cons.mp hp with z | z
      · rw [z]
      · rw [List.mem_singleton.mp z] at e
        exact absurd e.symm hne) C33
    have C38 := cal_drawn B D38 C29 C30 C31
    have C39 := cal_right (T := [((He.cT K ("_law_line_due", none)).2, lamQ "_law_line_due"), ((He.cT K ("_law_refusals_right", none)).2, lamQ "_law_refusals_right")]) B D39 D32 T2 TB2 (List.mem_cons_of_mem _ List.mem_cons_self) (fun p hp e => by
      rcases List.mem_cons.mp hp with z | z
      · rw [z] at e
        exact absurd e hne
      · rw [List.mem_singleton.mp z]) MW C30 C25 C22 C23
    have C40 := cal_nine B D40 MW C25 C22 C23
    exact fn_law B FL MW C27 C28 C30 C31 C34 C35 C36 C22 C23 C19 C38 C37 C25 C39 C40
end
end Lk
open PySem PySem.W PySem.Calls PyProof.Rows
set_option maxRecDepth 100000 in
set_option maxHeartbeats 0 in
theorem PySem.Challenge.cw_linklines_k52_whole_numbers_and_lines_holds : PySem.Challenge.rw_linklines_k52_whole_numbers_and_lines.Holds := by
  w_on; o_law
  refine HandSHeadRun.head_any (r := Lk.hR) (q := view Lk.hR.prog [41]) (H := Lk.hkk) (ob := Lk.hob) (M := 6000) (loose := Lk.loose) (d := HandSHeadRun.topDef Lk.hR.prog 41) (kwd := []) Lk.hob_eq
    (by kernel_rfl) (fun s => by kernel_rfl) Lk.run (by kernel_rfl) (by kernel_rfl) (by kernel_rfl) (by rfl) (by first | assumption | decide +kernel) (by decide +kernel) ⟨rfl, rfl, rfl, rfl, rfl, by decide +kernel⟩ ?hw ?hc
  case hw => w_witness2
  case hc =>
    refine LamX.walk_ofTsE (l := PySem.Challenge.rw_linklines_k52_whole_numbers_and_lines) (n := 63) (k := 9) (x := "_law_script") (CX := fun _ => L2.CX0) rfl (by decide) (by kernel_rfl) ⟨rfl, by decide, by decide⟩ ?F (fun _ _ _ _ _ z => z)
    intro w mg fa h Y G hmg0
    have hmg : mg ("law" : PySem.Str) = some (.ref fa) := by
      have e : (HandSHeadRun.topDef Lk.hR.prog 41).name = ("law" : PySem.Str) := by kernel_rfl
      rw [← e]
      exact hmg0
    exact Lk.law_at Y G hmg
