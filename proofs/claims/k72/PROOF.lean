import PyProof.Rows.All
import Wide.All
import OpenK.AllK
import Wide.FinOn
import PySem.Challenge.RW_ringwords_k72_whole_cut_and_glued
import HandS.ForMost
import HandS.Replace
import HandS.Walk
import HandS.IsInst
import HandS.Style
import HandS.Deep
import KE.SortData
import HandS.Conv
import PyProof.ListStr
import PyProof.StrOps2
import HandS.Strs
import HandS.Small
import PyProof.Rows.StrStrike
import KE.GoesComp
import KE.GoesMore
import HandS.SetTxt0
set_option Elab.async false
set_option linter.all false
set_option maxRecDepth 100000
set_option maxHeartbeats 4000000
/-! K72, the plain law A: rings of ends round a disc with bands, a band taken out. Core Lean alone. -/
namespace K72

/-- the end just behind e, going round -/
def succ (w : List Nat) (e : Nat) : Nat := w.getD ((w.idxOf e + 1) % w.length) 0

theorem split_at {w : List Nat} {e : Nat} (h : e ∈ w) : ∃ p q, w = p ++ e :: q ∧ e ∉ p := by
  induction w with
  | nil => simp at h
  | cons x xs ih =>
    by_cases hx : x = e
    · subst hx; exact ⟨[], xs, rfl, by simp⟩
    · have h' : e ∈ xs := by
        rcases List.mem_cons.mp h with h | h
        · exact absurd h.symm hx
        · exact h
      obtain ⟨p, q, e1, e2⟩ := ih h'
      refine ⟨x :: p, q, by rw [e1]; rfl, ?_⟩
      intro hm
      rcases List.mem_cons.mp hm with h2 | h2
      · exact hx h2.symm
      · exact e2 h2

theorem idx_split {q : List Nat} {e : Nat} : ∀ {p : List Nat}, e ∉ p → (p ++ e :: q).idxOf e = p.length
  | [], _ => by simp
  | x :: p, h => by
    have hx : x ≠ e := fun z => h (by simp [z])
    have hp : e ∉ p := fun z => h (List.mem_cons_of_mem _ z)
    have ih := idx_split (q := q) hp
    show (x :: (p ++ e :: q)).idxOf e = p.length + 1
    have hb : (x == e) = false := by simpa using hx
    rw [List.idxOf_cons, hb, ih]
    rfl

theorem succ_split {p q : List Nat} {e : Nat} (h : e ∉ p) : succ (p ++ e :: q) e = (q ++ (p ++ [e])).headD 0 := by
  unfold succ
  rw [idx_split h]
  cases q with
  | nil =>
    have : (p.length + 1) % (p ++ [e]).length = 0 := by simp
    rw [this]
    cases p <;> rfl
  | cons z q =>
    have h1 : p.length + 1 < (p ++ e :: z :: q).length := by simp
    rw [Nat.mod_eq_of_lt h1]
    simp [List.getD]

theorem head_mem {l : List Nat} (h : l ≠ []) : l.headD 0 ∈ l := by
  cases l with
  | nil => exact absurd rfl h
  | cons x l => simp

theorem succ_mem {w : List Nat} {e : Nat} (h : e ∈ w) : succ w e ∈ w := by
  obtain ⟨p, q, rfl, hp⟩ := split_at h
  rw [succ_split hp]
  have := head_mem (l := q ++ (p ++ [e])) (by simp)
  simp only [List.mem_append, List.mem_cons, List.not_mem_nil, or_false] at this ⊢
  rcases this with h | h | h
  · exact .inr (.inr h)
  · exact .inl h
  · exact .inr (.inl h)

/-- going round does not hang on where one begins -/
theorem succ_rot {p q : List Nat} {e : Nat} (hn : (p ++ q).Nodup) (h : e ∈ p ++ q) : succ (p ++ q) e = succ (q ++ p) e := by
  have hd := List.nodup_append.mp hn
  rcases List.mem_append.mp h with h | h
  · obtain ⟨p1, p2, rfl, h1⟩ := split_at h
    have hq : e ∉ q := fun hq => hd.2.2 e (by simp) e hq rfl
    have e1 : (p1 ++ e :: p2) ++ q = p1 ++ e :: (p2 ++ q) := by simp
    have e2 : q ++ (p1 ++ e :: p2) = (q ++ p1) ++ e :: p2 := by simp
    rw [e1, e2, succ_split h1, succ_split (by simp [hq, h1])]
    simp
  · obtain ⟨q1, q2, rfl, h1⟩ := split_at h
    have hq : e ∉ p := fun hp => hd.2.2 e hp e (by simp) rfl
    have e1 : p ++ (q1 ++ e :: q2) = (p ++ q1) ++ e :: q2 := by simp
    have e2 : (q1 ++ e :: q2) ++ p = q1 ++ e :: (q2 ++ p) := by simp
    rw [e1, e2, succ_split h1, succ_split (by simp [hq, h1])]
    simp

theorem succ_cons {t : List Nat} {a : Nat} : succ (a :: t) a = t.headD a := by
  have := succ_split (p := []) (q := t) (e := a) (by simp)
  simp only [List.nil_append] at this
  rw [this]
  cases t <;> rfl

/-- begun at a -/
theorem begin_at {w : List Nat} (hn : w.Nodup) {a : Nat} (h : a ∈ w) : ∃ t, (a :: t).Nodup ∧ (a :: t).length = w.length ∧ (∀ e, e ∈ a :: t ↔ e ∈ w) ∧ ∀ e ∈ w, succ w e = succ (a :: t) e := by
  obtain ⟨p, q, rfl, hp⟩ := split_at h
  have hp : ((a :: q) ++ p).Perm (p ++ a :: q) := List.perm_append_comm
  refine ⟨q ++ p, hp.symm.nodup hn, hp.length_eq, fun e => hp.mem_iff, fun e he => succ_rot hn he⟩

theorem succ_ne {w : List Nat} (hn : w.Nodup) {a : Nat} (h : a ∈ w) (hl : 2 ≤ w.length) : succ w a ≠ a := by
  obtain ⟨t, h1, h2, h3, h4⟩ := begin_at hn h
  rw [h4 a h, succ_cons]
  cases t with
  | nil => simp at h2; omega
  | cons x t =>
    intro e
    have e : x = a := e
    subst e
    simp at h1

theorem succ_two {w : List Nat} (hn : w.Nodup) {a b : Nat} (ha : a ∈ w) (hb : b ∈ w) (hab : a ≠ b) (h1 : succ w a = b) (h2 : succ w b = a) : w.length = 2 := by
  obtain ⟨t, k1, k2, k3, k4⟩ := begin_at hn ha
  rw [k4 a ha, succ_cons] at h1
  rw [k4 b hb] at h2
  cases t with
  | nil => exact absurd h1 hab
  | cons x t =>
    have e : x = b := h1
    subst e
    have e2 : a :: x :: t = [a] ++ x :: t := rfl
    rw [e2, succ_split (by simp [Ne.symm hab])] at h2
    cases t with
    | nil => rw [← k2]; rfl
    | cons y t =>
      have e3 : y = a := h2
      subst e3
      simp at k1

/-- an end taken out -/
theorem succ_out {w : List Nat} (hn : w.Nodup) {e b : Nat} (he : e ∈ w) (hb : b ∈ w) (hne : e ≠ b) :
    succ (w.filter (fun x => decide (x ≠ b))) e = if succ w e = b then succ w b else succ w e := by
  obtain ⟨p, q, rfl, hp⟩ := split_at he
  have hf : (p ++ e :: q).filter (fun x => decide (x ≠ b)) = p.filter (fun x => decide (x ≠ b)) ++ e :: q.filter (fun x => decide (x ≠ b)) := by
    simp [List.filter_append, List.filter_cons, hne]
  have hp' : e ∉ p.filter (fun x => decide (x ≠ b)) := fun h => hp (List.mem_filter.mp h).1
  rw [hf, succ_split hp', succ_split hp]
  have hff : q.filter (fun x => decide (x ≠ b)) ++ (p.filter (fun x => decide (x ≠ b)) ++ [e]) = (q ++ (p ++ [e])).filter (fun x => decide (x ≠ b)) := by
    simp [List.filter_append, List.filter_cons, hne]
  rw [hff]
  have hb' : b ∈ q ++ (p ++ [e]) := by
    simp only [List.mem_append, List.mem_cons, List.not_mem_nil, or_false] at hb ⊢
    rcases hb with h | h | h
    · exact .inr (.inl h)
    · exact absurd h.symm hne
    · exact .inl h
  have hnr : (q ++ (p ++ [e])).Nodup := by
    have : (p ++ e :: q).Perm (q ++ (p ++ [e])) := by
      have e1 : p ++ e :: q = (p ++ [e]) ++ q := by simp
      rw [e1]; exact List.perm_append_comm
    exact this.nodup hn
  have key : ∀ y ∈ p ++ e :: q, succ (p ++ e :: q) y = succ (q ++ (p ++ [e])) y := by
    intro y hy
    have e1 : p ++ e :: q = (p ++ [e]) ++ q := by simp
    rw [e1] at hn hy ⊢
    exact succ_rot hn hy
  rw [key b hb]
  generalize hr : q ++ (p ++ [e]) = r at *
  cases r with
  | nil => simp at hb'
  | cons c t =>
    by_cases hc : c = b
    · subst hc
      rw [if_pos (by rfl), succ_cons]
      have hct : c ∉ t := (List.nodup_cons.mp hnr).1
      have hft : t.filter (fun x => decide (x ≠ c)) = t := by
        apply List.filter_eq_self.mpr
        intro x hx
        have : x ≠ c := fun h => hct (h ▸ hx)
        simp [this]
      rw [List.filter_cons_of_neg (by simp), hft]
      cases t with
      | nil =>
        -- then e = c
        have hm : e ∈ [c] := by rw [← hr]; simp
        simp at hm
        exact absurd hm hne
      | cons y t => rfl
    · rw [if_neg (by simpa using hc), List.filter_cons_of_pos (by simp [hc])]
      rfl

/-! ### ways of a function that come round -/
def Path (f : Nat → Nat) : Nat → List Nat → Nat → Prop
  | x, [], y => f x = y
  | x, z :: l, y => f x = z ∧ Path f z l y
def IsCyc (f : Nat → Nat) : List Nat → Prop
  | [] => False
  | x :: xs => Path f x xs x

theorem path_app {f : Nat → Nat} : ∀ {l1 : List Nat} {x z y : Nat} {l2 : List Nat}, Path f x (l1 ++ z :: l2) y ↔ Path f x l1 z ∧ Path f z l2 y
  | [], _, _, _, _ => Iff.rfl
  | u :: l1, x, z, y, l2 => by
    show (f x = u ∧ Path f u (l1 ++ z :: l2) y) ↔ (f x = u ∧ Path f u l1 z) ∧ Path f z l2 y
    rw [path_app, and_assoc]

theorem path_swap {f f' : Nat → Nat} {y y' : Nat} : ∀ {l : List Nat} {x : Nat}, Path f x l y → (∀ u ∈ x :: l, f u ∈ l → f' u = f u) → (∀ u ∈ x :: l, f u = y → f' u = y') → Path f' x l y'
  | [], x, h, _, h2 => h2 x (by simp) h
  | z :: l, x, h, h1, h2 => by
    obtain ⟨e, h⟩ := h
    refine ⟨(h1 x (by simp) (by rw [e]; simp)).trans e, path_swap h (fun u hu hf => h1 u (List.mem_cons_of_mem _ hu) (List.mem_cons_of_mem _ hf)) (fun u hu hf => h2 u (List.mem_cons_of_mem _ hu) hf)⟩

theorem cyc_rot {f : Nat → Nat} {c : List Nat} (h : IsCyc f c) {x : Nat} (hx : x ∈ c) : ∃ xs, Path f x xs x ∧ (x :: xs).Perm c := by
  cases c with
  | nil => exact h.elim
  | cons a l =>
    rcases List.mem_cons.mp hx with e | hx
    · subst e; exact ⟨l, h, List.Perm.refl _⟩
    · obtain ⟨p, q, rfl, _⟩ := split_at hx
      have h : Path f a (p ++ x :: q) a := h
      obtain ⟨h1, h2⟩ := path_app.mp h
      refine ⟨q ++ a :: p, path_app.mpr ⟨h2, h1⟩, ?_⟩
      have e1 : x :: (q ++ a :: p) = (x :: q) ++ (a :: p) := rfl
      have e2 : a :: (p ++ x :: q) = (a :: p) ++ (x :: q) := rfl
      rw [e1, e2]
      exact List.perm_append_comm

theorem path_closed {f : Nat → Nat} : ∀ {l : List Nat} {x y : Nat}, Path f x l y → ∀ u ∈ x :: l, f u ∈ l ∨ f u = y
  | [], x, y, h, u, hu => by
    have : u = x := by simpa using hu
    subst this
    exact .inr h
  | z :: l, x, y, h, u, hu => by
    rcases List.mem_cons.mp hu with e | hu
    · subst e; exact .inl (by rw [h.1]; simp)
    · rcases path_closed h.2 u hu with h | h
      · exact .inl (List.mem_cons_of_mem _ h)
      · exact .inr h
theorem cyc_closed {f : Nat → Nat} {c : List Nat} (h : IsCyc f c) {u : Nat} (hu : u ∈ c) : f u ∈ c := by
  cases c with
  | nil => exact h.elim
  | cons x l =>
    rcases path_closed (f := f) (l := l) h u hu with q | q
    · exact List.mem_cons_of_mem _ q
    · rw [q]; simp

def iter (f : Nat → Nat) : Nat → Nat → Nat
  | 0, x => x
  | n + 1, x => iter f n (f x)
theorem path_reach {f : Nat → Nat} : ∀ {l : List Nat} {x y : Nat}, Path f x l y → ∀ u ∈ x :: l, ∃ k, iter f k x = u
  | [], x, y, h, u, hu => by
    have : u = x := by simpa using hu
    subst this
    exact ⟨0, rfl⟩
  | z :: l, x, y, h, u, hu => by
    rcases List.mem_cons.mp hu with e | hu
    · subst e; exact ⟨0, rfl⟩
    · obtain ⟨k, e⟩ := path_reach h.2 u hu
      refine ⟨k + 1, ?_⟩
      show iter f k (f x) = u
      rw [h.1]; exact e
theorem cyc_iter {f : Nat → Nat} {c : List Nat} (h : IsCyc f c) : ∀ k {u : Nat}, u ∈ c → iter f k u ∈ c
  | 0, _, hu => hu
  | k + 1, _, hu => cyc_iter h k (cyc_closed h hu)
theorem cyc_reach {f : Nat → Nat} {c : List Nat} (h : IsCyc f c) {x u : Nat} (hx : x ∈ c) (hu : u ∈ c) : ∃ k, iter f k x = u := by
  obtain ⟨xs, h1, h2⟩ := cyc_rot h hx
  exact path_reach h1 u (h2.mem_iff.mpr hu)

/-! ### how many there are -/
structure Dec (f : Nat → Nat) (D : List Nat) (C : List (List Nat)) : Prop where
  cyc : ∀ c ∈ C, IsCyc f c
  nodup : C.flatten.Nodup
  mem : ∀ x, x ∈ C.flatten ↔ x ∈ D

open Classical in
noncomputable def isMin (f : Nat → Nat) (x : Nat) : Bool := decide (∀ k, x ≤ iter f k x)

theorem least_of : ∀ {c : List Nat}, c ≠ [] → ∃ m ∈ c, ∀ y ∈ c, m ≤ y
  | [], h => absurd rfl h
  | [x], _ => ⟨x, by simp, by simp⟩
  | x :: y :: c, _ => by
    obtain ⟨m, hm, h⟩ := least_of (c := y :: c) (by simp)
    by_cases hx : x ≤ m
    · refine ⟨x, by simp, fun z hz => ?_⟩
      rcases List.mem_cons.mp hz with e | hz
      · omega
      · have := h z hz; omega
    · refine ⟨m, List.mem_cons_of_mem _ hm, fun z hz => ?_⟩
      rcases List.mem_cons.mp hz with e | hz
      · omega
      · exact h z hz
theorem count_one : ∀ {c : List Nat} {p : Nat → Bool} {m : Nat}, c.Nodup → m ∈ c → (∀ x ∈ c, p x = true ↔ x = m) → c.countP p = 1
  | [], _, _, _, h, _ => by simp at h
  | x :: c, p, m, hn, hm, hp => by
    obtain ⟨h1, h2⟩ := List.nodup_cons.mp hn
    by_cases e : x = m
    · subst e
      rw [List.countP_cons_of_pos ((hp x (by simp)).mpr rfl)]
      have : c.countP p = 0 := by
        rw [List.countP_eq_zero]
        intro y hy hpy
        exact h1 ((hp y (List.mem_cons_of_mem _ hy)).mp hpy ▸ hy)
      omega
    · have hx : ¬ p x = true := fun h => e ((hp x (by simp)).mp h)
      rw [List.countP_cons_of_neg hx]
      refine count_one h2 ?_ fun y hy => hp y (List.mem_cons_of_mem _ hy)
      rcases List.mem_cons.mp hm with q | q
      · exact absurd q.symm e
      · exact q
open Classical in
theorem cyc_min {f : Nat → Nat} {c : List Nat} (h : IsCyc f c) (hn : c.Nodup) : c.countP (isMin f) = 1 := by
  have hne : c ≠ [] := by rintro rfl; exact h
  obtain ⟨m, hm, hl⟩ := least_of hne
  refine count_one hn hm fun x hx => ?_
  unfold isMin
  rw [decide_eq_true_iff]
  constructor
  · intro hk
    obtain ⟨k, e⟩ := cyc_reach h hx hm
    have a := hk k
    have b := hl x hx
    omega
  · rintro rfl k
    exact hl _ (cyc_iter h k hx)
theorem count_flat {p : Nat → Bool} : ∀ {C : List (List Nat)}, (∀ c ∈ C, c.countP p = 1) → C.flatten.countP p = C.length
  | [], _ => rfl
  | c :: C, h => by
    rw [List.flatten_cons, List.countP_append, h c (by simp), count_flat fun d hd => h d (List.mem_cons_of_mem _ hd), List.length_cons]
    omega
theorem Dec.count {f : Nat → Nat} {D : List Nat} {C : List (List Nat)} (d : Dec f D C) : C.flatten.countP (isMin f) = C.length := by
  refine count_flat fun c hc => cyc_min (d.cyc c hc) ?_
  exact List.Nodup.sublist (List.sublist_flatten_of_mem hc) d.nodup
/-- however a function's rings are told, they are as many -/
theorem Dec.unique {f : Nat → Nat} {D : List Nat} {C C' : List (List Nat)} (d : Dec f D C) (d' : Dec f D C') : C.length = C'.length := by
  rw [← d.count, ← d'.count]
  exact ((List.perm_ext_iff_of_nodup d.nodup d'.nodup).mpr fun x => (d.mem x).trans (d'.mem x).symm).countP_eq _

end K72
/-! K72, the plain law A, second part: a band cut. -/
namespace K72

/-- ends with their backs -/
structure Bands (b : Nat → Nat) (w : List Nat) : Prop where
  nodup : w.Nodup
  mem : ∀ x ∈ w, b x ∈ w
  inv : ∀ x ∈ w, b (b x) = x
  ne : ∀ x ∈ w, b x ≠ x

/-- from a letter of a hole's word to the next one -/
def turn (b : Nat → Nat) (w : List Nat) (e : Nat) : Nat := succ w (b e)
def without (b : Nat → Nat) (w : List Nat) (a : Nat) : List Nat := w.filter fun x => decide (x ≠ a ∧ x ≠ b a)

theorem without_eq (b : Nat → Nat) (w : List Nat) (a : Nat) : without b w a = (w.filter (fun x => decide (x ≠ a))).filter (fun x => decide (x ≠ b a)) := by
  unfold without
  rw [List.filter_filter]
  congr 1
  funext x
  by_cases h1 : x = a <;> by_cases h2 : x = b a <;> simp [h1, h2]
theorem without_eq' (b : Nat → Nat) (w : List Nat) (a : Nat) : without b w a = (w.filter (fun x => decide (x ≠ b a))).filter (fun x => decide (x ≠ a)) := by
  unfold without
  rw [List.filter_filter]
  congr 1
  funext x
  by_cases h1 : x = a <;> by_cases h2 : x = b a <;> simp [h1, h2]
theorem mem_without {b : Nat → Nat} {w : List Nat} {a x : Nat} : x ∈ without b w a ↔ x ∈ w ∧ x ≠ a ∧ x ≠ b a := by
  unfold without
  rw [List.mem_filter]
  simp

theorem length_out : ∀ {w : List Nat} {x : Nat}, w.Nodup → x ∈ w → (w.filter (fun y => decide (y ≠ x))).length + 1 = w.length
  | [], _, _, h => by simp at h
  | y :: w, x, hn, h => by
    obtain ⟨h1, h2⟩ := List.nodup_cons.mp hn
    by_cases e : y = x
    · subst e
      have : w.filter (fun z => decide (z ≠ y)) = w := by
        apply List.filter_eq_self.mpr
        intro z hz
        have : z ≠ y := fun q => h1 (q ▸ hz)
        simp [this]
      rw [List.filter_cons_of_neg (by simp), this, List.length_cons]
    · have hx : x ∈ w := by
        rcases List.mem_cons.mp h with q | q
        · exact absurd q.symm e
        · exact q
      rw [List.filter_cons_of_pos (by simp [e]), List.length_cons, List.length_cons, length_out h2 hx]

section
variable {b : Nat → Nat} {w : List Nat} {a : Nat}

theorem Bands.length_without (E : Bands b w) (ha : a ∈ w) : (without b w a).length + 2 = w.length := by
  have h1 := length_out E.nodup ha
  have hb : b a ∈ w.filter (fun y => decide (y ≠ a)) := List.mem_filter.mpr ⟨E.mem a ha, by simp [E.ne a ha]⟩
  have h2 := length_out (List.Nodup.sublist List.filter_sublist E.nodup) hb
  rw [without_eq]
  omega
theorem Bands.without (E : Bands b w) (ha : a ∈ w) : Bands b (without b w a) := by
  refine ⟨List.Nodup.sublist List.filter_sublist E.nodup, fun x hx => ?_, fun x hx => E.inv x (mem_without.mp hx).1, fun x hx => E.ne x (mem_without.mp hx).1⟩
  obtain ⟨h1, h2, h3⟩ := mem_without.mp hx
  refine mem_without.mpr ⟨E.mem x h1, fun h => ?_, fun h => ?_⟩
  · exact h3 (by rw [← h, E.inv x h1])
  · have := congrArg b h
    rw [E.inv x h1, E.inv a ha] at this
    exact h2 this
theorem Bands.inj (E : Bands b w) {x y : Nat} (hx : x ∈ w) (hy : y ∈ w) (h : b x = b y) : x = y := by
  rw [← E.inv x hx, ← E.inv y hy, h]
theorem turn_mem (E : Bands b w) {x : Nat} (hx : x ∈ w) : turn b w x ∈ w := succ_mem (E.mem x hx)

/-- a step of the cut surface, told by steps of the whole one -/
theorem turn_cut (E : Bands b w) (hl : 2 < w.length) (ha : a ∈ w) {u : Nat} (hu : u ∈ without b w a) :
    turn b (without b w a) u =
      if turn b w u = a then (if turn b w (b a) = b a then turn b w a else turn b w (b a))
      else if turn b w u = b a then (if turn b w a = a then turn b w (b a) else turn b w a)
      else turn b w u := by
  obtain ⟨h1, h2, h3⟩ := mem_without.mp hu
  have hA := E.mem a ha
  have hne := E.ne a ha
  have hbu := E.mem u h1
  have hbu1 : b u ≠ a := fun h => h3 (by rw [← h, E.inv u h1])
  have hbu2 : b u ≠ b a := fun h => h2 (E.inj h1 ha h)
  have tA : turn b w (b a) = succ w a := by unfold turn; rw [E.inv a ha]
  have ta : turn b w a = succ w (b a) := rfl
  have n1 := succ_ne E.nodup ha (by omega)
  have n2 := succ_ne E.nodup hA (by omega)
  have n3 : ¬ (succ w a = b a ∧ succ w (b a) = a) := fun ⟨q1, q2⟩ => by
    have := succ_two E.nodup ha hA (Ne.symm hne) q1 q2
    omega
  rw [tA, ta]
  by_cases c1 : turn b w u = a
  · rw [if_pos c1]
    -- first a, then its back
    have hA1 : b a ∈ w.filter (fun x => decide (x ≠ a)) := List.mem_filter.mpr ⟨hA, by simp [hne]⟩
    have hbu3 : b u ∈ w.filter (fun x => decide (x ≠ a)) := List.mem_filter.mpr ⟨hbu, by simp [hbu1]⟩
    unfold turn
    rw [without_eq, succ_out (List.Nodup.sublist List.filter_sublist E.nodup) hbu3 hA1 hbu2, succ_out E.nodup hbu ha hbu1, succ_out E.nodup hA ha hne]
    have c1' : succ w (b u) = a := c1
    rw [c1', if_pos rfl]
    by_cases c2 : succ w a = b a
    · rw [if_pos c2, if_pos c2, if_neg (fun h => n3 ⟨c2, h⟩)]
    · rw [if_neg c2, if_neg c2]
  · rw [if_neg c1]
    have c1' : ¬ succ w (b u) = a := c1
    have ha1 : a ∈ w.filter (fun x => decide (x ≠ b a)) := List.mem_filter.mpr ⟨ha, by simp [Ne.symm hne]⟩
    have hbu3 : b u ∈ w.filter (fun x => decide (x ≠ b a)) := List.mem_filter.mpr ⟨hbu, by simp [hbu2]⟩
    unfold turn
    rw [without_eq', succ_out (List.Nodup.sublist List.filter_sublist E.nodup) hbu3 ha1 hbu1, succ_out E.nodup hbu hA hbu2, succ_out E.nodup ha hA (Ne.symm hne)]
    by_cases c2 : succ w (b u) = b a
    · rw [if_pos c2, if_pos c2]
      by_cases c3 : succ w (b a) = a
      · rw [if_pos c3, if_pos c3, if_neg (fun h => n3 ⟨h, c3⟩)]
      · rw [if_neg c3, if_neg c3]
    · rw [if_neg c2, if_neg c1', if_neg c2]

/-- the ring of a letter, begun at it -/
theorem Dec.at {f : Nat → Nat} {D : List Nat} {C : List (List Nat)} (d : Dec f D C) {x : Nat} (hx : x ∈ D) :
    ∃ c ∈ C, ∃ xs C1, x ∈ c ∧ (x :: xs).Perm c ∧ Dec f D ((x :: xs) :: C1) ∧ C1.length + 1 = C.length := by
  obtain ⟨c, hc, hxc⟩ := List.mem_flatten.mp ((d.mem x).mpr hx)
  obtain ⟨p, q, rfl⟩ := List.append_of_mem hc
  obtain ⟨xs, h1, h2⟩ := cyc_rot (d.cyc c hc) hxc
  have hp : ((x :: xs) :: (p ++ q)).flatten.Perm (p ++ c :: q).flatten := by
    rw [List.flatten_cons, List.flatten_append, List.flatten_append, List.flatten_cons]
    refine (List.Perm.append_right _ h2).trans ?_
    rw [← List.append_assoc, ← List.append_assoc]
    exact List.Perm.append_right _ List.perm_append_comm
  refine ⟨c, hc, xs, p ++ q, hxc, h2, ⟨fun e he => ?_, hp.symm.nodup d.nodup, fun z => hp.mem_iff.trans (d.mem z)⟩, by simp; omega⟩
  rcases List.mem_cons.mp he with r | he
  · rw [r]; exact h1
  · refine d.cyc e ?_
    rcases List.mem_append.mp he with he | he
    · exact List.mem_append_left _ he
    · exact List.mem_append_right _ (List.mem_cons_of_mem _ he)

theorem mem_one {C : List (List Nat)} (hn : C.flatten.Nodup) {c d : List Nat} (hc : c ∈ C) (hd : d ∈ C) {x : Nat} (h1 : x ∈ c) (h2 : x ∈ d) : c = d := by
  induction C with
  | nil => simp at hc
  | cons e C ih =>
    rw [List.flatten_cons] at hn
    obtain ⟨n1, n2, n3⟩ := List.nodup_append.mp hn
    rcases List.mem_cons.mp hc with r | hc
    · rcases List.mem_cons.mp hd with r2 | hd
      · rw [r, r2]
      · exact absurd rfl (n3 x (r ▸ h1) x (List.mem_flatten.mpr ⟨d, hd, h2⟩))
    · rcases List.mem_cons.mp hd with r2 | hd
      · exact absurd rfl (n3 x (r2 ▸ h2) x (List.mem_flatten.mpr ⟨c, hc, h1⟩))
      · exact ih n2 hc hd

/-- a band cut: where its ends stand in one word, that word falls in two; else two become one -/
theorem cut_holes (E : Bands b w) (hl : 2 < w.length) (ha : a ∈ w) {C : List (List Nat)} (d : Dec (turn b w) w C) :
    ∃ C', Dec (turn b (without b w a)) (without b w a) C' ∧ ((∃ c ∈ C, a ∈ c ∧ b a ∈ c) → C'.length = C.length + 1) ∧ ((¬ ∃ c ∈ C, a ∈ c ∧ b a ∈ c) → C'.length + 1 = C.length) := by
  have hA := E.mem a ha
  have hne := E.ne a ha
  obtain ⟨c, hc, xs, C1, hac, hperm, dd, hlen⟩ := d.at ha
  have n1 := succ_ne E.nodup ha (by omega)
  have n2 := succ_ne E.nodup hA (by omega)
  have ta : turn b w a ≠ b a := fun h => n2 h
  have tA : turn b w (b a) ≠ a := fun h => n1 (by
    have : turn b w (b a) = succ w a := by unfold turn; rw [E.inv a ha]
    rw [← this]; exact h)
  have inW : ∀ {u : Nat}, u ∈ w → u ≠ a → u ≠ b a → u ∈ without b w a := fun h1 h2 h3 => mem_without.mpr ⟨h1, h2, h3⟩
  -- a step that stays away from the band
  have same : ∀ {u : Nat}, u ∈ without b w a → turn b w u ∈ without b w a → turn b (without b w a) u = turn b w u := fun {u} hu hf => by
    obtain ⟨k1, k2, k3⟩ := mem_without.mp hf
    rw [turn_cut E hl ha hu, if_neg k2, if_neg k3]
  have toA : ∀ {u : Nat}, u ∈ without b w a → turn b w u = a → turn b (without b w a) u = if turn b w (b a) = b a then turn b w a else turn b w (b a) := fun {u} hu hf => by
    rw [turn_cut E hl ha hu, if_pos hf]
  have toB : ∀ {u : Nat}, u ∈ without b w a → turn b w u = b a → turn b (without b w a) u = if turn b w a = a then turn b w (b a) else turn b w a := fun {u} hu hf => by
    rw [turn_cut E hl ha hu, if_neg (by rw [hf]; exact hne), if_pos hf]
  have cyc0 : Path (turn b w) a xs a := dd.cyc _ (List.mem_cons_self)
  -- rings without the band stay
  have stay : ∀ (e : List Nat), IsCyc (turn b w) e → (∀ u ∈ e, u ∈ without b w a) → IsCyc (turn b (without b w a)) e := by
    intro e he hm
    cases e with
    | nil => exact he
    | cons x l =>
      have he' : Path (turn b w) x l x := he
      exact path_swap he' (fun u hu hf => same (hm u hu) (hm _ (List.mem_cons_of_mem _ hf))) (fun u hu hf => by rw [same (hm u hu) (by rw [hf]; exact hm x (by simp)), hf])
  have hmemD : ∀ z, z ∈ (a :: xs) ++ C1.flatten ↔ z ∈ w := fun z => by
    have := dd.mem z
    rwa [List.flatten_cons] at this
  have hnd : ((a :: xs) ++ C1.flatten).Nodup := by
    have := dd.nodup
    rwa [List.flatten_cons] at this
  by_cases hin : b a ∈ a :: xs
  · -- one word
    have hex : ∃ c ∈ C, a ∈ c ∧ b a ∈ c := ⟨c, hc, hac, hperm.mem_iff.mp hin⟩
    have hbx : b a ∈ xs := by
      rcases List.mem_cons.mp hin with h | h
      · exact absurd h hne
      · exact h
    obtain ⟨l1, l2, rfl, hl1⟩ := split_at hbx
    obtain ⟨p1, p2⟩ := path_app.mp cyc0
    have hnd' : (a :: (l1 ++ b a :: l2) ++ C1.flatten).Nodup := hnd
    have hlist : ∀ z, z ∈ l1 ++ l2 ++ C1.flatten ↔ z ∈ without b w a := by
      intro z
      rw [mem_without, ← hmemD z]
      have hn' := hnd'
      simp only [List.cons_append, List.append_assoc, List.nodup_cons, List.nodup_append, List.mem_append, List.mem_cons] at hn'
      simp only [List.cons_append, List.append_assoc, List.mem_append, List.mem_cons]
      constructor
      · rintro (h | h | h)
        · refine ⟨.inr (.inl h), fun e => hn'.1 (.inl (e ▸ h)), fun e => hl1 (e ▸ h)⟩
        · refine ⟨.inr (.inr (.inr (.inl h))), fun e => hn'.1 (.inr (.inr (.inl (e ▸ h)))), fun e => ?_⟩
          exact hn'.2.2.1.1 (.inl (e ▸ h))
        · refine ⟨.inr (.inr (.inr (.inr h))), fun e => hn'.1 (.inr (.inr (.inr (e ▸ h)))), fun e => ?_⟩
          exact hn'.2.2.1.1 (.inr (e ▸ h))
      · rintro ⟨h, h2, h3⟩
        rcases h with h | h | h | h | h
        · exact absurd h h2
        · exact .inl h
        · exact absurd h h3
        · exact .inr (.inl h)
        · exact .inr (.inr h)
    have hsub : (l1 ++ l2 ++ C1.flatten).Sublist (a :: (l1 ++ b a :: l2) ++ C1.flatten) := by
      refine List.Sublist.append_right ?_ _
      exact List.Sublist.cons _ (List.Sublist.append_left (List.Sublist.cons _ (List.Sublist.refl _)) _)
    have hnw := hsub.nodup hnd'
    cases l1 with
    | nil => exact absurd p1 ta
    | cons x l1 =>
      cases l2 with
      | nil => exact absurd p2 tA
      | cons y l2 =>
        have m1 : ∀ u ∈ x :: l1, u ∈ without b w a := fun u hu => (hlist u).mp (by simp only [List.mem_append]; exact .inl (.inl hu))
        have m2 : ∀ u ∈ y :: l2, u ∈ without b w a := fun u hu => (hlist u).mp (by simp only [List.mem_append]; exact .inl (.inr hu))
        obtain ⟨q1, p1⟩ := p1
        obtain ⟨q2, p2⟩ := p2
        have hx := (mem_without.mp (m1 x (by simp))).2
        have hy := (mem_without.mp (m2 y (by simp))).2
        have c1 : Path (turn b (without b w a)) x l1 x := path_swap p1 (fun u hu hf => same (m1 u hu) (m1 _ (List.mem_cons_of_mem _ hf)))
          (fun u hu hf => by rw [toB (m1 u hu) hf, if_neg (by rw [q1]; exact hx.1)]; exact q1)
        have c2 : Path (turn b (without b w a)) y l2 y := path_swap p2 (fun u hu hf => same (m2 u hu) (m2 _ (List.mem_cons_of_mem _ hf)))
          (fun u hu hf => by rw [toA (m2 u hu) hf, if_neg (by rw [q2]; exact hy.2)]; exact q2)
        refine ⟨(x :: l1) :: (y :: l2) :: C1, ⟨fun e he => ?_, ?_, fun z => ?_⟩, fun _ => by simp; omega, fun h => absurd hex h⟩
        · rcases List.mem_cons.mp he with r | he
          · rw [r]; exact c1
          · rcases List.mem_cons.mp he with r | he
            · rw [r]; exact c2
            · refine stay e (dd.cyc e (List.mem_cons_of_mem _ he)) fun u hu => (hlist u).mp ?_
              exact List.mem_append_right _ (List.mem_flatten.mpr ⟨e, he, hu⟩)
        · rw [List.flatten_cons, List.flatten_cons, ← List.append_assoc]; exact hnw
        · rw [List.flatten_cons, List.flatten_cons, ← List.append_assoc]; exact hlist z
  · -- two words
    have hex : ¬ ∃ c ∈ C, a ∈ c ∧ b a ∈ c := by
      rintro ⟨e, he, h1, h2⟩
      have : e = c := mem_one d.nodup he hc h1 hac
      subst this
      exact hin (hperm.mem_iff.mpr h2)
    have hbD : b a ∈ C1.flatten := by
      have := (hmemD (b a)).mpr hA
      rcases List.mem_append.mp this with h | h
      · exact absurd h hin
      · exact h
    -- the other word, begun at the back
    have dd1 : Dec (turn b w) C1.flatten C1 := ⟨fun e he => dd.cyc e (List.mem_cons_of_mem _ he), (List.nodup_append.mp hnd).2.1, fun _ => Iff.rfl⟩
    obtain ⟨c2, hc2, ys, C2, hbc, hperm2, dd2, hlen2⟩ := dd1.at hbD
    have cyc1 : Path (turn b w) (b a) ys (b a) := dd2.cyc _ List.mem_cons_self
    have hmem2 : ∀ z, z ∈ (b a :: ys) ++ C2.flatten ↔ z ∈ C1.flatten := fun z => by
      have := dd2.mem z
      rwa [List.flatten_cons] at this
    have hnd2 : ((b a :: ys) ++ C2.flatten).Nodup := by
      have := dd2.nodup
      rwa [List.flatten_cons] at this
    have hall : ((a :: xs) ++ ((b a :: ys) ++ C2.flatten)).Nodup := by
      obtain ⟨k1, k2, k3⟩ := List.nodup_append.mp hnd
      exact List.nodup_append.mpr ⟨k1, hnd2, fun x hx y hy => k3 x hx y ((hmem2 y).mp hy)⟩
    have hallm : ∀ z, z ∈ (a :: xs) ++ ((b a :: ys) ++ C2.flatten) ↔ z ∈ w := fun z => by
      rw [List.mem_append, hmem2, ← List.mem_append, hmemD]
    have hlist : ∀ z, z ∈ xs ++ (ys ++ C2.flatten) ↔ z ∈ without b w a := by
      intro z
      rw [mem_without, ← hallm z]
      have hn' := hall
      simp only [List.cons_append, List.nodup_cons, List.nodup_append, List.mem_append, List.mem_cons, not_or] at hn'
      simp only [List.cons_append, List.mem_append, List.mem_cons]
      constructor
      · rintro (h | h | h)
        · refine ⟨.inr (.inl h), fun e => hn'.1.1 (e ▸ h), fun e => hin (by rw [← e]; exact List.mem_cons_of_mem _ h)⟩
        · refine ⟨.inr (.inr (.inr (.inl h))), fun e => hn'.1.2.2.1 (e ▸ h), fun e => hn'.2.2.1.1.1 (e ▸ h)⟩
        · refine ⟨.inr (.inr (.inr (.inr h))), fun e => hn'.1.2.2.2 (e ▸ h), fun e => hn'.2.2.1.1.2 (e ▸ h)⟩
      · rintro ⟨h, h2, h3⟩
        rcases h with h | h | h | h | h
        · exact absurd h h2
        · exact .inl h
        · exact absurd h h3
        · exact .inr (.inl h)
        · exact .inr (.inr h)
    have hsub : (xs ++ (ys ++ C2.flatten)).Sublist ((a :: xs) ++ ((b a :: ys) ++ C2.flatten)) :=
      List.Sublist.append (List.Sublist.cons _ (List.Sublist.refl _)) (List.Sublist.append_right (List.Sublist.cons _ (List.Sublist.refl _)) _)
    have hnw := hsub.nodup hall
    have m1 : ∀ u ∈ xs, u ∈ without b w a := fun u hu => (hlist u).mp (List.mem_append_left _ hu)
    have m2 : ∀ u ∈ ys, u ∈ without b w a := fun u hu => (hlist u).mp (List.mem_append_right _ (List.mem_append_left _ hu))
    have m3 : ∀ e ∈ C2, ∀ u ∈ e, u ∈ without b w a := fun e he u hu => (hlist u).mp (List.mem_append_right _ (List.mem_append_right _ (List.mem_flatten.mpr ⟨e, he, hu⟩)))
    -- the word that both become
    have one : IsCyc (turn b (without b w a)) (xs ++ ys) := by
      cases xs with
      | nil =>
        have qa : turn b w a = a := cyc0
        cases ys with
        | nil =>
          have qb : turn b w (b a) = b a := cyc1
          have e1 : succ w (b a) = a := qa
          have e2 : succ w a = b a := by
            have : turn b w (b a) = succ w a := by unfold turn; rw [E.inv a ha]
            rw [← this]; exact qb
          have := succ_two E.nodup ha hA (Ne.symm hne) e2 e1
          omega
        | cons y ys =>
          obtain ⟨q2, p2⟩ := cyc1
          exact path_swap p2 (fun u hu hf => same (m2 u hu) (m2 _ (List.mem_cons_of_mem _ hf))) (fun u hu hf => by rw [toB (m2 u hu) hf, if_pos qa]; exact q2)
      | cons x xs =>
        obtain ⟨q1, p1⟩ := cyc0
        have hx := (mem_without.mp (m1 x (by simp))).2
        cases ys with
        | nil =>
          have qb : turn b w (b a) = b a := cyc1
          rw [List.append_nil]
          exact path_swap p1 (fun u hu hf => same (m1 u hu) (m1 _ (List.mem_cons_of_mem _ hf))) (fun u hu hf => by rw [toA (m1 u hu) hf, if_pos qb]; exact q1)
        | cons y ys =>
          obtain ⟨q2, p2⟩ := cyc1
          have hy := (mem_without.mp (m2 y (by simp))).2
          have c1 : Path (turn b (without b w a)) x xs y := path_swap p1 (fun u hu hf => same (m1 u hu) (m1 _ (List.mem_cons_of_mem _ hf)))
            (fun u hu hf => by rw [toA (m1 u hu) hf, if_neg (by rw [q2]; exact hy.2)]; exact q2)
          have c2 : Path (turn b (without b w a)) y ys x := path_swap p2 (fun u hu hf => same (m2 u hu) (m2 _ (List.mem_cons_of_mem _ hf)))
            (fun u hu hf => by rw [toB (m2 u hu) hf, if_neg (by rw [q1]; exact hx.1)]; exact q1)
          exact path_app.mpr ⟨c1, c2⟩
    refine ⟨(xs ++ ys) :: C2, ⟨fun e he => ?_, ?_, fun z => ?_⟩, fun h => absurd h hex, fun _ => by simp; omega⟩
    · rcases List.mem_cons.mp he with r | he
      · rw [r]; exact one
      · exact stay e (dd2.cyc e (List.mem_cons_of_mem _ he)) (m3 e he)
    · rw [List.flatten_cons, List.append_assoc]; exact hnw
    · rw [List.flatten_cons, List.append_assoc]; exact hlist z

/-- letters named anew -/
theorem succ_map {φ : Nat → Nat} (hi : ∀ x ∈ w, ∀ y ∈ w, φ x = φ y → x = y) {e : Nat} (he : e ∈ w) : succ (w.map φ) (φ e) = φ (succ w e) := by
  obtain ⟨p, q, rfl, hp⟩ := split_at he
  rw [List.map_append, List.map_cons, succ_split, succ_split hp]
  · have : (q.map φ) ++ (p.map φ ++ [φ e]) = (q ++ (p ++ [e])).map φ := by simp
    rw [this]
    generalize hr : q ++ (p ++ [e]) = r
    cases r with
    | nil => simp at hr
    | cons c t => rfl
  · intro h
    obtain ⟨z, hz, e1⟩ := List.mem_map.mp h
    have := hi z (by simp [hz]) e (by simp) e1
    exact hp (this ▸ hz)
theorem path_map {f g φ : Nat → Nat} : ∀ {l : List Nat} {x y : Nat}, Path f x l y → (∀ u ∈ x :: l, g (φ u) = φ (f u)) → Path g (φ x) (l.map φ) (φ y)
  | [], x, y, h, hg => (hg x (by simp)).trans (congrArg φ h)
  | z :: l, x, y, h, hg => ⟨(hg x (by simp)).trans (congrArg φ h.1), path_map h.2 fun u hu => hg u (List.mem_cons_of_mem _ hu)⟩
theorem nodup_map {φ : Nat → Nat} : ∀ {l : List Nat}, (∀ x ∈ l, ∀ y ∈ l, φ x = φ y → x = y) → l.Nodup → (l.map φ).Nodup
  | [], _, _ => List.nodup_nil
  | x :: l, hi, hn => by
    obtain ⟨h1, h2⟩ := List.nodup_cons.mp hn
    rw [List.map_cons]
    refine List.nodup_cons.mpr ⟨fun h => ?_, nodup_map (fun a ha b hb => hi a (List.mem_cons_of_mem _ ha) b (List.mem_cons_of_mem _ hb)) h2⟩
    obtain ⟨z, hz, e⟩ := List.mem_map.mp h
    exact h1 (hi z (List.mem_cons_of_mem _ hz) x (by simp) e ▸ hz)
theorem named {b' φ : Nat → Nat} (hm : ∀ x ∈ w, b x ∈ w) (hi : ∀ x ∈ w, ∀ y ∈ w, φ x = φ y → x = y) (hb : ∀ x ∈ w, b' (φ x) = φ (b x)) {C : List (List Nat)} (d : Dec (turn b w) w C) :
    Dec (turn b' (w.map φ)) (w.map φ) (C.map (List.map φ)) := by
  have hC : ∀ c ∈ C, ∀ u ∈ c, u ∈ w := fun c hc u hu => (d.mem u).mp (List.mem_flatten.mpr ⟨c, hc, hu⟩)
  refine ⟨fun e he => ?_, ?_, fun z => ?_⟩
  · obtain ⟨c, hc, rfl⟩ := List.mem_map.mp he
    have h := d.cyc c hc
    cases c with
    | nil => exact h
    | cons x l =>
      have h : Path (turn b w) x l x := h
      refine path_map (φ := φ) h fun u hu => ?_
      have hu := hC _ hc u hu
      unfold turn
      rw [hb u hu, succ_map hi (hm u hu)]
  · rw [← List.map_flatten]
    exact nodup_map (fun x hx y hy => hi x ((d.mem x).mp hx) y ((d.mem y).mp hy)) d.nodup
  · rw [← List.map_flatten, List.mem_map, List.mem_map]
    constructor
    · rintro ⟨x, h1, h2⟩; exact ⟨x, (d.mem x).mp h1, h2⟩
    · rintro ⟨x, h1, h2⟩; exact ⟨x, (d.mem x).mpr h1, h2⟩
end

/-- holes and letters together are odd -/
theorem parity {b : Nat → Nat} : ∀ (n : Nat) {w : List Nat}, Bands b w → w.length = 2 * (n + 1) → ∀ {C : List (List Nat)}, Dec (turn b w) w C → (C.length + n) % 2 = 0
  | 0, w, E, hl, C, d => by
    match w, hl with
    | [x, y], _ => ?_
    have hx := E.mem x (by simp)
    have hy := E.mem y (by simp)
    have nx := E.ne x (by simp)
    have ny := E.ne y (by simp)
    have bx : b x = y := by simpa [nx] using hx
    have byy : b y = x := by simpa [ny] using hy
    have hxy : x ≠ y := fun h => nx (by rw [bx, h])
    have sx : succ [x, y] x = y := succ_cons
    have sy : succ [x, y] y = x := by
      have e : [x, y] = [x] ++ y :: [] := rfl
      rw [e, succ_split (by simp [Ne.symm hxy])]
      rfl
    have d2 : Dec (turn b [x, y]) [x, y] [[x], [y]] := by
      refine ⟨fun c hc => ?_, E.nodup, fun z => Iff.rfl⟩
      rcases List.mem_cons.mp hc with r | hc
      · rw [r]; show succ [x, y] (b x) = x; rw [bx, sy]
      · rcases List.mem_cons.mp hc with r | hc
        · rw [r]; show succ [x, y] (b y) = y; rw [byy, sx]
        · simp at hc
    rw [d.unique d2]
    simp
  | n + 1, w, E, hl, C, d => by
    obtain ⟨a, ha⟩ : ∃ a, a ∈ w := by
      cases w with
      | nil => simp at hl
      | cons x l => exact ⟨x, by simp⟩
    obtain ⟨C', d', h1, h2⟩ := cut_holes E (by omega) ha d
    have hlen := E.length_without ha
    have ih := parity n (E.without ha) (by omega) d'
    by_cases h : ∃ c ∈ C, a ∈ c ∧ b a ∈ c
    · have := h1 h; omega
    · have := h2 h; omega
end K72
/-! K72, the plain law A, third part: how the holes are found, gap by gap. -/
namespace K72
/-- the end behind a gap -/
def nx (w : List Nat) (g : Nat) : Nat := w.getD ((g + 1) % w.length) 0
theorem succ_nx (w : List Nat) (e : Nat) : succ w e = nx w (w.idxOf e) := rfl

theorem nodup_le : ∀ {l D : List Nat}, l.Nodup → (∀ x ∈ l, x ∈ D) → l.length ≤ D.length
  | [], _, _, _ => Nat.zero_le _
  | x :: l, D, hn, hs => by
    obtain ⟨h1, h2⟩ := List.nodup_cons.mp hn
    have hx := hs x (by simp)
    have ih : l.length ≤ (D.erase x).length := nodup_le h2 fun y hy => by
      have : y ≠ x := fun e => h1 (e ▸ hy)
      exact (List.mem_erase_of_ne this).mpr (hs y (List.mem_cons_of_mem _ hy))
    have := List.length_erase_of_mem hx
    have hp : 0 < D.length := List.length_pos_of_mem hx
    rw [List.length_cons]
    omega
theorem nx_mem {w : List Nat} (h : 0 < w.length) (g : Nat) : nx w g ∈ w := by
  unfold nx
  have hl := Nat.mod_lt (g + 1) h
  rw [List.getD_eq_getElem?_getD, List.getElem?_eq_getElem hl]
  exact List.getElem_mem hl
theorem getD_inj {w : List Nat} (hn : w.Nodup) {i j : Nat} (hi : i < w.length) (hj : j < w.length) (h : w.getD i 0 = w.getD j 0) : i = j := by
  rw [List.getD_eq_getElem?_getD, List.getElem?_eq_getElem hi, List.getD_eq_getElem?_getD, List.getElem?_eq_getElem hj] at h
  exact (List.getElem_inj hn).mp h
theorem nx_inj {w : List Nat} (hn : w.Nodup) {i j : Nat} (hi : i < w.length) (hj : j < w.length) (h : nx w i = nx w j) : i = j := by
  have hp : 0 < w.length := by omega
  have e := getD_inj hn (Nat.mod_lt _ hp) (Nat.mod_lt _ hp) h
  by_cases c1 : i + 1 = w.length <;> by_cases c2 : j + 1 = w.length
  · omega
  · rw [c1, Nat.mod_self, Nat.mod_eq_of_lt (by omega)] at e; omega
  · rw [c2, Nat.mod_self, Nat.mod_eq_of_lt (by omega)] at e; omega
  · rw [Nat.mod_eq_of_lt (by omega), Nat.mod_eq_of_lt (by omega)] at e; omega
theorem idx_lt {w : List Nat} {e : Nat} (h : e ∈ w) : w.idxOf e < w.length := by
  obtain ⟨p, q, rfl, hp⟩ := split_at h
  rw [idx_split hp]
  simp
theorem idx_inj {w : List Nat} {e e' : Nat} (h : e ∈ w) (h' : e' ∈ w) (he : w.idxOf e = w.idxOf e') : e = e' := by
  obtain ⟨p, q, rfl, hp⟩ := split_at h
  have h1 := idx_split (q := q) hp
  have : ∀ {x : Nat} {l : List Nat}, x ∈ l → l[l.idxOf x]? = some x := fun {x l} hx => by
    obtain ⟨p, q, rfl, hp⟩ := split_at hx
    rw [idx_split hp]
    simp
  have a := this h
  have b := this h'
  rw [he, b] at a
  exact (Option.some.inj a).symm
theorem succ_inj {w : List Nat} (hn : w.Nodup) {e e' : Nat} (h : e ∈ w) (h' : e' ∈ w) (he : succ w e = succ w e') : e = e' := by
  rw [succ_nx, succ_nx] at he
  exact idx_inj h h' (nx_inj hn (idx_lt h) (idx_lt h') he)
/-- every end stands behind some gap -/
theorem nx_all {w : List Nat} (h : 0 < w.length) {x : Nat} (hx : x ∈ w) : ∃ g, g < w.length ∧ nx w g = x := by
  obtain ⟨i, hi, e⟩ := List.getElem_of_mem hx
  by_cases h0 : i = 0
  · refine ⟨w.length - 1, by omega, ?_⟩
    unfold nx
    have : (w.length - 1 + 1) % w.length = 0 := by rw [Nat.sub_add_cancel h, Nat.mod_self]
    rw [this, List.getD_eq_getElem?_getD, List.getElem?_eq_getElem h]
    subst h0
    exact e
  · refine ⟨i - 1, by omega, ?_⟩
    unfold nx
    have : (i - 1 + 1) % w.length = i := by rw [Nat.sub_add_cancel (by omega), Nat.mod_eq_of_lt hi]
    rw [this, List.getD_eq_getElem?_getD, List.getElem?_eq_getElem hi]
    exact e

section
variable {b : Nat → Nat} {w : List Nat}
theorem Bands.turn_inj (E : Bands b w) {x y : Nat} (hx : x ∈ w) (hy : y ∈ w) (h : turn b w x = turn b w y) : x = y :=
  E.inj hx hy (succ_inj E.nodup (E.mem x hx) (E.mem y hy) h)
theorem path_last {f : Nat → Nat} : ∀ {l : List Nat} {x y : Nat}, Path f x l y → ∃ u ∈ x :: l, f u = y
  | [], x, y, h => ⟨x, by simp, h⟩
  | z :: l, x, y, h => by
    obtain ⟨u, hu, e⟩ := path_last h.2
    exact ⟨u, List.mem_cons_of_mem _ hu, e⟩
/-- words found so far: rings, no letter twice -/
structure Found (b : Nat → Nat) (w : List Nat) (C : List (List Nat)) : Prop where
  cyc : ∀ c ∈ C, IsCyc (turn b w) c
  nodup : C.flatten.Nodup
  sub : ∀ x ∈ C.flatten, x ∈ w
theorem Found.back (F : Found b w C) (E : Bands b w) {x : Nat} (hx : x ∈ w) (h : turn b w x ∈ C.flatten) : x ∈ C.flatten := by
  obtain ⟨c, hc, hm⟩ := List.mem_flatten.mp h
  obtain ⟨xs, hp, hperm⟩ := cyc_rot (F.cyc c hc) hm
  obtain ⟨u, hu, e⟩ := path_last hp
  have hu' := hperm.mem_iff.mp hu
  have hu2 : u ∈ C.flatten := List.mem_flatten.mpr ⟨c, hc, hu'⟩
  rw [E.turn_inj hx (F.sub u hu2) e.symm]
  exact hu2
/-- a word begun at a gap, so far -/
structure Begun (b : Nat → Nat) (w F : List Nat) (g0 : Nat) (wd : List Nat) (g : Nat) : Prop where
  lt : g < w.length
  nodup : wd.Nodup
  sub : ∀ x ∈ wd, x ∈ w ∧ x ∉ F
  way : (wd = [] ∧ g = g0) ∨ ∃ x r, wd = x :: r ∧ x = nx w g0 ∧ Path (turn b w) x r (nx w g)
theorem Begun.start {F : List Nat} {g0 : Nat} (h : g0 < w.length) : Begun b w F g0 [] g0 := ⟨h, List.nodup_nil, (fun _ hx => nomatch hx), .inl ⟨rfl, rfl⟩⟩
theorem Begun.next {F : List Nat} {g0 g : Nat} {wd : List Nat} (B : Begun b w F g0 wd g) (E : Bands b w) (h1 : nx w g ∉ F) (h2 : nx w g ∉ wd) : Begun b w F g0 (wd ++ [nx w g]) (w.idxOf (b (nx w g))) := by
  have hm : nx w g ∈ w := nx_mem (by have := B.lt; omega) g
  refine ⟨idx_lt (E.mem _ hm), ?_, fun x hx => ?_, .inr ?_⟩
  · rw [List.nodup_append]
    refine ⟨B.nodup, by simp, fun x hx y hy e => ?_⟩
    have : y = nx w g := by simpa using hy
    subst this
    exact h2 (e ▸ hx)
  · rcases List.mem_append.mp hx with hx | hx
    · exact B.sub x hx
    · have : x = nx w g := by simpa using hx
      subst this
      exact ⟨hm, h1⟩
  · rcases B.way with ⟨rfl, rfl⟩ | ⟨x, r, rfl, e, p⟩
    · exact ⟨_, [], rfl, rfl, rfl⟩
    · exact ⟨x, r ++ [nx w g], rfl, e, path_app.mpr ⟨p, rfl⟩⟩
theorem Begun.more {F : List Nat} {g0 g : Nat} {wd : List Nat} (B : Begun b w F g0 wd g) (h2 : nx w g ∉ wd) : wd.length < w.length := by
  have hm : nx w g ∈ w := nx_mem (by have := B.lt; omega) g
  have : (nx w g :: wd).length ≤ w.length := nodup_le (List.nodup_cons.mpr ⟨h2, B.nodup⟩) fun x hx => by
    rcases List.mem_cons.mp hx with rfl | hx
    · exact hm
    · exact (B.sub x hx).1
  rw [List.length_cons] at this
  omega
/-- where it stops: a ring, or nothing -/
theorem Begun.stop {C : List (List Nat)} {g0 g : Nat} {wd : List Nat} (B : Begun b w C.flatten g0 wd g) (E : Bands b w) (Fd : Found b w C) (h : nx w g ∈ C.flatten ∨ nx w g ∈ wd) :
    (wd = [] ∧ nx w g0 ∈ C.flatten) ∨ (wd ≠ [] ∧ IsCyc (turn b w) wd ∧ nx w g0 ∈ wd) := by
  rcases B.way with ⟨rfl, rfl⟩ | ⟨x, r, rfl, e, p⟩
  · rcases h with h | h
    · exact .inl ⟨rfl, h⟩
    · simp at h
  · refine .inr ⟨by simp, ?_, by rw [← e]; simp⟩
    rcases h with h | h
    · obtain ⟨u, hu, eu⟩ := path_last p
      have hw := B.sub u hu
      exact absurd (Fd.back E hw.1 (eu ▸ h)) hw.2
    · rcases List.mem_cons.mp h with h | h
      · rw [h] at p
        exact p
      · obtain ⟨r1, r2, rfl, _⟩ := split_at h
        obtain ⟨p1, p2⟩ := path_app.mp p
        obtain ⟨u, hu, eu⟩ := path_last p1
        obtain ⟨v, hv, ev⟩ := path_last p2
        have hu' : u ∈ x :: (r1 ++ nx w g :: r2) := by
          rcases List.mem_cons.mp hu with h | h
          · rw [h]; simp
          · exact List.mem_cons_of_mem _ (List.mem_append_left _ h)
        have hv' : v ∈ x :: (r1 ++ nx w g :: r2) := List.mem_cons_of_mem _ (List.mem_append_right _ hv)
        have huv := E.turn_inj (B.sub u hu').1 (B.sub v hv').1 (eu.trans ev.symm)
        have hn : ((x :: r1) ++ (nx w g :: r2)).Nodup := B.nodup
        exact absurd huv ((List.nodup_append.mp hn).2.2 u hu v hv)
theorem Found.nil : Found b w [] := ⟨(fun _ h => nomatch h), List.nodup_nil, (fun _ h => nomatch h)⟩
theorem Found.snoc {C : List (List Nat)} {wd : List Nat} (F : Found b w C) (h : IsCyc (turn b w) wd) (hn : wd.Nodup) (hs : ∀ x ∈ wd, x ∈ w ∧ x ∉ C.flatten) : Found b w (C ++ [wd]) := by
  have e : (C ++ [wd]).flatten = C.flatten ++ wd := by simp
  refine ⟨fun c hc => ?_, ?_, fun x hx => ?_⟩
  · rcases List.mem_append.mp hc with hc | hc
    · exact F.cyc c hc
    · have : c = wd := by simpa using hc
      rw [this]; exact h
  · rw [e, List.nodup_append]
    exact ⟨F.nodup, hn, fun x hx y hy exy => (hs y hy).2 (exy ▸ hx)⟩
  · rw [e] at hx
    rcases List.mem_append.mp hx with hx | hx
    · exact F.sub x hx
    · exact (hs x hx).1
theorem Found.dec {C : List (List Nat)} (F : Found b w C) (h0 : 0 < w.length) (h : ∀ g, g < w.length → nx w g ∈ C.flatten) : Dec (turn b w) w C :=
  ⟨F.cyc, F.nodup, fun x => ⟨F.sub x, fun hx => by
    obtain ⟨g, hg, rfl⟩ := nx_all h0 hx
    exact h g hg⟩⟩
end
end K72
/-! K72, the letters: codes of a to f and A to F. -/
namespace K72
/-- a small, a big letter of so many -/
def Sm (n c : Nat) : Prop := 97 ≤ c ∧ c < 97 + n
def Bg (n c : Nat) : Prop := 65 ≤ c ∧ c < 65 + n
def Lt (n c : Nat) : Prop := Sm n c ∨ Bg n c
instance (n c : Nat) : Decidable (Sm n c) := inferInstanceAs (Decidable (_ ∧ _))
instance (n c : Nat) : Decidable (Bg n c) := inferInstanceAs (Decidable (_ ∧ _))
instance (n c : Nat) : Decidable (Lt n c) := inferInstanceAs (Decidable (_ ∨ _))
def bk (c : Nat) : Nat := if 97 ≤ c then c - 32 else c + 32
def num (c : Nat) : Nat := if 97 ≤ c then c - 97 else c - 65
def low (m c : Nat) : Nat := if num c > m then c - 1 else c
def bkW (l : List Nat) : List Nat := l.reverse.map bk
def ins (l : List Nat) (p c : Nat) : List Nat := l.take p ++ c :: l.drop p
theorem ins_len (l : List Nat) (p c : Nat) : (ins l p c).length = l.length + 1 := by
  unfold ins
  rw [List.length_append, List.length_cons, List.length_take, List.length_drop]
  omega
theorem lt6 {c : Nat} (h : Lt 6 c) : c = 97 ∨ c = 98 ∨ c = 99 ∨ c = 100 ∨ c = 101 ∨ c = 102 ∨ c = 65 ∨ c = 66 ∨ c = 67 ∨ c = 68 ∨ c = 69 ∨ c = 70 := by
  unfold Lt Sm Bg at h; omega
theorem Lt.mono {n m c : Nat} (h : Lt n c) (hnm : n ≤ m) : Lt m c := by
  unfold Lt Sm Bg at *; omega
theorem bk_lt {n c : Nat} (hn : n ≤ 6) (h : Lt n c) : Lt n (bk c) := by
  unfold Lt Sm Bg at *; unfold bk; split <;> omega
theorem bk_bk {n c : Nat} (hn : n ≤ 6) (h : Lt n c) : bk (bk c) = c := by
  unfold Lt Sm Bg at *; unfold bk; split <;> split <;> omega
theorem bk_ne {n c : Nat} (hn : n ≤ 6) (h : Lt n c) : bk c ≠ c := by
  unfold Lt Sm Bg at *; unfold bk; split <;> omega
theorem num_bk {n c : Nat} (hn : n ≤ 6) (h : Lt n c) : num (bk c) = num c := by
  unfold Lt Sm Bg at *; unfold bk num; split <;> split <;> omega
theorem num_lt {n c : Nat} (hn : n ≤ 6) (h : Lt n c) : num c < n := by
  unfold Lt Sm Bg at *; unfold num; split <;> omega
theorem num_spec (c : Nat) : (97 ≤ c → num c = c - 97) ∧ (c < 97 → num c = c - 65) := by
  unfold num; exact ⟨fun h => if_pos h, fun h => if_neg (by omega)⟩
theorem bk_spec (c : Nat) : (97 ≤ c → bk c = c - 32) ∧ (c < 97 → bk c = c + 32) := by
  unfold bk; exact ⟨fun h => if_pos h, fun h => if_neg (by omega)⟩
theorem low_spec (m c : Nat) : (num c > m → low m c = c - 1) ∧ (num c ≤ m → low m c = c) := by
  unfold low; exact ⟨fun h => if_pos h, fun h => if_neg (by omega)⟩
/-- of letters other than a and its back: named anew they are letters of one less -/
theorem low_lt {n a c : Nat} (hn : n ≤ 6) (ha : Lt n a) (hc : Lt n c) (h1 : c ≠ a) (h2 : c ≠ bk a) : Lt (n - 1) (low (num a) c) := by
  have s1 := num_spec a
  have s2 := num_spec c
  have s3 := bk_spec a
  have s4 := low_spec (num a) c
  unfold Lt Sm Bg at *
  omega
theorem low_bk {n m c : Nat} (hn : n ≤ 6) (hc : Lt n c) : low m (bk c) = bk (low m c) := by
  have s0 := num_bk hn hc
  have s2 := num_spec c
  have s3 := bk_spec c
  have s4 := low_spec m c
  have s5 := low_spec m (bk c)
  have s6 := bk_spec (low m c)
  unfold Lt Sm Bg at *
  omega
theorem low_inj {n a c d : Nat} (hn : n ≤ 6) (ha : Lt n a) (hc : Lt n c) (hd : Lt n d) (h1 : c ≠ a) (h2 : c ≠ bk a) (h3 : d ≠ a) (h4 : d ≠ bk a) (h : low (num a) c = low (num a) d) : c = d := by
  have s1 := num_spec a
  have s2 := num_spec c
  have s3 := num_spec d
  have s4 := bk_spec a
  have s5 := low_spec (num a) c
  have s6 := low_spec (num a) d
  unfold Lt Sm Bg at *
  rcases ha with ha | ha <;> rcases hc with hc | hc <;> rcases hd with hd | hd <;> omega
/-- whatever letter of one less is met -/
theorem low_all {n a c : Nat} (hn : n ≤ 6) (ha : Lt n a) (hc : Lt (n - 1) c) : ∃ d, Lt n d ∧ d ≠ a ∧ d ≠ bk a ∧ low (num a) d = c := by
  have hm := num_lt hn ha
  have s1 := num_spec a
  have s2 := num_spec c
  have s3 := num_spec (c + 1)
  have s4 := bk_spec a
  have s5 := low_spec (num a) c
  have s6 := low_spec (num a) (c + 1)
  have s7 := num_bk hn ha
  by_cases h : num c < num a
  · refine ⟨c, hc.mono (by omega), ?_, ?_, by omega⟩
    · intro e; rw [e] at h; omega
    · intro e; rw [e] at h; omega
  · refine ⟨c + 1, ?_, ?_, ?_, ?_⟩
    all_goals (unfold Lt Sm Bg at *; rcases ha with ha | ha <;> rcases hc with hc | hc <;> omega)
/-- a surface of so many letters -/
structure Surf (n : Nat) (w : List Nat) : Prop where
  nodup : w.Nodup
  mem : ∀ c, c ∈ w ↔ Lt n c
  len : w.length = 2 * n
  pos : 1 ≤ n
  le : n ≤ 6
theorem Surf.bands {n : Nat} {w : List Nat} (U : Surf n w) : Bands bk w :=
  ⟨U.nodup, fun x hx => (U.mem _).mpr (bk_lt U.le ((U.mem x).mp hx)), fun x hx => bk_bk U.le ((U.mem x).mp hx), fun x hx => bk_ne U.le ((U.mem x).mp hx)⟩
/-- the row behind a cut -/
def cutRow (w : List Nat) (a : Nat) : List Nat := (without bk w a).map (low (num a))
theorem Surf.cut {n : Nat} {w : List Nat} (U : Surf n w) (h2 : 2 ≤ n) {a : Nat} (ha : a ∈ w) : Surf (n - 1) (cutRow w a) := by
  have La := (U.mem a).mp ha
  refine ⟨?_, fun c => ?_, ?_, by omega, by have := U.le; omega⟩
  · refine nodup_map (fun x hx y hy e => ?_) (U.bands.without ha).nodup
    obtain ⟨p1, p2, p3⟩ := mem_without.mp hx
    obtain ⟨q1, q2, q3⟩ := mem_without.mp hy
    exact low_inj U.le La ((U.mem x).mp p1) ((U.mem y).mp q1) p2 p3 q2 q3 e
  · unfold cutRow
    rw [List.mem_map]
    constructor
    · rintro ⟨x, hx, rfl⟩
      obtain ⟨p1, p2, p3⟩ := mem_without.mp hx
      exact low_lt U.le La ((U.mem x).mp p1) p2 p3
    · intro h
      obtain ⟨d, h1, h2, h3, h4⟩ := low_all U.le La h
      exact ⟨d, mem_without.mpr ⟨(U.mem d).mpr h1, h2, h3⟩, h4⟩
  · unfold cutRow
    rw [List.length_map]
    have := U.bands.length_without ha
    have := U.len
    omega
/-- rings of the row behind a cut -/
theorem Surf.cut_dec {n : Nat} {w : List Nat} (U : Surf n w) {a : Nat} (ha : a ∈ w) {C : List (List Nat)} (d : Dec (turn bk (without bk w a)) (without bk w a) C) :
    Dec (turn bk (cutRow w a)) (cutRow w a) (C.map (List.map (low (num a)))) := by
  have La := (U.mem a).mp ha
  refine named (U.bands.without ha).mem (fun x hx y hy e => ?_) (fun x hx => ?_) d
  · obtain ⟨p1, p2, p3⟩ := mem_without.mp hx
    obtain ⟨q1, q2, q3⟩ := mem_without.mp hy
    exact low_inj U.le La ((U.mem x).mp p1) ((U.mem y).mp q1) p2 p3 q2 q3 e
  · exact (low_bk U.le ((U.mem x).mp (mem_without.mp hx).1)).symm

/-- glued again at the places where the ends stood: the row, its letters named anew -/
def back2 (a L c : Nat) : Nat := if c = a then L else if c = bk a then bk L else low (num a) c
theorem map_without {w : List Nat} {a L : Nat} (h1 : a ∉ w) (h2 : bk a ∉ w) : (without bk w a).map (low (num a)) = w.map (back2 a L) := by
  have e : without bk w a = w := by
    unfold without
    apply List.filter_eq_self.mpr
    intro x hx
    have c1 : x ≠ a := fun z => h1 (z ▸ hx)
    have c2 : x ≠ bk a := fun z => h2 (z ▸ hx)
    simp [c1, c2]
  rw [e]
  apply List.map_congr_left
  intro x hx
  have c1 : x ≠ a := fun z => h1 (z ▸ hx)
  have c2 : x ≠ bk a := fun z => h2 (z ▸ hx)
  unfold back2
  rw [if_neg c1, if_neg c2]
theorem without_app (u v : List Nat) (a : Nat) : without bk (u ++ v) a = without bk u a ++ without bk v a := List.filter_append ..
theorem without_a {v : List Nat} {a : Nat} : without bk (a :: v) a = without bk v a := by
  unfold without
  rw [List.filter_cons_of_neg (by simp)]
theorem without_b {v : List Nat} {a : Nat} : without bk (bk a :: v) a = without bk v a := by
  unfold without
  rw [List.filter_cons_of_neg (by simp)]
theorem ins_at (p q : List Nat) (c : Nat) : ins (p ++ q) p.length c = p ++ c :: q := by
  unfold ins
  rw [List.take_left, List.drop_left]
theorem Surf.glue {n : Nat} {w : List Nat} (U : Surf n w) {a L : Nat} (ha : a ∈ w) :
    ins (ins (cutRow w a) (w.idxOf a - (if w.idxOf (bk a) < w.idxOf a then 1 else 0)) L) (w.idxOf (bk a)) (bk L) = w.map (back2 a L) := by
  have La := (U.mem a).mp ha
  have hne := bk_ne U.le La
  have hb := U.bands.mem a ha
  have ea : back2 a L a = L := by unfold back2; rw [if_pos rfl]
  have eb : back2 a L (bk a) = bk L := by unfold back2; rw [if_neg hne, if_pos rfl]
  have hn := U.nodup
  obtain ⟨p, q, rfl, hp⟩ := split_at ha
  rw [idx_split hp]
  have hnn : bk a ∈ p ∨ bk a ∈ q := by
    rcases List.mem_append.mp hb with h | h
    · exact .inl h
    · rcases List.mem_cons.mp h with h | h
      · exact absurd h hne
      · exact .inr h
  have hd := List.nodup_append.mp hn
  have haq : a ∉ q := (List.nodup_cons.mp hd.2.1).1
  by_cases hbp : bk a ∈ p
  · -- the big end first
    obtain ⟨p1, p2, rfl, h1⟩ := split_at hbp
    have hq : bk a ∉ q := fun h => hd.2.2 (bk a) hbp (bk a) (List.mem_cons_of_mem _ h) rfl
    have hn1 := List.nodup_append.mp hd.1
    have hp2 : bk a ∉ p2 := (List.nodup_cons.mp hn1.2.1).1
    have a1 : a ∉ p1 := fun h => hp (List.mem_append_left _ h)
    have a2 : a ∉ p2 := fun h => hp (List.mem_append_right _ (List.mem_cons_of_mem _ h))
    have eidx : (p1 ++ bk a :: p2 ++ a :: q).idxOf (bk a) = p1.length := by
      rw [List.append_assoc, List.cons_append, idx_split h1]
    rw [eidx]
    have hlen : (p1 ++ bk a :: p2).length = p1.length + p2.length + 1 := by simp; omega
    rw [if_pos (by omega), hlen, Nat.add_sub_cancel]
    unfold cutRow
    rw [without_app, without_app, without_b, without_a, List.map_append, List.map_append, map_without (L := L) a1 h1, map_without (L := L) a2 hp2, map_without (L := L) haq hq]
    have e1 := ins_at (p1.map (back2 a L) ++ p2.map (back2 a L)) (q.map (back2 a L)) L
    rw [List.length_append, List.length_map, List.length_map] at e1
    rw [e1]
    have e2 := ins_at (p1.map (back2 a L)) (p2.map (back2 a L) ++ L :: q.map (back2 a L)) (bk L)
    rw [List.length_map] at e2
    rw [List.append_assoc, e2]
    simp [ea, eb]
  · -- the small end first
    have hbq : bk a ∈ q := by
      rcases hnn with h | h
      · exact absurd h hbp
      · exact h
    obtain ⟨q1, q2, rfl, h1⟩ := split_at hbq
    have hn1 := List.nodup_append.mp (List.nodup_cons.mp hd.2.1).2
    have hq2 : bk a ∉ q2 := (List.nodup_cons.mp hn1.2.1).1
    have a1 : a ∉ q1 := fun h => haq (List.mem_append_left _ h)
    have a2 : a ∉ q2 := fun h => haq (List.mem_append_right _ (List.mem_cons_of_mem _ h))
    have eidx : (p ++ a :: (q1 ++ bk a :: q2)).idxOf (bk a) = p.length + 1 + q1.length := by
      have e : p ++ a :: (q1 ++ bk a :: q2) = (p ++ a :: q1) ++ bk a :: q2 := by simp
      rw [e, idx_split]
      · simp; omega
      · intro h
        rcases List.mem_append.mp h with h | h
        · exact hbp h
        · rcases List.mem_cons.mp h with h | h
          · exact hne h
          · exact h1 h
    rw [eidx, if_neg (by omega), Nat.sub_zero]
    unfold cutRow
    rw [without_app, without_a, without_app, without_b, List.map_append, List.map_append, map_without (L := L) hp hbp, map_without (L := L) a1 h1, map_without (L := L) a2 hq2]
    have e1 := ins_at (p.map (back2 a L)) (q1.map (back2 a L) ++ q2.map (back2 a L)) L
    rw [List.length_map] at e1
    rw [e1]
    have e2 := ins_at (p.map (back2 a L) ++ L :: q1.map (back2 a L)) (q2.map (back2 a L)) (bk L)
    have e3 : (p.map (back2 a L) ++ L :: q1.map (back2 a L)).length = p.length + 1 + q1.length := by simp; omega
    rw [e3] at e2
    have e4 : p.map (back2 a L) ++ L :: (q1.map (back2 a L) ++ q2.map (back2 a L)) = (p.map (back2 a L) ++ L :: q1.map (back2 a L)) ++ q2.map (back2 a L) := by simp
    rw [e4, e2]
    simp [ea, eb]
theorem Surf.back2_inj {n : Nat} {w : List Nat} (U : Surf n w) {a : Nat} (ha : a ∈ w) {x y : Nat} (hx : x ∈ w) (hy : y ∈ w) (e : back2 a (97 + (n - 1)) x = back2 a (97 + (n - 1)) y) : x = y := by
  have La := (U.mem a).mp ha
  have hne := bk_ne U.le La
  have hn1 := U.pos
  have hn6 := U.le
  have bL : bk (97 + (n - 1)) = 65 + (n - 1) := by unfold bk; rw [if_pos (by omega)]; omega
  have lows : ∀ c, c ∈ w → c ≠ a → c ≠ bk a → Lt (n - 1) (low (num a) c) := fun c hc h1 h2 => low_lt U.le La ((U.mem c).mp hc) h1 h2
  have apart : ∀ c, Lt (n - 1) c → c ≠ 97 + (n - 1) ∧ c ≠ 65 + (n - 1) := fun c h => by
    unfold Lt Sm Bg at h; omega
  unfold back2 at e
  by_cases x1 : x = a
  · rw [if_pos x1] at e
    by_cases y1 : y = a
    · rw [x1, y1]
    · rw [if_neg y1] at e
      by_cases y2 : y = bk a
      · rw [if_pos y2, bL] at e; omega
      · rw [if_neg y2] at e
        exact absurd e.symm (apart _ (lows y hy y1 y2)).1
  · rw [if_neg x1] at e
    by_cases x2 : x = bk a
    · rw [if_pos x2] at e
      by_cases y1 : y = a
      · rw [if_pos y1, bL] at e; omega
      · rw [if_neg y1] at e
        by_cases y2 : y = bk a
        · rw [x2, y2]
        · rw [if_neg y2, bL] at e
          exact absurd e.symm (apart _ (lows y hy y1 y2)).2
    · rw [if_neg x2] at e
      by_cases y1 : y = a
      · rw [if_pos y1] at e
        exact absurd e (apart _ (lows x hx x1 x2)).1
      · rw [if_neg y1] at e
        by_cases y2 : y = bk a
        · rw [if_pos y2, bL] at e
          exact absurd e (apart _ (lows x hx x1 x2)).2
        · rw [if_neg y2] at e
          exact low_inj U.le La ((U.mem x).mp hx) ((U.mem y).mp hy) x1 x2 y1 y2 e
theorem Surf.back2_lt {n : Nat} {w : List Nat} (U : Surf n w) {a : Nat} (ha : a ∈ w) {x : Nat} (hx : x ∈ w) : Lt n (back2 a (97 + (n - 1)) x) := by
  have La := (U.mem a).mp ha
  have hn1 := U.pos
  have hn6 := U.le
  have bL : bk (97 + (n - 1)) = 65 + (n - 1) := by unfold bk; rw [if_pos (by omega)]; omega
  unfold back2
  by_cases x1 : x = a
  · rw [if_pos x1]
    exact .inl ⟨by omega, by omega⟩
  · rw [if_neg x1]
    by_cases x2 : x = bk a
    · rw [if_pos x2, bL]
      exact .inr ⟨by omega, by omega⟩
    · rw [if_neg x2]
      exact (low_lt U.le La ((U.mem x).mp hx) x1 x2).mono (by omega)
/-- .. so it has as many holes -/
theorem Surf.glue_dec {n : Nat} {w : List Nat} (U : Surf n w) {a : Nat} (ha : a ∈ w) (hs : 97 ≤ a) {C : List (List Nat)} (d : Dec (turn bk w) w C) :
    Dec (turn bk (w.map (back2 a (97 + (n - 1))))) (w.map (back2 a (97 + (n - 1)))) (C.map (List.map (back2 a (97 + (n - 1))))) := by
  have La := (U.mem a).mp ha
  have hne := bk_ne U.le La
  have hn1 := U.pos
  have hn6 := U.le
  have bL : bk (97 + (n - 1)) = 65 + (n - 1) := by unfold bk; rw [if_pos (by omega)]; omega
  refine named U.bands.mem (fun x hx y hy e => ?_) (fun x hx => ?_) d
  · exact U.back2_inj ha hx hy e
  · unfold back2
    by_cases x1 : x = a
    · rw [if_pos x1, x1, if_neg hne, if_pos rfl]
    · rw [if_neg x1]
      by_cases x2 : x = bk a
      · rw [if_pos x2, x2, bk_bk U.le La, if_pos rfl, bL]
        unfold bk; rw [if_neg (by omega)]; omega
      · have n1 : bk x ≠ a := fun h => x2 (by rw [← h, bk_bk U.le ((U.mem x).mp hx)])
        have n2 : bk x ≠ bk a := fun h => x1 (U.bands.inj hx ha h)
        rw [if_neg x2, if_neg n1, if_neg n2, low_bk U.le ((U.mem x).mp hx)]
end K72
/-! K72, the plain laws as the law asks them. -/
namespace K72
/-! ### holes -/
theorem one_place {x : Nat} : ∀ {C : List (List Nat)}, C.flatten.Nodup → x ∈ C.flatten → ∃ i, i < C.length ∧ ∀ k, k < C.length → (x ∈ C.getD k [] ↔ k = i)
  | [], _, h => by simp at h
  | c :: C, hn, h => by
    rw [List.flatten_cons] at hn h
    obtain ⟨n1, n2, n3⟩ := List.nodup_append.mp hn
    by_cases hc : x ∈ c
    · refine ⟨0, by simp, fun k hk => ?_⟩
      cases k with
      | zero => simp [hc]
      | succ k =>
        have hk' : k < C.length := by simpa using hk
        have e : (c :: C).getD (k + 1) [] = C[k] := by simp [List.getD, hk']
        rw [e]
        constructor
        · intro hx
          exact absurd rfl (n3 x hc x (List.mem_flatten.mpr ⟨_, List.getElem_mem hk', hx⟩))
        · intro e; omega
    · have hx : x ∈ C.flatten := by
        rcases List.mem_append.mp h with h | h
        · exact absurd h hc
        · exact h
      obtain ⟨i, hi, hk⟩ := one_place n2 hx
      refine ⟨i + 1, by simp; omega, fun k hk' => ?_⟩
      cases k with
      | zero => simp [hc]
      | succ k =>
        have e : (c :: C).getD (k + 1) [] = C.getD k [] := by simp [List.getD]
        rw [e, hk k (by simpa using hk')]
        omega
/-- the numbers, below so many, of the words in which a letter stands -/
def places (C : List (List Nat)) (x n : Nat) : List Nat := (List.range n).filter fun k => decide (x ∈ C.getD k [])
theorem places_succ (C : List (List Nat)) (x n : Nat) : places C x (n + 1) = if x ∈ C.getD n [] then places C x n ++ [n] else places C x n := by
  unfold places
  rw [List.range_succ, List.filter_append]
  by_cases h : x ∈ C.getD n []
  · rw [if_pos h, List.filter_cons_of_pos (by simpa using h)]; rfl
  · rw [if_neg h, List.filter_cons_of_neg (by simpa using h)]; simp
theorem places_none {C : List (List Nat)} {x : Nat} : ∀ {n : Nat}, (∀ k, k < n → x ∉ C.getD k []) → places C x n = []
  | 0, _ => rfl
  | n + 1, h => by rw [places_succ, if_neg (h n (by omega)), places_none fun k hk => h k (by omega)]
theorem places_one {C : List (List Nat)} {x i : Nat} : ∀ {n : Nat}, i < n → (∀ k, k < n → (x ∈ C.getD k [] ↔ k = i)) → places C x n = [i]
  | 0, h, _ => by omega
  | n + 1, h, hk => by
    rw [places_succ]
    by_cases e : n = i
    · rw [if_pos ((hk n (by omega)).mpr e), places_none fun k hk' => ?_, e]
      · rfl
      · intro hx
        have := (hk k (by omega)).mp hx
        omega
    · rw [if_neg fun hx => e ((hk n (by omega)).mp hx)]
      exact places_one (by omega) fun k hk' => hk k (by omega)
/-- all that is asked of the holes behind a cut -/
theorem holes_law {n : Nat} {w : List Nat} (U : Surf n w) (h2 : 2 ≤ n) {a : Nat} (ha : a ∈ w) {C : List (List Nat)} (d : Dec (turn bk w) w C) :
    ∃ i j, places C a C.length = [i] ∧ places C (bk a) C.length = [j] ∧
      (∀ {C2 : List (List Nat)}, Dec (turn bk (cutRow w a)) (cutRow w a) C2 → (C2.length : Int) = C.length + (if i = j then 1 else -1) ∧
        (C2.length + (n - 2)) % 2 = 0) := by
  have hb := U.bands.mem a ha
  obtain ⟨i, hi, pi⟩ := one_place d.nodup ((d.mem a).mpr ha)
  obtain ⟨j, hj, pj⟩ := one_place d.nodup ((d.mem (bk a)).mpr hb)
  refine ⟨i, j, places_one hi pi, places_one hj pj, fun {C2} d2 => ?_⟩
  have hl : 2 < w.length := by have := U.len; omega
  obtain ⟨C', d', k1, k2⟩ := cut_holes U.bands hl ha d
  have d3 := U.cut_dec ha d'
  have e := d2.unique d3
  rw [List.length_map] at e
  have same : (∃ c ∈ C, a ∈ c ∧ bk a ∈ c) ↔ i = j := by
    constructor
    · rintro ⟨c, hc, h1, h2⟩
      obtain ⟨k, hk, ek⟩ := List.getElem_of_mem hc
      have eg : C.getD k [] = c := by simp [List.getD, hk, ek]
      have e1 := (pi k hk).mp (by rw [eg]; exact h1)
      have e2 := (pj k hk).mp (by rw [eg]; exact h2)
      omega
    · rintro rfl
      have eg : C.getD i [] = C[i] := by simp [List.getD, hi]
      refine ⟨C[i], List.getElem_mem hi, ?_, ?_⟩
      · rw [← eg]; exact (pi i hi).mpr rfl
      · rw [← eg]; exact (pj i hi).mpr rfl
  constructor
  · by_cases c : i = j
    · rw [if_pos c]
      have := k1 (same.mpr c)
      omega
    · rw [if_neg c]
      have := k2 fun h => c (same.mp h)
      omega
  · have V := U.cut h2 ha
    have hlen := V.len
    exact parity (n - 2) V.bands (by omega) d2

/-! ### links -/
/-- a strand: the way's number, the place -/
abbrev Sd := Nat × Nat
def at_ (u : List Nat) (k : Int) : Nat := u.getD (k % (u.length : Int)).toNat 0
def letter (us : List (List Nat)) (s : Sd) (k : Int) : Nat := at_ (us.getD s.1 []) (s.2 + k)
def room (us : List (List Nat)) (s t : Sd) : Nat := (us.getD s.1 []).length + (us.getD t.1 []).length
def sl (i p j q : Int) : Bool := if i = j then (if p = q then false else decide (p < q)) else decide (i < j)
def rot (w : List Nat) (b : Nat) : List Nat := w.drop (w.idxOf b) ++ w.take (w.idxOf b)
def cf (w : List Nat) (b x y : Nat) : Bool := decide ((rot w b).idxOf x < (rot w b).idxOf y)
def isBeside (w : List Nat) (us : List (List Nat)) (s t : Sd) : Bool :=
  if !sl s.1 s.2 t.1 t.2 || !decide ([bk (letter us s 0), letter us s 1, bk (letter us t 0), letter us t 1].Nodup) then false
  else cf w (bk (letter us s 0)) (bk (letter us t 0)) (letter us s 1) != cf w (bk (letter us s 0)) (letter us t 1) (letter us s 1)
def isAlong (w : List Nat) (us : List (List Nat)) (s t : Sd) (m : Nat) : Bool :=
  if !sl s.1 s.2 t.1 t.2 || decide (m > room us s t) then false
  else if !(List.range m).all fun k => letter us s (k : Nat) == letter us t (k : Nat) then false
  else if letter us s (-1) == letter us t (-1) then false
  else if letter us s m == letter us t m then false
  else cf w (bk (letter us s (m - 1))) (letter us s m) (letter us t m) == cf w (letter us s 0) (bk (letter us s (-1))) (bk (letter us t (-1)))
def movedP (us : List (List Nat)) (t : Sd) (k : Int) : Int := (t.2 + k) % ((us.getD t.1 []).length : Int)
def isAgainst (w : List Nat) (us : List (List Nat)) (s t : Sd) (m : Nat) : Bool :=
  if decide (m > room us s t) || !sl s.1 s.2 t.1 (movedP us t (1 - m)) then false
  else if !(List.range m).all fun k => letter us s (k : Nat) == bk (letter us t (-(k : Nat))) then false
  else if letter us s (-1) == bk (letter us t 1) then false
  else if letter us s m == bk (letter us t (-m)) then false
  else cf w (bk (letter us s (m - 1))) (letter us s m) (bk (letter us t (-m))) == cf w (letter us s 0) (bk (letter us s (-1))) (letter us t 1)
/-- on from m, as long as p, so many more at most -/
def runTo (p : Nat → Bool) : Nat → Nat → Nat
  | 0, m => m
  | r + 1, m => if p m then runTo p r (m + 1) else m
def runA (us : List (List Nat)) (s t : Sd) : Nat := runTo (fun k => letter us s k == letter us t k) (room us s t) 0
def runB (us : List (List Nat)) (s t : Sd) : Nat := runTo (fun k => letter us s k == bk (letter us t (-(k : Nat)))) (room us s t) 0
def link1 (w : List Nat) (us : List (List Nat)) (s t : Sd) : Bool := isBeside w us s t
def link2 (w : List Nat) (us : List (List Nat)) (s t : Sd) : Bool := decide (0 < runA us s t) && isAlong w us s t (runA us s t)
def link3 (w : List Nat) (us : List (List Nat)) (s t : Sd) : Bool := decide (0 < runB us s t) && isAgainst w us s t (runB us s t)
def one (b : Bool) : Nat := if b then 1 else 0
def linkN (w : List Nat) (us : List (List Nat)) (s t : Sd) : Nat := one (link1 w us s t) + one (link2 w us s t) + one (link3 w us s t)
def sumTo (f : Nat → Nat) : Nat → Nat
  | 0 => 0
  | n + 1 => sumTo f n + f n
/-- how many links two ways have -/
def links (w : List Nat) (us : List (List Nat)) (i j : Nat) : Nat :=
  sumTo (fun p => sumTo (fun q => linkN w us (i, p) (j, q)) (us.getD j []).length) (us.getD i []).length

/-! ### the order in a row is kept when others go and letters are named anew -/
theorem idx_filter {p : Nat → Bool} {x y : Nat} (hx : p x = true) (hy : p y = true) : ∀ (l : List Nat), x ∈ l → y ∈ l → ((l.filter p).idxOf x < (l.filter p).idxOf y ↔ l.idxOf x < l.idxOf y)
  | [], h, _ => by simp at h
  | z :: l, h1, h2 => by
    by_cases ex : z = x
    · subst ex
      rw [List.filter_cons_of_pos hx]
      by_cases ey : z = y
      · subst ey; simp
      · have hb : (z == y) = false := by simpa using ey
        simp [List.idxOf_cons, hb]
    · have hxl : x ∈ l := by
        rcases List.mem_cons.mp h1 with h | h
        · exact absurd h.symm ex
        · exact h
      have bx : (z == x) = false := by simpa using ex
      by_cases ey : z = y
      · subst ey
        rw [List.filter_cons_of_pos hy]
        simp [List.idxOf_cons, bx]
      · have hyl : y ∈ l := by
          rcases List.mem_cons.mp h2 with h | h
          · exact absurd h.symm ey
          · exact h
        have byy : (z == y) = false := by simpa using ey
        have ih := idx_filter hx hy l hxl hyl
        by_cases hz : p z = true
        · rw [List.filter_cons_of_pos hz]
          simp [List.idxOf_cons, bx, byy, ih]
        · rw [List.filter_cons_of_neg hz, ih]
          simp [List.idxOf_cons, bx, byy]
theorem idx_map {φ : Nat → Nat} {x : Nat} : ∀ (l : List Nat), (∀ y ∈ l, φ y = φ x → y = x) → (l.map φ).idxOf (φ x) = l.idxOf x
  | [], _ => rfl
  | z :: l, h => by
    have ih := idx_map (φ := φ) (x := x) l fun y hy => h y (List.mem_cons_of_mem _ hy)
    rw [List.map_cons, List.idxOf_cons, List.idxOf_cons, ih]
    by_cases e : z = x
    · subst e; simp
    · have b1 : (z == x) = false := by simpa using e
      have b2 : (φ z == φ x) = false := by
        have : φ z ≠ φ x := fun q => e (h z (by simp) q)
        simpa using this
      rw [b1, b2]
theorem rot_split {p q : List Nat} {b : Nat} (h : b ∉ p) : rot (p ++ b :: q) b = b :: q ++ p := by
  unfold rot
  rw [idx_split h, List.drop_left, List.take_left]
section
variable {w : List Nat} {a : Nat} {n : Nat}
theorem low_on (U : Surf n w) (ha : a ∈ w) {x y : Nat} (hx : x ∈ without bk w a) (hy : y ∈ without bk w a) (h : low (num a) x = low (num a) y) : x = y := by
  obtain ⟨p1, p2, p3⟩ := mem_without.mp hx
  obtain ⟨q1, q2, q3⟩ := mem_without.mp hy
  exact low_inj U.le ((U.mem a).mp ha) ((U.mem x).mp p1) ((U.mem y).mp q1) p2 p3 q2 q3 h
theorem without_keep {b a : Nat} {q : List Nat} (h1 : b ≠ a) (h2 : b ≠ bk a) : without bk (b :: q) a = b :: without bk q a := by
  unfold without
  rw [List.filter_cons, if_pos (by simp [h1, h2])]
theorem cf_cut (U : Surf n w) (ha : a ∈ w) {b x y : Nat} (hb : b ∈ without bk w a) (hx : x ∈ without bk w a) (hy : y ∈ without bk w a) :
    cf (cutRow w a) (low (num a) b) (low (num a) x) (low (num a) y) = cf w b x y := by
  obtain ⟨b1, b2, b3⟩ := mem_without.mp hb
  obtain ⟨p, q, rfl, hp⟩ := split_at b1
  have ew : without bk (p ++ b :: q) a = without bk p a ++ b :: without bk q a := by
    rw [without_app, without_keep b2 b3]
  have hp' : low (num a) b ∉ (without bk p a).map (low (num a)) := by
    intro h
    obtain ⟨z, hz, e⟩ := List.mem_map.mp h
    have hz' : z ∈ without bk (p ++ b :: q) a := by rw [ew]; exact List.mem_append_left _ hz
    have := low_on U ha hz' hb e
    subst this
    exact hp (List.mem_filter.mp hz).1
  have er : rot (cutRow (p ++ b :: q) a) (low (num a) b) = (without bk (b :: q ++ p) a).map (low (num a)) := by
    unfold cutRow
    rw [ew, List.map_append, List.map_cons, rot_split hp', without_app, without_keep b2 b3]
    simp
  unfold cf
  rw [er, rot_split hp]
  have mm : ∀ z, z ∈ without bk (b :: q ++ p) a ↔ z ∈ without bk (p ++ b :: q) a := fun z => by
    rw [mem_without, mem_without]
    have : z ∈ b :: q ++ p ↔ z ∈ p ++ b :: q := (List.perm_append_comm (l₁ := b :: q) (l₂ := p)).mem_iff
    rw [this]
  have i1 := idx_map (φ := low (num a)) (x := x) (without bk (b :: q ++ p) a) fun z hz e => low_on U ha ((mm z).mp hz) hx e
  have i2 := idx_map (φ := low (num a)) (x := y) (without bk (b :: q ++ p) a) fun z hz e => low_on U ha ((mm z).mp hz) hy e
  rw [i1, i2]
  have kx := mem_without.mp ((mm x).mpr hx)
  have ky := mem_without.mp ((mm y).mpr hy)
  have := idx_filter (p := fun x => decide (x ≠ a ∧ x ≠ bk a)) (x := x) (y := y) (by simp [kx.2]) (by simp [ky.2]) (b :: q ++ p) kx.1 ky.1
  exact decide_eq_decide.mpr this
end

/-! ### ways that go over -/
structure Ways (D : List Nat) (us : List (List Nat)) : Prop where
  mem : ∀ u ∈ us, ∀ c ∈ u, c ∈ D
  ne : ∀ u ∈ us, u ≠ []
theorem at_mem {u : List Nat} (h : u ≠ []) (k : Int) : at_ u k ∈ u := by
  unfold at_
  have hp : 0 < u.length := List.length_pos_iff.mpr h
  have h1 : 0 ≤ k % (u.length : Int) := Int.emod_nonneg _ (by omega)
  have h2 : k % (u.length : Int) < u.length := Int.emod_lt_of_pos _ (by omega)
  have hl : (k % (u.length : Int)).toNat < u.length := by omega
  rw [List.getD_eq_getElem?_getD, List.getElem?_eq_getElem hl]
  exact List.getElem_mem hl
theorem at_map {φ : Nat → Nat} {u : List Nat} (h : u ≠ []) (k : Int) : at_ (u.map φ) k = φ (at_ u k) := by
  unfold at_
  rw [List.length_map]
  have hp : 0 < u.length := List.length_pos_iff.mpr h
  have h1 : 0 ≤ k % (u.length : Int) := Int.emod_nonneg _ (by omega)
  have h2 : k % (u.length : Int) < u.length := Int.emod_lt_of_pos _ (by omega)
  have hl : (k % (u.length : Int)).toNat < u.length := by omega
  simp [List.getD, hl]
theorem getD_map {φ : Nat → Nat} (us : List (List Nat)) (i : Nat) : (us.map (List.map φ)).getD i [] = (us.getD i []).map φ := by
  simp [List.getD]
  cases us[i]? <;> simp
theorem runTo_congr {p p' : Nat → Bool} (h : ∀ k, p k = p' k) : ∀ r m, runTo p r m = runTo p' r m
  | 0, _ => rfl
  | r + 1, m => by unfold runTo; rw [h, runTo_congr h r]
theorem sumTo_congr {f g : Nat → Nat} : ∀ {n : Nat}, (∀ k, k < n → f k = g k) → sumTo f n = sumTo g n
  | 0, _ => rfl
  | n + 1, h => by unfold sumTo; rw [h n (by omega), sumTo_congr fun k hk => h k (by omega)]
section
variable {w : List Nat} {a : Nat} {n : Nat} {us : List (List Nat)}
theorem links_cut (U : Surf n w) (ha : a ∈ w) (W : Ways (without bk w a) us) {i j : Nat} (hi : i < us.length) (hj : j < us.length) :
    links (cutRow w a) (us.map (List.map (low (num a)))) i j = links w us i j := by
  have E := U.bands.without ha
  have hu : ∀ {k}, k < us.length → us.getD k [] ∈ us := fun {k} hk => by
    rw [List.getD_eq_getElem?_getD, List.getElem?_eq_getElem hk]
    exact List.getElem_mem hk
  have lm : ∀ {k : Nat} (p : Nat) (z : Int), k < us.length → letter us (k, p) z ∈ without bk w a := fun {k} p z hk => W.mem _ (hu hk) _ (at_mem (W.ne _ (hu hk)) _)
  have le : ∀ {k : Nat} (p : Nat) (z : Int), k < us.length → letter (us.map (List.map (low (num a)))) (k, p) z = low (num a) (letter us (k, p) z) := fun {k} p z hk => by
    unfold letter
    rw [getD_map, at_map (W.ne _ (hu hk))]
  have bl : ∀ {x}, x ∈ without bk w a → bk (low (num a) x) = low (num a) (bk x) := fun {x} hx => (low_bk U.le ((U.mem x).mp (mem_without.mp hx).1)).symm
  have eqv : ∀ {x y}, x ∈ without bk w a → y ∈ without bk w a → (low (num a) x == low (num a) y) = (x == y) := fun {x y} hx hy => by
    by_cases e : x = y
    · subst e; simp
    · have e2 : low (num a) x ≠ low (num a) y := fun q => e (low_on U ha hx hy q)
      have b1 : (x == y) = false := by simpa using e
      have b2 : (low (num a) x == low (num a) y) = false := by simpa using e2
      rw [b1, b2]
  have rm : ∀ s t : Sd, room (us.map (List.map (low (num a)))) s t = room us s t := fun s t => by
    unfold room
    rw [getD_map, getD_map, List.length_map, List.length_map]
  have mv : ∀ (t : Sd) (k : Int), movedP (us.map (List.map (low (num a)))) t k = movedP us t k := fun t k => by
    unfold movedP
    rw [getD_map, List.length_map]
  have key : ∀ p q, linkN (cutRow w a) (us.map (List.map (low (num a)))) (i, p) (j, q) = linkN w us (i, p) (j, q) := by
    intro p q
    have ra : runA (us.map (List.map (low (num a)))) (i, p) (j, q) = runA us (i, p) (j, q) := by
      unfold runA
      rw [rm]
      exact runTo_congr (fun k => by rw [le p _ hi, le q _ hj, eqv (lm p _ hi) (lm q _ hj)]) _ _
    have rb : runB (us.map (List.map (low (num a)))) (i, p) (j, q) = runB us (i, p) (j, q) := by
      unfold runB
      rw [rm]
      exact runTo_congr (fun k => by rw [le p _ hi, le q _ hj, bl (lm q _ hj), eqv (lm p _ hi) (E.mem _ (lm q _ hj))]) _ _
    have l1 : isBeside (cutRow w a) (us.map (List.map (low (num a)))) (i, p) (j, q) = isBeside w us (i, p) (j, q) := by
      unfold isBeside
      rw [le p 0 hi, le p 1 hi, le q 0 hj, le q 1 hj, bl (lm p 0 hi), bl (lm q 0 hj), cf_cut U ha (E.mem _ (lm p 0 hi)) (E.mem _ (lm q 0 hj)) (lm p 1 hi), cf_cut U ha (E.mem _ (lm p 0 hi)) (lm q 1 hj) (lm p 1 hi)]
      have nd : ([low (num a) (bk (letter us (i, p) 0)), low (num a) (letter us (i, p) 1), low (num a) (bk (letter us (j, q) 0)), low (num a) (letter us (j, q) 1)].Nodup) ↔
          [bk (letter us (i, p) 0), letter us (i, p) 1, bk (letter us (j, q) 0), letter us (j, q) 1].Nodup := by
        have ne : ∀ {x y}, x ∈ without bk w a → y ∈ without bk w a → (low (num a) x = low (num a) y ↔ x = y) := fun hx hy => ⟨low_on U ha hx hy, fun e => by rw [e]⟩
        have m1 := E.mem _ (lm p 0 hi)
        have m2 := lm p 1 hi
        have m3 := E.mem _ (lm q 0 hj)
        have m4 := lm q 1 hj
        simp only [List.nodup_cons, List.mem_cons, List.not_mem_nil, or_false, not_or, ne m1 m2, ne m1 m3, ne m1 m4, ne m2 m3, ne m2 m4, ne m3 m4]
      rw [decide_eq_decide.mpr nd]
    have l2 : ∀ m : Nat, isAlong (cutRow w a) (us.map (List.map (low (num a)))) (i, p) (j, q) m = isAlong w us (i, p) (j, q) m := by
      intro m
      unfold isAlong
      have e1 : (fun k : Nat => letter (us.map (List.map (low (num a)))) (i, p) (k : Nat) == letter (us.map (List.map (low (num a)))) (j, q) (k : Nat)) = fun k : Nat => letter us (i, p) (k : Nat) == letter us (j, q) (k : Nat) := by
        funext k
        rw [le p _ hi, le q _ hj, eqv (lm p _ hi) (lm q _ hj)]
      rw [rm, e1, le p (-1) hi, le q (-1) hj, le p m hi, le q m hj, le p (m - 1) hi, le p 0 hi, eqv (lm p _ hi) (lm q _ hj), eqv (lm p _ hi) (lm q _ hj), bl (lm p _ hi), bl (lm p _ hi), bl (lm q _ hj),
        cf_cut U ha (E.mem _ (lm p _ hi)) (lm p _ hi) (lm q _ hj), cf_cut U ha (lm p _ hi) (E.mem _ (lm p _ hi)) (E.mem _ (lm q _ hj))]
    have l3 : ∀ m : Nat, isAgainst (cutRow w a) (us.map (List.map (low (num a)))) (i, p) (j, q) m = isAgainst w us (i, p) (j, q) m := by
      intro m
      unfold isAgainst
      have e1 : (fun k : Nat => letter (us.map (List.map (low (num a)))) (i, p) (k : Nat) == bk (letter (us.map (List.map (low (num a)))) (j, q) (-(k : Nat)))) = fun k : Nat => letter us (i, p) (k : Nat) == bk (letter us (j, q) (-(k : Nat))) := by
        funext k
        rw [le p _ hi, le q _ hj, bl (lm q _ hj), eqv (lm p _ hi) (E.mem _ (lm q _ hj))]
      rw [rm, mv, e1, le p (-1) hi, le q 1 hj, le p m hi, le q (-m) hj, le p (m - 1) hi, le p 0 hi, bl (lm q _ hj), bl (lm q _ hj), eqv (lm p _ hi) (E.mem _ (lm q _ hj)), eqv (lm p _ hi) (E.mem _ (lm q _ hj)), bl (lm p _ hi), bl (lm p _ hi),
        cf_cut U ha (E.mem _ (lm p _ hi)) (lm p _ hi) (E.mem _ (lm q _ hj)), cf_cut U ha (lm p _ hi) (E.mem _ (lm p _ hi)) (lm q _ hj)]
    unfold linkN link1 link2 link3
    rw [l1, ra, rb, l2, l3]
  unfold links
  rw [getD_map, getD_map, List.length_map, List.length_map]
  exact sumTo_congr fun p _ => sumTo_congr fun q _ => key p q
end
/-- the back of a word goes over to the back -/
theorem back_cut {n a : Nat} {l : List Nat} (hn : n ≤ 6) (h : ∀ c ∈ l, Lt n c) : (bkW l).map (low (num a)) = bkW (l.map (low (num a))) := by
  unfold bkW
  rw [List.map_map, ← List.map_reverse, List.map_map]
  refine List.map_congr_left fun c hc => ?_
  exact low_bk hn (h c (List.mem_reverse.mp hc))
end K72
namespace K72
def lettersOf (m : Nat) : List Nat := ([97, 98, 99, 100, 101, 102] : List Nat).take m ++ ([65, 66, 67, 68, 69, 70] : List Nat).take m
theorem letters_nodup {m : Nat} (h : m ≤ 6) : (lettersOf m).Nodup := by
  have : m = 0 ∨ m = 1 ∨ m = 2 ∨ m = 3 ∨ m = 4 ∨ m = 5 ∨ m = 6 := by omega
  rcases this with h | h | h | h | h | h | h <;> subst h <;> decide
theorem letters_len {m : Nat} (h : m ≤ 6) : (lettersOf m).length = 2 * m := by
  have : m = 0 ∨ m = 1 ∨ m = 2 ∨ m = 3 ∨ m = 4 ∨ m = 5 ∨ m = 6 := by omega
  rcases this with h | h | h | h | h | h | h <;> subst h <;> decide
theorem letters_mem {m c : Nat} (h : m ≤ 6) : c ∈ lettersOf m ↔ Lt m c := by
  have : m = 0 ∨ m = 1 ∨ m = 2 ∨ m = 3 ∨ m = 4 ∨ m = 5 ∨ m = 6 := by omega
  unfold lettersOf Lt Sm Bg
  rcases this with h | h | h | h | h | h | h <;> subst h <;> simp <;> omega
theorem surf_perm {m : Nat} {w : List Nat} (h1 : 1 ≤ m) (h6 : m ≤ 6) (p : List.Perm w (lettersOf m)) : Surf m w where
  nodup := p.nodup_iff.mpr (letters_nodup h6)
  mem := fun c => by rw [p.mem_iff]; exact letters_mem h6
  len := by rw [p.length_eq, letters_len h6]
  pos := h1
  le := h6
/-- letters, each once, as many as there are: a surface -/
theorem surf_of {m : Nat} {w : List Nat} (h1 : 1 ≤ m) (h6 : m ≤ 6) (hn : w.Nodup) (hl : w.length = 2 * m) (hm : ∀ c ∈ w, Lt m c) : Surf m w where
  nodup := hn
  mem := fun c => by
    refine ⟨hm c, fun h => Decidable.byContradiction fun no => ?_⟩
    have := nodup_le (l := c :: w) (D := lettersOf m) (List.nodup_cons.mpr ⟨no, hn⟩) fun x hx => by
      rcases List.mem_cons.mp hx with rfl | hx
      · exact (letters_mem h6).mpr h
      · exact (letters_mem h6).mpr (hm x hx)
    rw [letters_len h6, List.length_cons, hl] at this
    omega
  len := hl
  pos := h1
  le := h6
theorem Surf.glue_surf {n : Nat} {w : List Nat} (U : Surf n w) {a : Nat} (ha : a ∈ w) : Surf n (w.map (back2 a (97 + (n - 1)))) :=
  surf_of U.pos U.le (nodup_map (fun x hx y hy e => U.back2_inj ha hx hy e) U.nodup) (by rw [List.length_map]; exact U.len) fun c hc => by
    obtain ⟨x, hx, rfl⟩ := List.mem_map.mp hc
    exact U.back2_lt ha hx
/-- a new band set in: a surface -/
theorem Surf.more {n : Nat} {w : List Nat} (U : Surf n w) (h5 : n ≤ 5) (p q : Nat) : Surf (n + 1) (ins (ins w p (97 + n)) q (65 + n)) := by
  have pm : ∀ (l : List Nat) (p c : Nat), List.Perm (ins l p c) (c :: l) := fun l p c => by
    unfold ins
    refine List.perm_middle.trans ?_
    rw [List.take_append_drop]
  have h1 := (pm (ins w p (97 + n)) q (65 + n)).trans ((pm w p (97 + n)).cons (65 + n))
  have no1 : 97 + n ∉ w := fun h => by
    have := (U.mem _).mp h
    unfold Lt Sm Bg at this
    omega
  have no2 : 65 + n ∉ w := fun h => by
    have := (U.mem _).mp h
    unfold Lt Sm Bg at this
    omega
  refine surf_of (by omega) (by omega) (h1.nodup_iff.mpr ?_) ?_ fun c hc => ?_
  · rw [List.nodup_cons, List.nodup_cons]
    refine ⟨fun h => ?_, no1, U.nodup⟩
    rcases List.mem_cons.mp h with h | h
    · omega
    · exact no2 h
  · rw [h1.length_eq, List.length_cons, List.length_cons, U.len]
    omega
  · rcases List.mem_cons.mp (h1.mem_iff.mp hc) with rfl | hc
    · exact .inr ⟨by omega, by omega⟩
    rcases List.mem_cons.mp hc with rfl | hc
    · exact .inl ⟨by omega, by omega⟩
    · exact ((U.mem c).mp hc).mono (by omega)
end K72
namespace K72
open PySem PySem.Spec PyProof.Rows L2
def topS (i : Nat) : Stmt := PySem.Challenge.pw_ringwords_k72_whole_cut_and_glued.main.body.getD i (.Pass ⟨0, 0, 0, 0⟩)
/-- a text by its codes -/
def S (l : List Nat) : Str := ⟨l.toArray⟩
theorem tl_S (l : List Nat) : (S l).cps.toList = l := rfl
theorem S_len (l : List Nat) : (S l).length = l.length := by unfold S Str.length; simp
theorem S_app (a b : List Nat) : S a ++ S b = S (a ++ b) := TL.ext_tl (by rw [TL.tl_append]; rfl)
theorem S_inj {a b : List Nat} (h : S a = S b) : a = b := by
  have := congrArg (fun z : Str => z.cps.toList) h
  exact this
theorem S_of (z : Str) : z = S z.cps.toList := TL.ext_tl rfl
theorem S_one (c : Nat) : (⟨#[c]⟩ : Str) = S [c] := rfl
def smallS : List Nat := [97, 98, 99, 100, 101, 102]
def bigS : List Nat := [65, 66, 67, 68, 69, 70]
theorem lit_small : (("abcdef" : String) : Str) = S smallS := by decide +kernel
theorem lit_big : (("ABCDEF" : String) : Str) = S bigS := by decide +kernel
theorem lit_nil : (("" : String) : Str) = S [] := by decide +kernel
theorem low_of {c : Nat} (h : Lt 6 c) : Txt.lower (S [c]) = S [num c + 97] := by
  rcases lt6 h with h | h | h | h | h | h | h | h | h | h | h | h <;> subst h <;> decide +kernel
theorem up_of {c : Nat} (h : Lt 6 c) : Txt.upper (S [c]) = S [num c + 65] := by
  rcases lt6 h with h | h | h | h | h | h | h | h | h | h | h | h <;> subst h <;> decide +kernel

/-! ### defs by their names -/
/-- a def that may be called by its name -/
structure Cl (P : Program) (w : World) (K : PySem.W.Frag) (mg : Str → Option Value) (base : Heap) (k : Nat) (x : Str) (sp : Sp) : Prop where
  ex : ∃ (f : Addr) (fd : FuncData) (ps : List Str), FnOk P w K mg base CX0 k f fd ps sp ∧ mg x = some (.ref f) ∧ PySem.W.keepIn K (.ref f) = true ∧ Binds K fd ps []
/-- a def of the module as the top has left it -/
structure Df (K : PySem.W.Frag) (mg : Str → Option Value) (x : Str) (i : Nat) (f : Addr) (fd : FuncData) : Prop where
  fn : Fun K x x (topS i) f fd
  mgf : mg x = some (.ref f)
theorem Df.cl {P : Program} {w : World} {K : PySem.W.Frag} {mg : Str → Option Value} {base : Heap} {x : Str} {i : Nat} {f : Addr} {fd : FuncData} {ps : List Str} {k : Nat} {sp : Sp} (D : Df K mg x i f fd) (F : FnOk P w K mg base CX0 k f fd ps sp)
    (b : Binds K fd ps []) : Cl P w K mg base k x sp := ⟨f, fd, ps, F, D.mgf, D.fn.kp, b⟩
section
variable {X : Cx} {k j : Nat} {x : Str} {sp : Sp} {p pos : Pos} {e : Expr} {es : List Expr} {t : TA}
theorem pc (c : Cl X.prog X.w X.K X.mg X.base k x sp) (hr : Room j X.A) (hk : k ≤ j) (ha : PA X (e :: es) t) (hg : Gl X x := by rfl) (hdb : (x == ("__debug__" : Str)) = false := by decide)
    (he : starEach (e :: es) X.env = (false, eval e X.env) :: starEach es X.env := by rfl) (hpl : (backTo pos (starEach es X.env)).any (·.1) = false := by rfl) : PE X (.Call (.Name x p) (e :: es) [] pos) (tCall sp [] E0 t) := by
  obtain ⟨f, fd, ps, F, hm, kp, b⟩ := c.ex
  exact pe_call F (hr.mono hk) hg hm kp b .nil pass0 ha hdb he hpl
end
/-- the module's texts -/
structure Tx (mg : Str → Option Value) : Prop where
  small : ∃ t, mg "SMALL" = some (.str (S smallS) t)
  big : ∃ t, mg "BIG" = some (.str (S bigS) t)
  most : ∃ t, mg "MOST_ENDS" = some (.int 12 t)
  len : mg "len" = none
  int : mg "int" = none
  range : mg "range" = none
  isinstance : mg "isinstance" = none
  tuple : mg "tuple" = none
  str : mg "str" = none
  bool : mg "bool" = none
  all : mg "all" = none
  set : mg "set" = none
  sorted : mg "sorted" = none
  list : mg "list" = none

theorem _root_.L2.Same.put {H H' : Hp} {D : Addr} {o : HO} (s : Same H H') (n : H D = none) : Same H (upd H' D o) := fun b x e => by
  rw [upd_ne (ne_of_none e n)]
  exact s b x e
/-- a for over a text, sign by sign -/
theorem for_text {l : List Nat} {g : TG} {tb : TS} {D : Ends} {σ : L2.St} {H : Hp} (Pv : Nat → L2.St → Hp → Prop) (h0 : Pv 0 σ H)
    (hs : ∀ i c σ H, l[i]? = some c → Pv i σ H → g (.str (S [c])) σ H fun σ2 H2 => tb { D with nx := Pv (i + 1), ct := Pv (i + 1), bk := D.nx } σ2 H2) (hd : ∀ σ H, Pv l.length σ H → D.nx σ H) :
    ∃ W : Nat → Nat → L2.St → Hp → Prop, (∃ m, W 0 m σ H) ∧ ∀ i m σ H, W i m σ H →
      ((Its (S l)).stop i H ∧ D.nx σ H) ∨ ((Its (S l)).go i H ∧ ∃ N : L2.St → Hp → Prop, (∀ σ' H', N σ' H' → ∃ m', m' < m ∧ W (i + 1) m' σ' H') ∧ ∀ x H', (Its (S l)).yld i H x H' → g x σ H' fun σ2 H2 => tb { D with nx := N, ct := N, bk := D.nx } σ2 H2) := by
  have hz : (S l).cps.size = l.length := by simp [S]
  refine for_it (walk_str (z := S l)) Pv h0 (fun _ _ _ _ _ => trivial) (fun i x σ H H' hi p y => ?_) (fun σ H p => hd σ H (by rw [← hz]; exact p))
  obtain ⟨rfl, c, hc, rfl⟩ := y
  refine hs i c σ _ ?_ p
  rw [← hc, ← Array.getElem?_toList]
  rfl
/-- a comprehension over a text -/
theorem lc_text {l : List Nat} {g : TG} {tt : TT} {te : TE} {vs : List Nat} {σ : L2.St} {H1 : Hp} {D : Addr} {Qd : Hp → Prop} (Pv : Nat → Hp → Prop) (h0 : Pv 0 (upd H1 D (.lst [])))
    (hs : ∀ i c H, l[i]? = some c → Pv i H → g (.str (S [c])) (wipe σ vs) H fun σ2 H2 => wipe σ2 vs = wipe σ vs ∧ tt σ2 H2 fun b H3 =>
      if b = true then te σ2 H3 fun y H4 => ∃ acc, H4 D = some (.lst acc) ∧ acc.length < sizeLine ∧ Pv (i + 1) (upd H4 D (.lst (acc ++ [y]))) else Pv (i + 1) H3) (hd : ∀ H, Pv l.length H → Qd H) :
    ∃ W : Nat → Nat → Hp → Prop, (∃ m, W 0 m (upd H1 D (.lst []))) ∧ ∀ i m H, W i m H →
      ((Its (S l)).stop i H ∧ Qd H) ∨ ((Its (S l)).go i H ∧ ∃ Nx : Hp → Prop, (∀ H', Nx H' → ∃ m', m' < m ∧ W (i + 1) m' H') ∧ ∀ x H', (Its (S l)).yld i H x H' → g x (wipe σ vs) H' fun σ2 H2 => wipe σ2 vs = wipe σ vs ∧ tt σ2 H2 fun b H3 =>
        if b = true then te σ2 H3 fun y H4 => ∃ acc, H4 D = some (.lst acc) ∧ acc.length < sizeLine ∧ Nx (upd H4 D (.lst (acc ++ [y]))) else Nx H3) := by
  have hz : (S l).cps.size = l.length := by simp [S]
  refine lc_it (walk_str (z := S l)) Pv h0 (fun _ _ _ _ => trivial) (fun i x H H' hi p y => ?_) (fun H p => hd H (by rw [← hz]; exact p))
  obtain ⟨rfl, c, hc, rfl⟩ := y
  refine hs i c _ ?_ p
  rw [← hc, ← Array.getElem?_toList]
  rfl
theorem take_snoc {α : Type} {l : List α} {i : Nat} {c : α} (h : l[i]? = some c) : l.take (i + 1) = l.take i ++ [c] := by
  rw [List.take_add_one, h]
  rfl
theorem joinL_flat : ∀ ls : List (List Nat), TL.joinL [] ls = ls.flatten
  | [] => rfl
  | [a] => by simp [TL.joinL]
  | a :: b :: r => by
    have ih := joinL_flat (b :: r)
    show a ++ ([] ++ TL.joinL [] (b :: r)) = _
    rw [ih]
    simp
theorem join_S (ls : List (List Nat)) : Txt.join (S []) (ls.map S) = S ls.flatten := by
  refine TL.ext_tl ?_
  rw [TL.join_eq, TL.tl_join, List.map_map]
  have : (TL.tl ∘ S) = (id : List Nat → List Nat) := rfl
  rw [this, List.map_id]
  exact joinL_flat ls
theorem goF {b : Bool} {A B : Prop} (h : b = false) (q : B) : if b = true then A else B := by
  rw [h]
  exact iteF q
theorem goT {b : Bool} {A B : Prop} (h : b = true) (q : A) : if b = true then A else B := by
  rw [h]
  exact iteT q
theorem cutS_to (l : List Nat) (p : Nat) : cutS (S l) none (some (p : Int)) = S (l.take p) := by
  unfold cutS
  rw [HT.sIx_none, HT.sIx_nat, tl_S, S_len, List.drop_zero, Nat.sub_zero]
  refine TL.ext_tl ?_
  show l.take (min p l.length) = l.take p
  by_cases h : p ≤ l.length
  · rw [Nat.min_eq_left h]
  · rw [Nat.min_eq_right (by omega), List.take_of_length_le (Nat.le_refl _), List.take_of_length_le (by omega)]
theorem cutS_from (l : List Nat) (p : Nat) : cutS (S l) (some (p : Int)) none = S (l.drop p) := by
  unfold cutS
  rw [HT.sIx_none, HT.sIx_nat, tl_S, S_len]
  refine TL.ext_tl ?_
  show (l.drop (min p l.length)).take (l.length - min p l.length) = l.drop p
  by_cases h : p ≤ l.length
  · rw [Nat.min_eq_left h, List.take_of_length_le]
    rw [List.length_drop]
    exact Nat.le_refl _
  · rw [Nat.min_eq_right (by omega), List.drop_of_length_le (Nat.le_refl _), List.drop_of_length_le (by omega)]
    simp
end K72
namespace K72
open PySem PySem.Spec PyProof.Rows L2
section
variable {X : Cx}

/-! ### text[::-1] -/
theorem rev_pick (x : Str) : ((Builtin.Str.strSliceIndices none none (-1) x.length).filterMap (x.cps[·]?)).toArray = x.cps.toList.reverse.toArray := by
  have e : Builtin.Str.strSliceIndices none none (-1) x.length = sliceRange ((x.length : Int) - 1) (-1) (-1) := by
    unfold Builtin.Str.strSliceIndices
    simp
  rw [e]
  show ((sliceRange ((x.cps.size : Int) - 1) (-1) (-1)).filterMap (x.cps[·]?)).toArray = _
  rw [PySem.W.krv_sliceRange, PySem.W.krv_range, List.filterMap_reverse, PySem.W.krv_all]
def tRevS (te : TE) : TE := fun σ H Q => te σ H fun x H1 => ∃ z : Str, x = .str z ∧ z.length ≤ sizeLine ∧ Q (.str (S z.cps.toList.reverse)) H1
theorem pe_revS {e : Expr} {te : TE} {k : Nat} {p1 p2 p3 pos : Pos} (he : PE X e te) :
    PE X (.Subscript e (.Slice none none (some (.UnaryOp .USub (.Constant (.int 1) k p1) p2)) p3) pos) (tRevS te) := by
  refine ⟨fun pins s σ H Q I h => Subscript_ (thn (he.run pins s σ H _ I h) ?_)⟩
  rintro v s1 ⟨x, H1, I1, r1, z, ez, hz, q⟩
  subst ez
  obtain ⟨t, rfl⟩ := r1
  refine wpAny_Slice ?_
  rw [evalPart_none]
  refine wpAny_pure (wpAny_pure ?_)
  have part : PO X (some (.UnaryOp .USub (.Constant (.int 1) k p1) p2)) (tPart (tUn (rU fun i => .int (-i)) (tC (.int 1)))) := po_some (pe_un un_neg pe_int)
  refine thn (part.run pins s1 σ H1 (fun o H4 => o = some (-1) ∧ H4 = H1) I1 ⟨1, rfl, -1, rfl, rfl, rfl⟩) ?_
  rintro w s4 ⟨o, H4, I4, ps, eo, e4⟩
  subst eo e4
  obtain ⟨l, hl1, hl2⟩ := IsPart.raw ps
  subst hl1
  have I5 : Inv X pins σ H4 { s4 with heap := s4.heap.push { cls := .type "slice", data := .fields #[partValue none, partValue none, partValue l] } } :=
    I4.kept (t' := s4.toks) fun b ob q => Heap.get?_push_of_some _ q
  refine tail_any (T := "str") (ops := [.ref s4.heap.objs.size, .str z t]) (typeIs_str _ _ _) F.slot_str_getitem.lookup ?_ (by with_unfolding_all rfl)
  refine wpAny_getItem_str_slice (l := none) (u := none) (st := l) ⟨_, Heap.get?_push_size _ rfl, rfl, rfl⟩ (by rw [hl2]; decide) ?_
  unfold sliceMade slicePicked
  rw [hl2]
  show Made.post (if _ then _ else _) _ _
  have hlen : (S z.cps.toList.reverse).length ≤ sizeLine := by
    rw [S_len, List.length_reverse, Array.length_toList]
    exact hz
  rw [if_neg (by intro hh; simp at hh)]
  have e : (⟨((Builtin.Str.strSliceIndices (Option.map (fun x => x.1) (none : Option (Int × Tok))) (Option.map (fun x => x.1) (none : Option (Int × Tok))) ((some (-1 : Int)).getD 1) z.length).filterMap (z.cps[·]?)).toArray⟩ : Str) = S z.cps.toList.reverse := by
    unfold S
    exact congrArg Str.mk (rev_pick z)
  rw [e]
  exact ⟨hlen, .str _, H4, I5.tok _, ⟨_, rfl⟩, q⟩

/-! ### text * number, the number from 1 on -/
theorem rep_cps (a : Array Nat) : ∀ (n : Nat) (acc : Array Nat), ((List.replicate n a).foldl (· ++ ·) acc).toList = acc.toList ++ (List.replicate n a.toList).flatten
  | 0, acc => by simp
  | n + 1, acc => by
    rw [List.replicate_succ, List.foldl_cons, rep_cps a n]
    simp [List.replicate_succ]
theorem rep_S (z : List Nat) (n : Nat) : (⟨(List.replicate n (S z).cps).foldl (· ++ ·) #[]⟩ : Str) = S (List.replicate n z).flatten := by
  refine TL.ext_tl ?_
  show ((List.replicate n (S z).cps).foldl (· ++ ·) #[]).toList = _
  rw [rep_cps]
  simp [S]
theorem op_mulS : OpR X (binaryOp .Mult) (fun x y H Q => ∃ (z : List Nat) (n : Nat), x = .str (S z) ∧ y = .int n ∧ 1 ≤ n ∧ n ≤ 1000 ∧ z.length * n ≤ 1000 ∧ Q (.str (S (List.replicate n z).flatten)) H) := by
  intro pins s σ H x y v u Q I rx ry h
  obtain ⟨z, n, rfl, rfl, h1, h3, h2, q⟩ := h
  obtain ⟨t, rfl⟩ := rx
  obtain ⟨t', rfl⟩ := ry
  have hz : z.length ≤ 1000 := by
    refine Nat.le_trans ?_ h2
    exact Nat.le_mul_of_pos_right _ h1
  have tl : Builtin.Str.tooLong ((S z).length * ((n : Nat) : Int).toNat) = false := by
    unfold Builtin.Str.tooLong
    rw [S_len, sizeLine_eq]
    refine decide_eq_false ?_
    simp only [Int.toNat_natCast]
    omega
  refine PySem.P.mul_str ?_ (fun _ _ => ?_) (fun _ _ => tl) ?_
  · rw [decide_eq_false (by omega), decide_eq_false (by omega)]
    rfl
  · rw [S_len]
    have : (1000 : Int) ≤ (2 ^ 63 - 1) / (n : Int) := by
      rw [Int.le_ediv_iff_mul_le (by omega)]
      omega
    omega
  · rw [if_neg (by omega)]
    split
    · rename_i hc
      rcases Bool.or_eq_true _ _ ▸ hc with h | h
      · have : n = 1 := by have := eq_of_beq h; omega
        subst this
        refine ⟨.str (S z), H, I, ⟨t, rfl⟩, ?_⟩
        simpa using q
      · have hl : z.length = 0 := by rw [← S_len]; exact eq_of_beq h
        have : z = [] := List.length_eq_zero_iff.mp hl
        subst this
        refine ⟨.str (S []), H, I, ⟨t, rfl⟩, ?_⟩
        have e : (List.replicate n ([] : List Nat)).flatten = [] := by simp
        rw [e] at q
        exact q
    · rw [Int.toNat_natCast, rep_S]
      refine ⟨?_, .str _, H, I.tok _, ⟨_, rfl⟩, q⟩
      rw [S_len, sizeLine_eq]
      have e : (List.replicate n z).flatten.length = n * z.length := by simp
      rw [e, Nat.mul_comm]
      omega

/-! ### list(text) -/
theorem call_listS (hc : X.calm = true) : CallR X (.type "list") (fun xs H Q => ∃ z : List Nat, xs = [.str (S z)] ∧ z.length ≤ 1000 ∧ ∀ p, H p = none → Q (.ref p) (upd H p (.lst (z.map fun c => V.str (S [c]))))) := by
  intro pins s σ H xs us Q I r h
  obtain ⟨z, rfl, hz, q⟩ := h
  obtain ⟨u, rfl, ru⟩ := vals1 r
  obtain ⟨t, rfl⟩ := ru
  have hsz : (S z).cps.size = z.length := by simp [S]
  refine call_list_str (I.ok.hd hc) (S z) t (fun h' tk acc c' hk hS hi => ?_) (by rw [hsz, sizeLine_eq]; omega)
  refine ⟨.ref s.heap.objs.size, _, I.laid (t' := tk) (o := .lst (z.map fun c => V.str (S [c]))) hk (Nat.le_refl _) ⟨?_, acc.toList, c', ?_, ?_⟩, rfl, q _ (I.hok.fresh (Nat.le_refl _))⟩
  · rw [List.length_map, sizeLine_eq]; omega
  · refine vals_of_at ?_ fun j x v h1 h2 => ?_
    · have e1 : acc.toList.length = acc.size := by simp
      rw [List.length_map, e1, hi.1, hsz]
    · obtain ⟨c, k, e1, e2⟩ := hi.2 j v (by rw [← Array.getElem?_toList]; exact h2)
      have e3 : z[j]? = some c := by
        have : (S z).cps[j]? = (S z).cps.toList[j]? := by rw [Array.getElem?_toList]
        rw [this] at e1
        exact e1
      rw [List.getElem?_map, e3] at h1
      cases h1
      exact ⟨k, e2⟩
  · rw [Array.toArray_toList]; exact hS
end
end K72
namespace K72
open PySem PySem.Spec PyProof.Rows L2
/-- what a set of these texts holds -/
def met (xs : List Str) : List Str := xs.foldl step_dedup []
theorem met_snoc (xs : List Str) (x : Str) : met (xs ++ [x]) = step_dedup (met xs) x := by
  unfold met
  rw [List.foldl_append]
  rfl
theorem met_any (xs : List Str) (x k : Str) : (met (xs ++ [x])).any (· == k) = ((met xs).any (· == k) || decide (k = x)) := by
  rw [met_snoc]
  unfold step_dedup
  split
  · rename_i h
    by_cases e : k = x
    · subst e
      rw [h]
      simp
    · simp [e]
  · by_cases e : k = x
    · subst e
      simp
    · have : ¬ x = k := fun z => e z.symm
      simp [e, this]
theorem met_len (xs : List Str) (x : Str) : (met (xs ++ [x])).length = if (met xs).any (· == x) then (met xs).length else (met xs).length + 1 := by
  rw [met_snoc]
  unfold step_dedup
  split <;> simp
theorem met_le (xs : List Str) : (met xs).length ≤ xs.length := by
  have := length_foldl_step_dedup_le (K := Str) xs []
  simpa [met] using this
section
variable {prog : Program} {w : World} {A : Around} {E : Value → Shared → Prop} {R : Result → Shared → Prop}
/-- the state of the set behind so many -/
abbrev TxSet (prog : Program) (w : World) (h : Heap) (a : Addr) (ys : List Str) : Prop :=
  h.SetOf (PySem.strKind prog w) a (fun k => (met ys).any (· == k)) (met ys).length
theorem TxSet.at {h h' : Heap} {a : Addr} {ys : List Str} (x : TxSet prog w h a ys) (k : ∀ o, h.get? a = some o → h'.get? a = some o) : TxSet prog w h' a ys := by
  obtain ⟨o, es, ep, t, ho, r⟩ := x
  exact ⟨o, es, ep, t, k o ho, r⟩
theorem set_texts_loop {I : Addr} {fp wr : List Addr} {G : Array GenState → Array GenState → Prop} {n : Nat} {Pv : Nat → Value → Prop} {St : Nat → Shared → Prop}
    (W : WalksS prog w A.in1 I fp wr G n Pv St) {D : Addr} (hD : D ∉ fp) {xs : List Str} (hn : xs.length = n) (hfew : n + 1 < scanBound)
    (hv : ∀ i v, Pv i v → ∃ x t, xs[i]? = some x ∧ v = .str x t) : ∀ (left : Nat) (i : Nat) (s : Shared), i + left = n → St i s → TxSet prog w s.heap D (xs.take i) →
      (∀ s', Moved (D :: wr) G s s' → TxSet prog w s'.heap D xs → R (.ok (.ret .none)) s') → codeAny (model prog w) A (.builtin "set.update.loop" ⟨[.ref D, .ref I], []⟩) R s := by
  have hDw : D ∉ wr := fun z => hD (W.sub _ z)
  have up : ∀ b ∈ wr, b ∈ D :: wr := fun b hb => .tail _ hb
  intro left
  induction left with
  | zero =>
    intro i s hi hst hs hR
    obtain rfl : i = n := by omega
    refine codeAny_builtin PyProof.Rows.F.entry_set_update_loop ?_
    rw [Around.under_plainId PyProof.Rows.F.plain_set_update_loop _]
    show wpAny _ A.in1 (pyNext (.ref I) >>= _) _ _ s
    refine wpAny_bind (W.done s _ _ hst fun s' hm => ?_)
    show wpAny _ A.in1 (ret Value.none) _ _ s'
    rw [← hn, List.take_length] at hs
    exact wpAny_pure (hR s' (hm.mono up) (hs.at fun o e => hm.heap D o hDw e))
  | succ left ih =>
    intro i s hi hst hs hR
    refine codeAny_builtin PyProof.Rows.F.entry_set_update_loop ?_
    rw [Around.under_plainId PyProof.Rows.F.plain_set_update_loop _]
    show wpAny _ A.in1 (pyNext (.ref I) >>= _) _ _ s
    refine wpAny_bind (W.item i s _ _ (by omega) hst fun v s' hP hst' hm => ?_)
    obtain ⟨x, t, hx, rfl⟩ := hv i v hP
    have hs' : TxSet prog w s'.heap D (xs.take i) := hs.at fun o e => hm.heap D o hDw e
    show wpAny _ A.in1 (holding [Value.str x t] (setAdd D (.str x t)) >>= _) _ _ s'
    refine wpAny_bind (wpAny_holding ?_)
    unfold setAdd
    refine wpAny_holding (wpAny_bind ((PySem.strKind prog w).pyHash (k := x) (strKind_is _ _ _ _) ?_))
    have room : (met (xs.take i)).length + 1 < scanBound := by
      have h1 := met_le (xs.take i)
      rw [List.length_take] at h1
      omega
    refine wpAny_setAddHashed_of (knd := PySem.strKind prog w) (s := { s' with toks := s'.toks + 1 }) (strKind_is _ _ _ _) rfl hs' room fun h' hsb hs2 => ?_
    have nx : TxSet prog w h' D (xs.take (i + 1)) := by
      have e : xs.take (i + 1) = xs.take i ++ [x] := by rw [List.take_add_one, hx]; rfl
      refine SetOf_congr hs2 (fun k' => ?_) ?_
      · rw [e, met_any]
      · rw [e, met_len]
    refine wpAny_pure ⟨plainId_quiet PyProof.Rows.F.plain_set_update_loop _, ?_⟩
    refine ih (i + 1) _ (by omega) (W.frame _ s' _ _ hst' (Nat.le_succ _) fun b hb o e => ?_) nx fun s2 hm2 hs3 => ?_
    · exact (hsb.2 b fun z => hD (z ▸ hb)).trans e
    · refine hR s2 (Moved.trans W.gtrans ((hm.mono up).then_heap (Nat.le_succ _) fun b o hb e => ?_) hm2) hs3
      exact (hsb.2 b fun z => hb (z ▸ .head _)).trans e
end
section
variable {prog : Program} {w : World} {A : Around} {E : Value → Shared → Prop} {s : Shared}
set_option maxHeartbeats 8000000 in
/-- set(a list of texts) -/
theorem call_set_texts {l : Addr} {items : Array Value} {xs : List Str} {Q : Value → Shared → Prop} (hh : A.handled = none) (hl : s.heap.IsList l items) (hi : StrsAre items.toList xs) (hb : xs.length + 1 < scanBound)
    (h : ∀ (h' : Heap) (tk : Nat), TxSet prog w h' s.heap.objs.size xs → (∀ b o, s.heap.get? b = some o → h'.get? b = some o) → Q (.ref s.heap.objs.size) { s with heap := h', toks := tk }) :
    wpAny (model prog w) A (call (.type "set") [.ref l]) Q E s := by
  have hsz : xs.length = items.size := by
    have := PyProof.Rows.StrsAre.length hi
    rw [Array.length_toList] at this
    exact this.symm
  have hm := PySem.F.called_set
  obtain ⟨c, tl, hmro⟩ := hm.mro
  have hmade := hm.made
  have hsub := hm.sub
  have h1 := hm.notType
  have h2 := hm.canCreate
  have hct := PySem.F.typeCall_set_1 (.ref l)
  refine wpAny_call (codeAny_of_tree ?_)
  show wpAny _ _ (callAny (.type "set") _) _ _ _
  refine wpAny_pure ⟨Code.quiet_builtin _ (by decide +kernel), codeAny_builtin PySem.F.entry_type_call ?_⟩
  rw [Around.under_plain (weight_type_call_type "set" [.ref l] []) rfl]
  repeat (any_goals (first | assumption | wp_step))
  refine codeAny_mono (PySem.code_set_new_1 (.ref l) (E := E)
    (Q₁ := fun obj s₁ => ∃ led : Bool, obj = .ref s.heap.objs.size ∧ s₁ = { s with heap := s.heap.push { cls := .type "set", dict := none, data := .set #[] 0 (.fresh 0 0 led) } }) fun led => ⟨led, rfl, rfl⟩) fun r s₁ hr => ?_
  match r with
  | .error e => exact hr
  | .ok .next => exact hr.elim
  | .ok .brk => exact hr.elim
  | .ok .cont => exact hr.elim
  | .ok (.ret obj) =>
    obtain ⟨led, rfl, rfl⟩ := hr
    have gO : (s.heap.push { cls := .type "set", dict := none, data := .set #[] 0 (.fresh 0 0 led) }).get? s.heap.objs.size = some { cls := .type "set", dict := none, data := .set #[] 0 (.fresh 0 0 led) } := Heap.get?_push_size _ rfl
    have hT : Shared.TypeIs { s with heap := s.heap.push { cls := .type "set", dict := none, data := .set #[] 0 (.fresh 0 0 led) } } (.ref s.heap.objs.size) "set" := ⟨_, gO, rfl⟩
    have hli := hm.init.lookup
    have hbi := hm.init.bind (.ref s.heap.objs.size)
    repeat (any_goals (first | assumption | wp_step))
    refine codeAny_mono (codeAny_call_builtin (R := wants (fun r s₂ => r = .none ∧ ∃ h' tk, s₂ = { s with heap := h', toks := tk } ∧ TxSet prog w h' s.heap.objs.size xs ∧
      (∀ b o, s.heap.get? b = some o → h'.get? b = some o)) E) hm.init.plain PySem.F.entry_set_init (PySem.check_set_init_1 hT ?_)) fun r₂ s₂ hr₂ => ?_
    · obtain ⟨ol, hol, hcl, nl, hdl⟩ := hl
      have hlS : l < s.heap.objs.size := Heap.lt_size hol
      have hol1 : (s.heap.push { cls := .type "set", dict := none, data := .set #[] 0 (.fresh 0 0 led) }).get? l = some ol := Heap.get?_push_of_some _ hol
      have hl1 : (s.heap.push { cls := .type "set", dict := none, data := .set #[] 0 (.fresh 0 0 led) }).IsList l items := ⟨ol, hol1, hcl, nl, hdl⟩
      obtain ⟨oc, od, odt, osl⟩ := ol
      dsimp only at hcl hdl
      subst hcl hdl
      have x1 := PySem.F.sub_list_set
      have x2 := PySem.F.sub_list_frozenset
      have x3 : (Value.type "list" == Value.type "dict") = false := by decide
      unfold Builtin.«set.__init__» noKeywords Builtin.Frozenset.updateFrom
      generalize hPI : pyIter = PI
      wp_walk
      subst hPI
      refine wpAny_pyIter_list hl1 ?_
      refine wpAny_bind (wpAny_runValue ?_)
      have hz : (s.heap.push { cls := .type "set", dict := none, data := .set #[] 0 (.fresh 0 0 led) }).objs.size = s.heap.objs.size + 1 := Heap.size_push ..
      have hne : l ≠ (s.heap.push { cls := .type "set", dict := none, data := .set #[] 0 (.fresh 0 0 led) }).objs.size := by
        rw [hz]
        exact Nat.ne_of_lt (Nat.lt_succ_of_lt hlS)
      refine set_texts_loop (A := A.in1.in1) (n := items.size) (xs := xs) (D := s.heap.objs.size) ((Walks.list (by simpa using hh) _ l hne items).toS) ?_ hsz (by omega) (fun i v hv => ?_) items.size 0 _ (by omega)
        ⟨⟨_, Heap.get?_push_size _ rfl, rfl, rfl⟩, hl1.push _⟩ ?_ fun s' hmv hs' => ?_
      · rw [hz]
        simp only [List.mem_cons, List.not_mem_nil, or_false, not_or]
        exact ⟨Nat.ne_of_lt (Nat.lt_succ_self _), Nat.ne_of_gt hlS⟩
      · obtain ⟨t, e⟩ := SS.strs_at hi i v (by rw [Array.getElem?_toList]; exact hv)
        have hlt : i < xs.length := by
          rw [hsz]
          exact (Array.getElem?_eq_some_iff.mp hv).1
        exact ⟨_, t, by rw [List.getD_eq_getElem?_getD, List.getElem?_eq_getElem hlt]; rfl, e⟩
      · have g2 : ((s.heap.push { cls := .type "set", dict := none, data := .set #[] 0 (.fresh 0 0 led) }).push { cls := .type "list_iterator", data := .fields #[.ref l, .int 0 0] }).get? s.heap.objs.size = some { cls := .type "set", dict := none, data := .set #[] 0 (.fresh 0 0 led) } := by
          exact Heap.get?_push_of_some _ gO
        exact SetOf_congr ((PyProof.Rows.setObjOf_fresh (knd := PySem.strKind prog w) led).setOf g2 (by unfold scanBound; omega)) (fun _ => rfl) rfl
      · obtain ⟨h', g', d', tk', os'⟩ := s'
        obtain rfl : g' = s.gens := hmv.gens
        obtain rfl : d' = s.drawn := hmv.drawn
        obtain rfl : os' = s.os := hmv.os
        show wpAny _ _ _ _ _ _
        refine wpAny_pure ?_
        show wpAny _ _ (ret Value.none) _ _ _
        refine wpAny_pure ⟨rfl, h', tk', rfl, hs', fun b o e => ?_⟩
        have hb := Heap.lt_size e
        refine hmv.heap b o ?_ (Heap.get?_push_of_some _ (Heap.get?_push_of_some _ e))
        rw [hz]
        simp only [List.mem_cons, List.mem_singleton, List.not_mem_nil, or_false, not_or]
        exact ⟨Nat.ne_of_lt hb, Nat.ne_of_lt (Nat.lt_succ_of_lt hb)⟩
    · match r₂ with
      | .error e => exact hr₂
      | .ok .next => exact hr₂.elim
      | .ok .brk => exact hr₂.elim
      | .ok .cont => exact hr₂.elim
      | .ok (.ret r) =>
        obtain ⟨rfl, h', tk, rfl, q1, q2⟩ := hr₂
        repeat (any_goals (first | assumption | wp_step))
        exact h _ _ q1 q2
end
section
variable {X : Cx}
/-- len(set(xs)), xs a list of texts -/
def tLenTx (K : PySem.W.Frag) (ta : TE) : TE := fun σ H Q => ta σ H fun x H1 => ∃ l, ∃ xs : List Str, x = .ref l ∧ SqL K H1 l (xs.map V.str) ∧ xs.length ≤ 1000 ∧ Q (.int (met xs).length) H1
theorem pe_lenTx {a : Expr} {ta : TE} {p p2 q pos : Pos} (hc : X.calm = true) (hg : Gl X "len") (hm : X.mg "len" = none) (hg2 : Gl X "set") (hm2 : X.mg "set" = none) (ha : PE X a ta)
    (na : starEach [a] X.env = (false, eval a X.env) :: starEach [] X.env := by rfl) : PE X (.Call (.Name "len" p) [.Call (.Name "set" p2) [a] [] q] [] pos) (tLenTx X.K ta) := by
  refine ⟨fun pins s σ H Q I h => Call_ (ld_blt I hg hm boot_len ?_)⟩
  refine PyProof.Rows.callWith_builtin1 (PyProof.Rows.args_cons (Call_ (ld_blt I hg2 hm2 boot_set ?_)) rfl) rfl rfl
  refine PyProof.Rows.callWith_type1 (PyProof.Rows.args_cons (thn (ha.run pins s σ H _ I h) ?_) na) na rfl
  rintro v s1 ⟨x, H1, I1, r1, l, xs, rfl, hq, h1, q1⟩
  cases r1
  refine PyProof.Rows.args_nil ?_
  obtain ⟨its, r, pl, hz⟩ := I1.list hq
  have hb : xs.length + 1 < scanBound := by unfold scanBound; omega
  refine call_set_texts (I1.ok.hd hc) pl.isList (by simpa using strsAre_of r) hb fun h' tk hS hk => PyProof.Rows.args_nil ?_
  obtain ⟨o, es, ep, t, ho, hex, hd, _, _, _, hf, hn⟩ := hS
  have I2 : Inv X pins σ H1 { s1 with heap := h', toks := tk } := I1.kept hk
  have hle := met_le xs
  refine call_len_set ho hex hd hf (by rw [hn]; unfold scanBound at hb; omega) ⟨.int (met xs).length, H1, I2.tok _, ⟨_, by rw [hn]⟩, q1⟩
end
end K72
namespace K72
open PySem PySem.Spec PyProof.Rows L2
section
variable {X : Cx}
theorem each_of {pins : List (Addr × Obj)} {σ : L2.St} {H : Hp} {s : Shared} (I : Inv X pins σ H s) : ∀ {vs : List V} {ds : List PyData} {us : List Value}, DpAll X.K H vs ds → Vals vs us →
    PySem.W.EachIs (fun v (b : V × PyData) => RelV b.1 v) us (vs.zip ds) ∧ PySem.W.EachIs (fun v (b : V × PyData) => ∃ as, Reads s.heap v b.2 as) us (vs.zip ds) ∧ (vs.zip ds).map Prod.snd = ds ∧ ds.length = vs.length
  | _, _, _, .nil, .nil => ⟨.nil, .nil, rfl, rfl⟩
  | _, _, _, .cons h1 h2, .cons r1 r2 => by
    obtain ⟨q1, q2, q3, q4⟩ := each_of I h2 r2
    refine ⟨.cons r1 q1, .cons (Dp.reads I _ _ _ h1 r1) q2, ?_, ?_⟩
    · rw [List.zip_cons_cons, List.map_cons, q3]
    · rw [List.length_cons, List.length_cons, q4]
theorem vals_each : ∀ {us : List Value} {bs : List (V × PyData)}, PySem.W.EachIs (fun v (b : V × PyData) => RelV b.1 v) us bs → Vals (bs.map Prod.fst) us
  | _, _, .nil => .nil
  | _, _, .cons r t => .cons r (vals_each t)
/-- sorted(xs), xs a list of data that may be compared: a new list, as long -/
theorem call_sortedD (hu : X.A.units + 64 < cLine) : CallR X (.builtin "sorted") (fun xs H Q => ∃ (a : Addr) (vs : List V) (ds : List PyData), xs = [.ref a] ∧ SqL X.K H a vs ∧ DpAll X.K H vs ds ∧
    PySem.W.AllAlike ds ∧ PySem.W.Sortable ds ∧ vs.length ≤ sizeLine ∧ (∀ d ∈ ds, d.depth ≤ 9) ∧ ∀ (ys : List V) (p : Addr), ys.length = vs.length → H p = none → Q (.ref p) (upd H p (.lst ys))) := by
  intro pins s σ H xs us Q I r h
  obtain ⟨a, vs, ds, rfl, hs, hd, ha, hk, hl, hdep, q⟩ := h
  obtain ⟨u, rfl, ru⟩ := vals1 r
  obtain rfl : u = Value.ref a := ru
  obtain ⟨its, rv, pl, hz⟩ := I.list hs
  obtain ⟨e1, e2, e3, e4⟩ := each_of I hd rv
  have hlen : (vs.zip ds).length = vs.length := by
    rw [List.length_zip, e4]
    exact Nat.min_self _
  refine PySem.W.sorted_data (bs := vs.zip ds) (enc := Prod.snd) (R := fun v (b : V × PyData) => RelV b.1 v) pl.isList e1 e2 (by rw [e3]; exact ha) (by rw [e3]; exact hk) (by rw [hlen]; exact hl) (fun b hb => ?_) fun out ho er => ?_
  · have : b.2 ∈ ds := by
      rw [← e3]
      exact List.mem_map.mpr ⟨b, hb, rfl⟩
    have := hdep _ this
    omega
  · obtain ⟨c, hc⟩ := sortedAll_at s.heap its out.toArray
    have hlo : ((List.mergeSort (vs.zip ds) (PySem.W.dataLe false Prod.snd)).map Prod.fst).length = vs.length := by
      rw [List.length_map, List.length_mergeSort, hlen]
    refine ⟨.ref (s.heap.objs.size + 1), _, I.laid (t' := s.toks) (o := .lst ((List.mergeSort (vs.zip ds) (PySem.W.dataLe false Prod.snd)).map Prod.fst)) (fun b o e => sortedAll_old e) (Nat.le_succ _) ⟨?_, out, c, vals_each er, hc⟩, rfl, ?_⟩
    · rw [hlo]; exact hl
    · exact q _ _ hlo (I.hok.fresh (Nat.le_succ _))
end
end K72
namespace K72
open PySem PySem.Spec PyProof.Rows L2
open PySem.StrLaws in
/-- the first place of one sign -/
theorem occ_one {p q : List Nat} {c : Nat} (h : c ∉ p) : ∃ rest, Builtin.Str.occurrences (S (p ++ c :: q)) (S [c]) 0 (S (p ++ c :: q)).length 1 = p.length :: rest := by
  have atI : ∀ i, At (S (p ++ c :: q)) (S [c]) (S (p ++ c :: q)).length i ↔ (p ++ c :: q)[i]? = some c := fun i => subAt_one (S (p ++ c :: q)) c i
  have atP : At (S (p ++ c :: q)) (S [c]) (S (p ++ c :: q)).length p.length := (atI _).mpr (by simp)
  rw [occ_eq]
  rcases occ_first (S (p ++ c :: q)) (S [c]) (S (p ++ c :: q)).length 1 (Nat.le_refl _) (List.range' 0 ((S (p ++ c :: q)).length + 1 - 0)) 0 (fun _ _ => Nat.zero_le _) with ⟨_, hn⟩ | ⟨pre, a, post, e, h0, ha, hn⟩
  · refine absurd atP (hn _ ?_)
    simp [List.mem_range', S_len]
    omega
  · have h1 := range'_split e
    have hlt : ¬ p.length < a := fun hl => hn _ (h1 _ hl) atP
    have ha' := (atI a).mp ha
    have hge : ¬ a < p.length := fun hl => by
      rw [List.getElem?_append_left hl] at ha'
      exact h (List.mem_of_getElem? ha')
    have ea : a = p.length := by omega
    subst ea
    generalize (forIn (List.range' 0 ((S (p ++ c :: q)).length + 1 - 0)) ((#[] : Array Nat), 0) (occBody (S (p ++ c :: q)) (S [c]) (S (p ++ c :: q)).length 1)).run.fst = A at h0
    have h0' : A.toList[0]? = some p.length := by rw [Array.getElem?_toList]; exact h0
    cases hA : A.toList with
    | nil => rw [hA] at h0'; simp at h0'
    | cons x r =>
      rw [hA] at h0'
      have : x = p.length := by simpa using h0'
      exact ⟨r, by rw [this]⟩
theorem occ_idx {l : List Nat} {c : Nat} (h : c ∈ l) : ∃ rest, Builtin.Str.occurrences (S l) (S [c]) 0 (S l).length 1 = l.idxOf c :: rest := by
  obtain ⟨p, q, rfl, hp⟩ := split_at h
  rw [idx_split hp]
  exact occ_one hp

/-- a method of a text that is told by name -/
theorem line_S {l : List Nat} {n : Nat} (h : l.length ≤ n) (hn : n ≤ 16777216) : (S l).length ≤ sizeLine := by
  rw [S_len, sizeLine_eq]; omega

theorem in_small {c : Nat} (h : Lt 6 c) : decide (c ∈ smallS) = decide (97 ≤ c) := by
  rcases lt6 h with h | h | h | h | h | h | h | h | h | h | h | h <;> subst h <;> decide
section
variable {P : Program} {w : World} {K : PySem.W.Frag} {mg : Str → Option Value} {base : Heap} {f : Addr} {fd : FuncData} {k : Nat}
/-! ### number_of -/
theorem sc7 : FnScope ["letter"] ["letter"] (defScope (topS 7)) := ⟨rfl, rfl, rfl, by decide +kernel, rfl, by decide +kernel, by decide +kernel⟩
def spNum : Sp := fun vs H Q _ => ∃ c, Lt 6 c ∧ vs = [.str (S [c])] ∧ Q (.int (num c)) H
theorem c_num (F : Df K mg "number_of" 7 f fd) (T : Tx mg) : Cl P w K mg base (k + 1) "number_of" spNum := by
  refine F.cl (ps := ["letter"]) (F.fn.ok sc7 (fun vs H Q E h => ?_) (fun cdv A outer s H vs Q E hr h => ?_)) (F.fn.binds fun _ _ _ _ _ _ us hl => match us, hl with | [_], _ => rfl)
  · obtain ⟨c, _, rfl, _⟩ := h
    rfl
  · obtain ⟨c, hc, rfl, q⟩ := h
    obtain ⟨tk, ht⟩ := T.small
    refine ⟨_, pss_one (ps_ret (pe_bm PySem.F.plainAttrs_str PySem.F.slot_str_index PySem.F.type_str_index mt_sindex (pe_glob (v := .str (S smallS)) rfl ht ⟨_, rfl⟩) (pa_cons (pe_lower (pv 0)) pa_nil))), ?_⟩
    refine ⟨rfl, _, rfl, ⟨_, rfl⟩, _, rfl, rfl, by rw [S_len]; simp, ?_⟩
    rw [low_of hc]
    have hm : num c + 97 ∈ smallS := by
      rcases lt6 hc with h | h | h | h | h | h | h | h | h | h | h | h <;> subst h <;> decide
    obtain ⟨rest, ho⟩ := occ_idx hm
    refine ⟨_, _, _, _, rfl, rfl, ho, ?_⟩
    have e : smallS.idxOf (num c + 97) = num c := by
      rcases lt6 hc with h | h | h | h | h | h | h | h | h | h | h | h <;> subst h <;> decide
    rw [e]
    exact q
/-! ### back_of -/
theorem sc8 : FnScope ["letter"] ["letter"] (defScope (topS 8)) := ⟨rfl, rfl, rfl, by decide +kernel, rfl, by decide +kernel, by decide +kernel⟩
def spBackOf : Sp := fun vs H Q _ => ∃ c, Lt 6 c ∧ vs = [.str (S [c])] ∧ Q (.str (S [bk c])) H
theorem bk_small {c : Nat} (h : Lt 6 c) (hs : 97 ≤ c) : num c + 65 = bk c := by
  unfold num bk; rw [if_pos hs, if_pos hs]; omega
theorem bk_big {c : Nat} (h : Lt 6 c) (hs : ¬ 97 ≤ c) : num c + 97 = bk c := by
  unfold Lt Sm Bg at h
  unfold num bk; rw [if_neg hs, if_neg hs]; omega
theorem c_backOf (F : Df K mg "back_of" 8 f fd) (T : Tx mg) : Cl P w K mg base (k + 1) "back_of" spBackOf := by
  refine F.cl (ps := ["letter"]) (F.fn.ok sc8 (fun vs H Q E h => ?_) (fun cdv A outer s H vs Q E hr h => ?_)) (F.fn.binds fun _ _ _ _ _ _ us hl => match us, hl with | [_], _ => rfl)
  · obtain ⟨c, _, rfl, _⟩ := h
    rfl
  · obtain ⟨c, hc, rfl, q⟩ := h
    obtain ⟨tk, ht⟩ := T.small
    refine ⟨_, pss_one (ps_ret (pe_ifExp (pt_cmpR op_in_sign (pv 0) (pe_glob (v := .str (S smallS)) rfl ht ⟨_, rfl⟩) (by rfl)) (pe_upper (pv 0)) (pe_lower (pv 0)))), ?_⟩
    refine ⟨_, rfl, c, S smallS, rfl, rfl, _, rfl, ?_⟩
    rw [tl_S, in_small hc]
    refine ite2 (fun h => ?_) (fun h => ?_)
    · refine ⟨_, rfl, ⟨_, rfl⟩, _, rfl, rfl, by rw [S_len]; simp, ?_⟩
      rw [up_of hc, bk_small hc (of_decide_eq_true h)]
      exact q
    · refine ⟨_, rfl, ⟨_, rfl⟩, _, rfl, rfl, by rw [S_len]; simp, ?_⟩
      rw [low_of hc, bk_big hc (fun z => h (decide_eq_true z))]
      exact q
/-! ### back -/
theorem ones_len {g : Nat → Nat} : ∀ {l : List Nat}, (((l.map fun c => [g c]).map S).map (·.length)).sum = l.length
  | [] => rfl
  | a :: r => by
    have ih := ones_len (g := g) (l := r)
    rw [List.map_cons, List.map_cons, List.map_cons, List.sum_cons, ih, S_len]
    show 1 + r.length = r.length + 1
    omega
theorem sc9 : FnScope ["word", "sign"] ["word"] (defScope (topS 9)) := ⟨rfl, rfl, rfl, by decide +kernel, rfl, by decide +kernel, by decide +kernel⟩
def spBack : Sp := fun vs H Q _ => ∃ l : List Nat, (∀ c ∈ l, Lt 6 c) ∧ l.length ≤ 1000 ∧ vs = [.str (S l)] ∧ ∀ H', Same H H' → Q (.str (S (bkW l))) H'
theorem c_back {k : Nat} (F : Df K mg "back" 9 f fd) (C : Cl P w K mg base k "back_of" spBackOf) : Cl P w K mg base (k + 1) "back" spBack := by
  refine F.cl (ps := ["word"]) (F.fn.ok sc9 (fun vs H Q E h => ?_) (fun cdv A outer s H vs Q E hr h => ?_)) (F.fn.binds fun _ _ _ _ _ _ us hl => match us, hl with | [_], _ => rfl)
  · obtain ⟨l, _, _, rfl, _⟩ := h
    rfl
  · obtain ⟨l, hl, hn, rfl, q⟩ := h
    refine ⟨_, pss_one (ps_ret (pe_join pe_str (pe_lc (own := [("sign", 1)]) (g := gName 1) (tt := tYes) rfl sc9.nd (pi_str (pe_revS (pv 0))) (blkOk_by (own := [("sign", 1)]) (N := ["word", "sign"]) (sc := defScope (topS 9)) (by decide +kernel))
      (fun _ _ _ _ _ => pg_name (i := 1) sc9.nd rfl (Or.inl rfl)) (fun _ _ _ _ _ => pts_nil) (fun _ _ _ _ _ => pc C hr (Nat.le_refl _) (pa_cons (pv 1) pa_nil))))), ?_⟩
    refine ⟨⟨_, rfl⟩, _, rfl, S l, rfl, line_S hn (by decide), _, rfl, fun D nD => ?_⟩
    refine lc_text (l := l.reverse) (fun i H' => Same H H' ∧ H' D = some (.lst ((l.reverse.take i).map fun c => V.str (S [bk c])))) ⟨(Same.refl H).put nD, upd_same⟩ (fun i c H' hc p => ?_) fun H' p => ?_
    · obtain ⟨sm, hD⟩ := p
      refine ⟨rfl, _, rfl, c, hl c (List.mem_reverse.mp (List.mem_of_getElem? hc)), rfl, ?_⟩
      refine ⟨_, hD, ?_, sm.put nD, ?_⟩
      · rw [List.length_map, List.length_take, List.length_reverse, sizeLine_eq]
        omega
      · rw [upd_same, take_snoc hc, List.map_append]
        rfl
    · obtain ⟨sm, hD⟩ := p
      rw [List.take_of_length_le (Nat.le_refl _)] at hD
      have e : (l.reverse.map fun c => V.str (S [bk c])) = ((l.reverse.map fun c => [bk c]).map S).map V.str := by
        rw [List.map_map, List.map_map]
        rfl
      rw [e] at hD
      refine ⟨S [], D, _, rfl, rfl, .inl (.inl (.inl hD)), ?_, ?_⟩
      · rw [ones_len, S_len, List.length_reverse]
        show l.length + _ * 0 ≤ _
        omega
      · rw [join_S]
        have : (l.reverse.map fun c => [bk c]).flatten = bkW l := by
          unfold bkW
          induction l.reverse with
          | nil => rfl
          | cons a r ih => rw [List.map_cons, List.flatten_cons, ih]; rfl
        rw [this]
        exact q H' sm
/-! ### lowered -/
theorem sc12 : FnScope ["number", "word", "found", "sign", "own", "signs"] ["number", "word"] (defScope (topS 12)) := ⟨rfl, rfl, rfl, by decide +kernel, rfl, by decide +kernel, by decide +kernel⟩
def spLow : Sp := fun vs H Q _ => ∃ (m : Nat) (l : List Nat), m < 6 ∧ (∀ c ∈ l, Lt 6 c) ∧ l.length ≤ 1000 ∧ vs = [.int m, .str (S l)] ∧ Q (.str (S (l.map (low m)))) H
theorem low_at {m c : Nat} (hm : m < 6) (h : Lt 6 c) : atI (if 97 ≤ c then smallS else bigS) ((num c : Int) - (if decide ((m : Int) < (num c : Int)) then 1 else 0)) = some (low m c) := by
  have hm' : m = 0 ∨ m = 1 ∨ m = 2 ∨ m = 3 ∨ m = 4 ∨ m = 5 := by omega
  rcases hm' with e | e | e | e | e | e <;> subst e <;> rcases lt6 h with h | h | h | h | h | h | h | h | h | h | h | h <;> subst h <;> decide
theorem one_more {l : List Nat} {g : Nat → Nat} {i a : Nat} (h : l.length ≤ 1000) : (S ((l.take i).map g)).length + (⟨#[a]⟩ : Str).length ≤ sizeLine := by
  rw [S_one, S_len, S_len, sizeLine_eq, List.length_map, List.length_take]
  show _ + 1 ≤ _
  omega
theorem c_low {k : Nat} (F : Df K mg "lowered" 12 f fd) (T : Tx mg) (C : Cl P w K mg base k "number_of" spNum) : Cl P w K mg base (k + 1) "lowered" spLow := by
  refine F.cl (ps := ["number", "word"]) (F.fn.ok sc12 (fun vs H Q E h => ?_) (fun cdv A outer s H vs Q E hr h => ?_)) (F.fn.binds fun _ _ _ _ _ _ us hl => match us, hl with | [_, _], _ => rfl)
  · obtain ⟨m, l, _, _, _, rfl, _⟩ := h
    rfl
  · obtain ⟨m, l, hm, hl, hn, rfl, q⟩ := h
    obtain ⟨t1, g1⟩ := T.small
    obtain ⟨t2, g2⟩ := T.big
    refine ⟨_, pss_cons (ps_set (i := 2) sc12.nd rfl (.inl rfl) pe_str)
      (pss_cons (ps_for PassesOwn.never rfl (pi_str (pv 1)) (pg_name (i := 3) sc12.nd rfl (.inl rfl))
        (pss_cons (ps_set (i := 4) sc12.nd rfl (.inl rfl) (pc C hr (Nat.le_refl _) (pa_cons (pv 3) pa_nil)))
        (pss_cons (ps_set (i := 5) sc12.nd rfl (.inl rfl) (pe_ifExp (pt_cmpR op_in_sign (pv 3) (pe_glob (v := .str (S smallS)) rfl g1 ⟨_, rfl⟩) (by rfl)) (pe_glob (v := .str (S smallS)) rfl g1 ⟨_, rfl⟩) (pe_glob (v := .str (S bigS)) rfl g2 ⟨_, rfl⟩)))
        (pss_one (ps_set (i := 2) sc12.nd rfl (.inl rfl) (pe_op op_add_str (pv 2) (pe_ix ix_str (pv 5) (pe_op op_sub (pv 4) (pe_callTy call_int1 (by rfl) T.int (by decide +kernel) (pa_cons (pe_cmpR op_gt (pv 4) (pv 0) (nomark _)) pa_nil))) (fun _ _ => rfl))))))))
      (pss_one (ps_ret (pv 2)))), ?_⟩
    refine ⟨_, rfl, S l, rfl, ?_⟩
    refine for_text (l := l) (fun i σ H' => H' = H ∧ ∃ x3 x4 x5, σ = [some (.int m), some (.str (S l)), some (.str (S ((l.take i).map (low m)))), x3, x4, x5]) ⟨rfl, none, none, none, rfl⟩ (fun i c σ H' hc p => ?_) fun σ H' p => ?_
    · obtain ⟨rfl, x3, x4, x5, rfl⟩ := p
      have hlc := hl c (List.mem_of_getElem? hc)
      refine ⟨_, rfl, c, hlc, rfl, ?_⟩
      refine ⟨_, rfl, c, S smallS, rfl, rfl, _, rfl, ?_⟩
      rw [tl_S, in_small hlc]
      have ha := low_at hm hlc
      refine ite2 (fun h => ?_) (fun h => ?_)
      · rw [if_pos (of_decide_eq_true h)] at ha
        refine ⟨_, rfl, _, rfl, _, rfl, _, rfl, _, rfl, num c, m, rfl, rfl, .inr ⟨_, rfl, _, _, rfl, rfl, S smallS, _, low m c, rfl, rfl, by rw [S_len, sizeLine_eq]; decide, ha, _, _, rfl, rfl, ?_, ?_⟩⟩
        · exact one_more hn
        · have e : S ((l.take i).map (low m)) ++ (⟨#[low m c]⟩ : Str) = S ((l.take (i + 1)).map (low m)) := by
            rw [S_one, S_app, take_snoc hc, List.map_append]
            rfl
          rw [e]
          exact ⟨rfl, _, _, _, rfl⟩
      · rw [if_neg (fun z => h (decide_eq_true z))] at ha
        refine ⟨_, rfl, _, rfl, _, rfl, _, rfl, _, rfl, num c, m, rfl, rfl, .inr ⟨_, rfl, _, _, rfl, rfl, S bigS, _, low m c, rfl, rfl, by rw [S_len, sizeLine_eq]; decide, ha, _, _, rfl, rfl, ?_, ?_⟩⟩
        · exact one_more hn
        · have e : S ((l.take i).map (low m)) ++ (⟨#[low m c]⟩ : Str) = S ((l.take (i + 1)).map (low m)) := by
            rw [S_one, S_app, take_snoc hc, List.map_append]
            rfl
          rw [e]
          exact ⟨rfl, _, _, _, rfl⟩
    · obtain ⟨rfl, x3, x4, x5, rfl⟩ := p
      rw [List.take_of_length_le (Nat.le_refl _)]
      exact ⟨_, rfl, q⟩
end
end K72
namespace K72
open PySem PySem.Spec PyProof.Rows L2
section
variable {P : Program} {w : World} {K : PySem.W.Frag} {mg : Str → Option Value} {base : Heap} {f : Addr} {fd : FuncData} {k : Nat}
/-! ### cut_word -/
theorem sc13 : FnScope ["letter", "word"] ["letter", "word"] (defScope (topS 13)) := ⟨rfl, rfl, rfl, by decide +kernel, rfl, by decide +kernel, by decide +kernel⟩
def spCutWord : Sp := fun vs H Q _ => ∃ (a : Nat) (l : List Nat), Lt 6 a ∧ (∀ c ∈ l, Lt 6 c) ∧ l.length ≤ 1000 ∧ a ∉ l ∧ bk a ∉ l ∧ vs = [.str (S [a]), .str (S l)] ∧ Q (.str (S (l.map (low (num a))))) H
theorem c_cutWord (F : Df K mg "cut_word" 13 f fd) (T : Tx mg) (C1 : Cl P w K mg base k "number_of" spNum) (C2 : Cl P w K mg base k "back_of" spBackOf) (C3 : Cl P w K mg base k "lowered" spLow) : Cl P w K mg base (k + 1) "cut_word" spCutWord := by
  refine F.cl (ps := ["letter", "word"]) (F.fn.ok sc13 (fun vs H Q E h => ?_) (fun cdv A outer s H vs Q E hr h => ?_)) (F.fn.binds fun _ _ _ _ _ _ us hl => match us, hl with | [_, _], _ => rfl)
  · obtain ⟨a, l, _, _, _, _, _, rfl, _⟩ := h
    rfl
  · obtain ⟨a, l, ha, hl, hn, h1, h2, rfl, q⟩ := h
    refine ⟨_, pss_cons (ps_if (PW.pt (pw_or (pt_cmpR op_in_sign (pv 0) (pv 1) (by rfl)) (pw_or1 (pt_cmpR op_in_sign (pc C2 hr (Nat.le_refl _) (pa_cons (pv 0) pa_nil)) (pv 1) (by rfl))))) pss_never pss_nil)
      (pss_one (ps_ret (pc C3 hr (Nat.le_refl _) (pa_cons (pc C1 hr (Nat.le_refl _) (pa_cons (pv 0) pa_nil)) (pa_cons (pv 1) pa_nil))))), ?_⟩
    refine ⟨_, rfl, _, rfl, a, S l, rfl, rfl, _, rfl, goF (decide_eq_false h1) ?_⟩
    refine ⟨_, rfl, a, ha, rfl, _, rfl, bk a, S l, rfl, rfl, _, rfl, goF (decide_eq_false h2) ?_⟩
    exact ⟨_, rfl, a, ha, rfl, _, rfl, num a, l, num_lt (Nat.le_refl _) ha, hl, hn, rfl, q⟩
/-! ### put_in -/
theorem sc15 : FnScope ["row", "place", "sign"] ["row", "place", "sign"] (defScope (topS 15)) := ⟨rfl, rfl, rfl, by decide +kernel, rfl, by decide +kernel, by decide +kernel⟩
def spPut : Sp := fun vs H Q _ => ∃ (l : List Nat) (p c : Nat), l.length ≤ 1000 ∧ vs = [.str (S l), .int p, .str (S [c])] ∧ Q (.str (S (ins l p c))) H
theorem c_put (F : Df K mg "put_in" 15 f fd) : Cl P w K mg base (k + 1) "put_in" spPut := by
  refine F.cl (ps := ["row", "place", "sign"]) (F.fn.ok sc15 (fun vs H Q E h => ?_) (fun cdv A outer s H vs Q E hr h => ?_)) (F.fn.binds fun _ _ _ _ _ _ us hl => match us, hl with | [_, _, _], _ => rfl)
  · obtain ⟨l, p, c, _, rfl, _⟩ := h
    rfl
  · obtain ⟨l, p, c, hn, rfl, q⟩ := h
    refine ⟨_, pss_one (ps_ret (pe_op op_add_str (pe_op op_add_str (pe_slice sl_str (pv 0) po_none (po_some (pv 1))) (pv 2)) (pe_slice sl_str (pv 0) (po_some (pv 1)) po_none))), ?_⟩
    have b1 : (l.take p).length ≤ 1000 := by rw [List.length_take]; omega
    have b2 : (l.drop p).length ≤ 1000 := by rw [List.length_drop]; omega
    refine ⟨_, rfl, _, rfl, p, rfl, S l, rfl, line_S hn (by decide), _, rfl, _, _, rfl, rfl, ?_, ?_⟩
    · rw [cutS_to, S_len, S_len, sizeLine_eq]
      show _ + 1 ≤ _
      omega
    refine ⟨_, rfl, _, rfl, p, rfl, S l, rfl, line_S hn (by decide), _, _, rfl, rfl, ?_, ?_⟩
    · rw [cutS_to, cutS_from, S_app, S_len, S_len, sizeLine_eq, List.length_append]
      show _ + 1 + _ ≤ _
      omega
    rw [cutS_to, cutS_from, S_app, S_app]
    unfold ins at q
    rw [List.append_assoc]
    exact q
/-! ### glued -/
theorem sc16 : FnScope ["surface", "place", "other", "letter"] ["surface", "place", "other"] (defScope (topS 16)) := ⟨rfl, rfl, rfl, by decide +kernel, rfl, by decide +kernel, by decide +kernel⟩
def spGlued : Sp := fun vs H Q _ => ∃ (l : List Nat) (n p q : Nat), l.length = 2 * n ∧ n < 6 ∧ p ≤ 2 * n ∧ q ≤ 2 * n + 1 ∧ vs = [.str (S l), .int p, .int q] ∧ Q (.str (S (ins (ins l p (97 + n)) q (65 + n)))) H
theorem small_at {n : Nat} (h : n < 6) : atI smallS (n : Int) = some (97 + n) := by
  have : n = 0 ∨ n = 1 ∨ n = 2 ∨ n = 3 ∨ n = 4 ∨ n = 5 := by omega
  rcases this with h | h | h | h | h | h <;> subst h <;> decide
theorem c_glued (F : Df K mg "glued" 16 f fd) (T : Tx mg) (C1 : Cl P w K mg base k "put_in" spPut) (C2 : Cl P w K mg base k "back_of" spBackOf) : Cl P w K mg base (k + 1) "glued" spGlued := by
  refine F.cl (ps := ["surface", "place", "other"]) (F.fn.ok sc16 (fun vs H Q E h => ?_) (fun cdv A outer s H vs Q E hr h => ?_)) (F.fn.binds fun _ _ _ _ _ _ us hl => match us, hl with | [_, _, _], _ => rfl)
  · obtain ⟨l, n, p, q, _, _, _, _, rfl, _⟩ := h
    rfl
  · obtain ⟨l, n, p, q, hl, hn, hp, hq, rfl, fin⟩ := h
    obtain ⟨t1, g1⟩ := T.small
    obtain ⟨t2, g2⟩ := T.most
    have ln : (S l).length = 2 * n := by rw [S_len, hl]
    have ok : (S l).length ≤ sizeLine := by rw [ln, sizeLine_eq]; omega
    refine ⟨_, pss_cons (ps_if (pt_cmpR op_eq (pe_callB call_len_str (by rfl) T.len PySem.boot_len (pa_cons (pv 0) pa_nil)) (pe_glob (v := .int 12) rfl g2 ⟨_, rfl⟩) (nomark _)) pss_never pss_nil)
      (pss_cons (ps_set (i := 3) sc16.nd rfl (.inl rfl) (pe_ix ix_str (pe_glob (v := .str (S smallS)) rfl g1 ⟨_, rfl⟩) (pe_op op_fdiv (pe_callB call_len_str (by rfl) T.len PySem.boot_len (pa_cons (pv 0) pa_nil)) pe_int) (fun _ _ => rfl)))
      (pss_cons (ps_if (pt_not (pt_chain op_le op_le pe_int (pv 1) (pe_callB call_len_str (by rfl) T.len PySem.boot_len (pa_cons (pv 0) pa_nil)))) pss_never pss_nil)
      (pss_cons (ps_if (pt_not (pt_chain op_le op_le pe_int (pv 2) (pe_op op_add (pe_callB call_len_str (by rfl) T.len PySem.boot_len (pa_cons (pv 0) pa_nil)) pe_int))) pss_never pss_nil)
      (pss_one (ps_ret (pc C1 hr (Nat.le_refl _) (pa_cons (pc C1 hr (Nat.le_refl _) (pa_cons (pv 0) (pa_cons (pv 1) (pa_cons (pv 3) pa_nil)))) (pa_cons (pv 2) (pa_cons (pc C2 hr (Nat.le_refl _) (pa_cons (pv 3) pa_nil)) pa_nil))))))))), ?_⟩
    refine ⟨_, rfl, S l, rfl, ok, rfl, _, rfl, goF ?_ ?_⟩
    · rw [ln]
      refine decide_eq_false fun e => ?_
      have := V.int.inj e
      omega
    refine ⟨_, rfl, S l, rfl, ok, _, _, rfl, rfl, ⟨by decide, by decide⟩, S smallS, _, 97 + n, rfl, rfl, by rw [S_len, sizeLine_eq]; decide, ?_, ?_⟩
    · rw [ln, ← small_at hn]
      congr 1
      omega
    refine ⟨_, rfl, _, _, rfl, rfl, _, rfl, goT (decide_eq_true (by omega)) ⟨_, rfl, S l, rfl, ok, _, _, rfl, rfl, _, rfl, goF ?_ ?_⟩⟩
    · rw [ln, decide_eq_true (by omega)]
      rfl
    refine ⟨_, rfl, _, _, rfl, rfl, _, rfl, goT (decide_eq_true (by omega)) ⟨_, rfl, S l, rfl, ok, _, _, rfl, rfl, _, _, rfl, rfl, _, rfl, goF ?_ ?_⟩⟩
    · rw [ln, decide_eq_true (by omega)]
      rfl
    have hL : Lt 6 (97 + n) := .inl ⟨by omega, by omega⟩
    have hb : bk (97 + n) = 65 + n := by unfold bk; rw [if_pos (by omega)]; omega
    refine ⟨_, rfl, _, rfl, _, rfl, l, p, 97 + n, by omega, rfl, _, rfl, _, rfl, 97 + n, hL, rfl, ins l p (97 + n), q, 65 + n, by rw [ins_len]; omega, ?_, fin⟩
    rw [hb]
    rfl
end
end K72
namespace K72
open PySem PySem.Spec PyProof.Rows L2
/-- all but the object at d is as it was -/
def SameBut (d : Addr) (H H' : Hp) : Prop := ∀ b o, b ≠ d → H b = some o → H' b = some o
theorem SameBut.refl {d : Addr} {H : Hp} : SameBut d H H := fun _ _ _ h => h
theorem SameBut.same {d : Addr} {H H1 H2 : Hp} (a : SameBut d H H1) (b : Same H1 H2) : SameBut d H H2 := fun c o h e => b c o (a c o h e)
theorem SameBut.put {d : Addr} {H H1 : Hp} {o : HO} (a : SameBut d H H1) : SameBut d H (upd H1 d o) := fun c x h e => by
  rw [upd_ne h]
  exact a c x h e
/-- which gaps are left -/
def flags (l F : List Nat) : List V := (List.range l.length).map fun g => V.bl (!decide (nx l g ∈ F))
theorem flags_len (l F : List Nat) : (flags l F).length = l.length := by unfold flags; simp
theorem flags_at {l F : List Nat} {g : Nat} (h : g < l.length) : (flags l F)[g]? = some (.bl (!decide (nx l g ∈ F))) := by
  unfold flags
  rw [List.getElem?_map, List.getElem?_range h]
  rfl
theorem flags_set {l F : List Nat} (hn : l.Nodup) {g : Nat} (h : g < l.length) : (flags l F).set g (.bl false) = flags l (F ++ [nx l g]) := by
  apply List.ext_getElem?
  intro i
  by_cases hi : i < l.length
  · rw [flags_at hi]
    by_cases e : g = i
    · subst e
      rw [List.getElem?_set_self (by rw [flags_len]; exact h)]
      simp
    · rw [List.getElem?_set_ne e, flags_at hi]
      have : nx l i ≠ nx l g := fun q => e (nx_inj hn hi h q).symm
      simp [this]
  · rw [List.getElem?_eq_none (by rw [List.length_set, flags_len]; omega), List.getElem?_eq_none (by rw [flags_len]; omega)]
theorem ixN_nat {n g : Nat} (h : g < n) : ixN n (g : Int) = some g := by
  unfold ixN
  rw [if_pos (by omega), if_pos (by omega)]
  simp
theorem nx_at {l : List Nat} {g : Nat} (h : 0 < l.length) : atI l (((g : Int) + 1) % (l.length : Int)) = some (nx l g) := by
  have e : ((g : Int) + 1) % (l.length : Int) = (((g + 1) % l.length : Nat) : Int) := by
    rw [Int.natCast_emod, Int.natCast_add]
    rfl
  rw [e]
  refine atI_nat ?_
  have hl := Nat.mod_lt (g + 1) h
  unfold nx
  rw [List.getD_eq_getElem?_getD, List.getElem?_eq_getElem hl]
  rfl
section
variable {P : Program} {w : World} {K : PySem.W.Frag} {mg : Str → Option Value} {base : Heap} {f : Addr} {fd : FuncData} {k : Nat}
/-! ### round_of -/
theorem sc18 : FnScope ["surface", "gap", "left", "word", "letter"] ["surface", "gap", "left"] (defScope (topS 18)) := ⟨rfl, rfl, rfl, by decide +kernel, rfl, by decide +kernel, by decide +kernel⟩
def spRound : Sp := fun vs H Q _ => ∃ (n : Nat) (l : List Nat) (g : Nat) (d : Addr) (C : List (List Nat)), Surf n l ∧ g < l.length ∧ Found bk l C ∧ vs = [.str (S l), .int g, .ref d] ∧ H d = some (.lst (flags l C.flatten)) ∧
  ∀ (wd : List Nat) (H' : Hp), SameBut d H H' → H' d = some (.lst (flags l (C.flatten ++ wd))) → wd.length ≤ 12 → wd.Nodup → (∀ x ∈ wd, x ∈ l ∧ x ∉ C.flatten) →
    ((wd = [] ∧ nx l g ∈ C.flatten) ∨ (wd ≠ [] ∧ IsCyc (turn bk l) wd ∧ nx l g ∈ wd)) → Q (.str (S wd)) H'
theorem c_round (F : Df K mg "round_of" 18 f fd) (T : Tx mg) (C1 : Cl P w K mg base k "back" spBack) : Cl P w K mg base (k + 1) "round_of" spRound := by
  refine F.cl (ps := ["surface", "gap", "left"]) (F.fn.ok sc18 (fun vs H Q E h => ?_) (fun cdv A outer s H vs Q E hr h => ?_)) (F.fn.binds fun _ _ _ _ _ _ us hl => match us, hl with | [_, _, _], _ => rfl)
  · obtain ⟨n, l, g, d, C, _, _, _, rfl, _⟩ := h
    rfl
  · obtain ⟨n, l, g0, d, C, U, hg, Fd, rfl, hd, q⟩ := h
    have hlen : l.length ≤ 12 := by have := U.len; have := U.le; omega
    have hpos : 0 < l.length := by omega
    have okl : (S l).length ≤ sizeLine := by rw [S_len, sizeLine_eq]; omega
    refine ⟨_, pss_cons (ps_set (i := 3) sc18.nd rfl (.inl rfl) pe_str)
      (pss_cons (ps_while PassesOwn.never (pt_val (pe_ix ix_list (pv 2) (pv 1) (fun _ _ => rfl)))
        (pss_cons (ps_asg pe_bl (pg_sub (pv 2) (pv 1) set_list))
        (pss_cons (ps_set (i := 4) sc18.nd rfl (.inl rfl) (pe_ix ix_str (pv 0) (pe_op op_mod (pe_op op_add (pv 1) pe_int) (pe_callB call_len_str (by rfl) T.len PySem.boot_len (pa_cons (pv 0) pa_nil))) (fun _ _ => rfl)))
        (pss_cons (ps_set (i := 3) sc18.nd rfl (.inl rfl) (pe_op op_add_str (pv 3) (pv 4)))
        (pss_one (ps_set (i := 1) sc18.nd rfl (.inl rfl) (pe_bm PySem.F.plainAttrs_str PySem.F.slot_str_index PySem.F.type_str_index mt_sindex (pv 0) (pa_cons (pc C1 hr (Nat.le_refl _) (pa_cons (pv 4) pa_nil)) pa_nil))))))))
      (pss_one (ps_ret (pv 3)))), ?_⟩
    refine ⟨fun m σ H2 => ∃ wd g x4, σ = [some (.str (S l)), some (.int ((g : Nat) : Int)), some (.ref d), some (.str (S wd)), x4] ∧ m = l.length - wd.length ∧ Begun bk l C.flatten g0 wd g ∧ SameBut d H H2 ∧ H2 d = some (.lst (flags l (C.flatten ++ wd))),
      ⟨l.length, [], g0, none, rfl, by simp, Begun.start hg, SameBut.refl, by rw [List.append_nil]; exact hd⟩, fun m σ H2 hW => ?_⟩
    obtain ⟨wd, g, x4, rfl, rfl, B, sb, h2⟩ := hW
    have gl := B.lt
    have hwd : wd.length ≤ 12 := Nat.le_trans (nodup_le B.nodup fun x hx => (B.sub x hx).1) hlen
    refine ⟨_, rfl, _, rfl, d, _, _, _, rfl, rfl, .inl (.inl h2), atI_nat (flags_at gl), _, rfl, ?_⟩
    by_cases hin : nx l g ∈ C.flatten ++ wd
    · -- a gap that was met
      refine goF (by rw [decide_eq_true hin]; rfl) ?_
      refine ⟨_, rfl, q wd H2 sb h2 hwd B.nodup B.sub ?_⟩
      exact B.stop U.bands Fd (List.mem_append.mp hin)
    · refine goT (by rw [decide_eq_false hin]; rfl) ?_
      have n1 : nx l g ∉ C.flatten := fun h => hin (List.mem_append_left _ h)
      have n2 : nx l g ∉ wd := fun h => hin (List.mem_append_right _ h)
      have hm : nx l g ∈ l := nx_mem hpos g
      have L6 : Lt 6 (nx l g) := ((U.mem _).mp hm).mono U.le
      have hb := U.bands.mem _ hm
      refine ⟨fun σ' H' => ∃ m', m' < l.length - wd.length ∧ ∃ wd g x4, σ' = [some (.str (S l)), some (.int ((g : Nat) : Int)), some (.ref d), some (.str (S wd)), x4] ∧ m' = l.length - wd.length ∧ Begun bk l C.flatten g0 wd g ∧ SameBut d H H' ∧ H' d = some (.lst (flags l (C.flatten ++ wd))),
        fun _ _ hN => hN, ?_⟩
      -- left[gap] = False
      refine ⟨_, rfl, _, rfl, d, _, _, g, rfl, rfl, h2, by rw [flags_len]; exact ixN_nat gl, ?_⟩
      rw [flags_set U.nodup gl, List.append_assoc]
      -- letter, word
      refine ⟨_, rfl, _, rfl, _, _, rfl, rfl, _, rfl, S l, rfl, okl, _, l.length, rfl, by rw [S_len], by omega, S l, _, nx l g, rfl, rfl, okl, nx_at hpos, ?_⟩
      refine ⟨_, rfl, _, rfl, _, _, rfl, rfl, ?_, ?_⟩
      · rw [S_one, S_len, S_len, sizeLine_eq]
        show _ + 1 ≤ _
        omega
      rw [S_one, S_app]
      -- gap
      refine ⟨_, rfl, rfl, _, rfl, [nx l g], fun c hc => ?_, by simp, rfl, fun H3 sm => ?_⟩
      · have : c = nx l g := by simpa using hc
        rw [this]
        exact L6
      have e1 : bkW [nx l g] = [bk (nx l g)] := rfl
      rw [e1]
      obtain ⟨rest, ho⟩ := occ_idx hb
      refine ⟨S l, S [bk (nx l g)], _, rest, rfl, rfl, ho, ?_⟩
      have B' := B.next U.bands n1 n2
      have hm2 := B.more n2
      refine ⟨l.length - (wd ++ [nx l g]).length, ?_, wd ++ [nx l g], _, _, rfl, rfl, B', (SameBut.put sb).same sm, sm _ _ upd_same⟩
      rw [List.length_append]
      show l.length - (wd.length + 1) < _
      omega
/-! ### holes -/
theorem flat_len : ∀ {C : List (List Nat)}, (∀ c ∈ C, c ≠ []) → C.length ≤ C.flatten.length
  | [], _ => Nat.le_refl _
  | c :: C, h => by
    have ih := flat_len (C := C) fun d hd => h d (List.mem_cons_of_mem _ hd)
    have hc : 0 < c.length := List.length_pos_iff.mpr (h c (by simp))
    rw [List.flatten_cons, List.length_append, List.length_cons]
    omega
theorem flags_nil (l : List Nat) : List.replicate l.length (V.bl true) = flags l [] := by
  apply List.ext_getElem?
  intro i
  by_cases h : i < l.length
  · rw [flags_at h, List.getElem?_replicate, if_pos h]
    rfl
  · rw [List.getElem?_eq_none (by simp; omega), List.getElem?_eq_none (by rw [flags_len]; omega)]
theorem sc19 : FnScope ["surface", "left", "found", "gap", "word", "end"] ["surface"] (defScope (topS 19)) := ⟨rfl, rfl, rfl, by decide +kernel, rfl, by decide +kernel, by decide +kernel⟩
def words (C : List (List Nat)) : List V := C.map fun c => V.str (S c)
def spHoles : Sp := fun vs H Q _ => ∃ (n : Nat) (l : List Nat), Surf n l ∧ vs = [.str (S l)] ∧ ∀ (C : List (List Nat)) (p : Addr) (H' : Hp), Same H H' → H p = none → H' p = some (.lst (words C)) → Dec (turn bk l) l C →
  C.length ≤ 12 → (∀ c ∈ C, c.length ≤ 12) → Q (.ref p) H'
theorem c_holes (F : Df K mg "holes" 19 f fd) (T : Tx mg) (C1 : Cl P w K mg base k "round_of" spRound) : Cl P w K mg base (k + 1) "holes" spHoles := by
  refine F.cl (ps := ["surface"]) (F.fn.ok sc19 (fun vs H Q E h => ?_) (fun cdv A outer s H vs Q E hr h => ?_)) (F.fn.binds fun _ _ _ _ _ _ us hl => match us, hl with | [_], _ => rfl)
  · obtain ⟨n, l, _, rfl, _⟩ := h
    rfl
  · obtain ⟨n, l, U, rfl, q⟩ := h
    have hlen : l.length ≤ 12 := by have := U.len; have := U.le; omega
    have hpos : 0 < l.length := by have := U.len; have := U.pos; omega
    have okl : (S l).length ≤ sizeLine := by rw [S_len, sizeLine_eq]; omega
    refine ⟨_, pss_cons (ps_setLc (i := 1) (own := [("end", 5)]) (g := gName 5) (tt := tYes) rfl sc19.nd rfl rfl (sw_true rfl rfl rfl (by decide +kernel)) (pi_str (pv 0)) (blkOk_by (own := [("end", 5)]) (N := ["surface", "left", "found", "gap", "word", "end"]) (sc := defScope (topS 19)) (by decide +kernel))
        (fun _ _ _ _ _ => pg_name (i := 5) sc19.nd rfl (Or.inl rfl)) (fun _ _ _ _ _ => pts_nil) (fun _ _ _ _ _ => pe_bl))
      (pss_cons (ps_set (i := 2) sc19.nd rfl (.inl rfl) (pe_lst pa_nil))
      (pss_cons (ps_for PassesOwn.never rfl (pi_range1 rfl T.range (pa_cons (pe_callB call_len_str (by rfl) T.len PySem.boot_len (pa_cons (pv 0) pa_nil)) pa_nil)) (pg_name (i := 3) sc19.nd rfl (.inl rfl))
        (pss_cons (ps_set (i := 4) sc19.nd rfl (.inl rfl) (pc C1 hr (Nat.le_refl _) (pa_cons (pv 0) (pa_cons (pv 3) (pa_cons (pv 1) pa_nil)))))
        (pss_one (ps_if (pt_cmpR op_ne (pv 4) pe_str (nomark _))
          (pss_one (ps_expr (pe_bm PySem.F.plainAttrs_list PySem.F.slot_list_append PySem.F.type_list_append mt_append (pv 2) (pa_cons (pv 4) pa_nil)))) pss_nil))))
      (pss_one (ps_ret (pv 2))))), ?_⟩
    -- left
    refine ⟨_, rfl, S l, rfl, fun d nd => ?_⟩
    refine lc_text (l := l) (fun i H' => Same H H' ∧ H' d = some (.lst (List.replicate i (V.bl true)))) ⟨(Same.refl H).put nd, upd_same⟩ (fun i c H' hc p => ?_) fun H1 p => ?_
    · obtain ⟨sm, hD⟩ := p
      refine ⟨rfl, _, hD, ?_, sm.put nd, ?_⟩
      · have := (List.getElem?_eq_some_iff.mp hc).1
        rw [List.length_replicate, sizeLine_eq]
        omega
      · rw [upd_same, List.replicate_succ']
    obtain ⟨s1, h1⟩ := p
    rw [flags_nil] at h1
    -- found
    refine ⟨Nat.zero_le _, fun p np => ?_⟩
    have ndp : d ≠ p := ne_of_none h1 np
    have np0 : H p = none := s1.free np
    -- the gaps
    refine ⟨_, rfl, S l, rfl, okl, _, rfl, by rw [S_len]; omega, by rw [S_len]; omega, ?_⟩
    have ej : ((S l).length : Int).toNat = l.length := by rw [S_len]; rfl
    rw [ej]
    refine for_range (lo := 0) (n := l.length) (fun i σ H' => ∃ C x3 x4 x5, σ = [some (.str (S l)), some (.ref d), some (.ref p), x3, x4, x5] ∧ Found bk l C ∧ (∀ g, g < i → nx l g ∈ C.flatten) ∧ (∀ c ∈ C, c ≠ []) ∧ Same H H' ∧
      H' d = some (.lst (flags l C.flatten)) ∧ H' p = some (.lst (words C)) ∧ ∀ c ∈ C, c.length ≤ 12) ⟨[], none, none, none, rfl, Found.nil, (fun g h => absurd h (Nat.not_lt_zero _)), (fun c h => nomatch h), s1.put np0, ?_, upd_same, (fun c h => nomatch h)⟩ (fun i σ H' hi pv => ?_) fun σ H' pv => ?_
    · rw [upd_ne ndp]
      exact h1
    · obtain ⟨C, x3, x4, x5, rfl, Fd, hg, hne, sm, hd, hp, hw⟩ := pv
      rw [Int.zero_add]
      refine ⟨_, rfl, _, rfl, _, rfl, n, l, i, d, C, U, hi, Fd, rfl, hd, fun wd H2 sb h2 hwd wnd wsub alt => ?_⟩
      have sm2 : Same H H2 := fun b o e => sb b o (ne_of_none e nd) (sm b o e)
      have hp2 : H2 p = some (.lst (words C)) := sb p _ (Ne.symm ndp) hp
      have hC : C.length ≤ 12 := Nat.le_trans (flat_len hne) (Nat.le_trans (nodup_le Fd.nodup Fd.sub) hlen)
      refine ⟨_, rfl, rfl, _, rfl, ?_⟩
      rcases alt with ⟨rfl, ha⟩ | ⟨hne2, hcyc, hx⟩
      · refine goF (by rw [decide_eq_true (show V.str (S []) = V.str ((("" : String)) : Str) by rw [lit_nil])]; rfl) ?_
        rw [List.append_nil] at h2
        refine ⟨C, _, _, _, rfl, Fd, fun g hgi => ?_, hne, sm2, h2, hp2, hw⟩
        by_cases e : g = i
        · rw [e]; exact ha
        · exact hg g (by omega)
      · refine goT (by
          rw [decide_eq_false]
          · rfl
          · intro e
            rw [lit_nil] at e
            exact hne2 (S_inj (V.str.inj e))) ?_
        refine ⟨_, rfl, .inl ⟨rfl, _, .inl (.inl hp2)⟩, _, rfl, p, _, _, rfl, rfl, hp2, ?_, ?_⟩
        · show (C.map _).length < _
          rw [List.length_map, sizeLine_eq]
          omega
        have ef : (C ++ [wd]).flatten = C.flatten ++ wd := by simp
        refine ⟨C ++ [wd], _, _, _, rfl, Fd.snoc hcyc wnd wsub, fun g hgi => ?_, fun c hc => ?_, sm2.put np0, ?_, ?_, fun c hc => ?_⟩
        · rw [ef]
          by_cases e : g = i
          · rw [e]; exact List.mem_append_right _ hx
          · exact List.mem_append_left _ (hg g (by omega))
        · rcases List.mem_append.mp hc with hc | hc
          · exact hne c hc
          · rw [List.mem_singleton.mp hc]; exact hne2
        · rw [upd_ne ndp, ef]
          exact h2
        · rw [upd_same]
          show some (HO.lst (words C ++ [V.str (S wd)])) = _
          unfold words
          rw [List.map_append]
          rfl
        · rcases List.mem_append.mp hc with hc | hc
          · exact hw c hc
          · rw [List.mem_singleton.mp hc]; exact hwd
    · obtain ⟨C, x3, x4, x5, rfl, Fd, hg, hne, sm, hd, hp, hw⟩ := pv
      have hC : C.length ≤ 12 := Nat.le_trans (flat_len hne) (Nat.le_trans (nodup_le Fd.nodup Fd.sub) hlen)
      exact ⟨_, rfl, q C p H' sm np0 hp (Fd.dec hpos hg) hC hw⟩
/-! ### handles -/
theorem sc20 : FnScope ["surface"] ["surface"] (defScope (topS 20)) := ⟨rfl, rfl, rfl, by decide +kernel, rfl, by decide +kernel, by decide +kernel⟩
def spHandles : Sp := fun vs H Q _ => ∃ (n : Nat) (l : List Nat), Surf n l ∧ vs = [.str (S l)] ∧ ∀ (C : List (List Nat)) (H' : Hp), Same H H' → Dec (turn bk l) l C → Q (.int ((1 + (n : Int) - C.length) / 2)) H'
theorem c_handles (F : Df K mg "handles" 20 f fd) (T : Tx mg) (C1 : Cl P w K mg base k "holes" spHoles) : Cl P w K mg base (k + 1) "handles" spHandles := by
  refine F.cl (ps := ["surface"]) (F.fn.ok sc20 (fun vs H Q E h => ?_) (fun cdv A outer s H vs Q E hr h => ?_)) (F.fn.binds fun _ _ _ _ _ _ us hl => match us, hl with | [_], _ => rfl)
  · obtain ⟨n, l, _, rfl, _⟩ := h
    rfl
  · obtain ⟨n, l, U, rfl, q⟩ := h
    have ln : (S l).length = 2 * n := by rw [S_len, U.len]
    have okl : (S l).length ≤ sizeLine := by have := U.le; rw [ln, sizeLine_eq]; omega
    refine ⟨_, pss_one (ps_ret (pe_op op_fdiv (pe_op op_sub (pe_op op_add pe_int (pe_op op_fdiv (pe_callB call_len_str (by rfl) T.len PySem.boot_len (pa_cons (pv 0) pa_nil)) pe_int))
      (pe_callB call_len_seq (by rfl) T.len PySem.boot_len (pa_cons (pc C1 hr (Nat.le_refl _) (pa_cons (pv 0) pa_nil)) pa_nil))) pe_int)), ?_⟩
    refine ⟨_, rfl, S l, rfl, okl, _, _, rfl, rfl, ⟨by decide, by decide⟩, _, _, rfl, rfl, ?_⟩
    refine ⟨_, rfl, n, l, U, rfl, fun C p H' sm np hp d _ _ => ?_⟩
    refine ⟨p, words C, rfl, .inl (.inl (.inl hp)), _, _, rfl, rfl, _, _, rfl, rfl, ⟨by decide, by decide⟩, ?_⟩
    have e : (1 + (((S l).length : Nat) : Int) / 2 - ((words C).length : Nat)) / 2 = (1 + (n : Int) - C.length) / 2 := by
      rw [ln]
      unfold words
      rw [List.length_map]
      omega
    show Q (V.int ((1 + (((S l).length : Nat) : Int) / 2 - ((words C).length : Nat)) / 2)) H'
    rw [e]
    exact q C H' sm d
end
end K72
namespace K72
open PySem PySem.Spec PyProof.Rows L2
/-- the ways as they stand: a tuple of texts; a strand: a pair -/
def WaysAt (H : Hp) (a : Addr) (us : List (List Nat)) : Prop := H a = some (.tup (us.map fun u => V.str (S u)))
def StrAt (H : Hp) (a : Addr) (s : Sd) : Prop := H a = some (.tup [.int (s.1 : Nat), .int (s.2 : Nat)])
/-- what is known of ways on a row -/
structure WaysIn (l : List Nat) (us : List (List Nat)) : Prop where
  ways : Ways l us
  short : ∀ u ∈ us, u.length ≤ 30
  few : us.length ≤ 4
def OkS (us : List (List Nat)) (s : Sd) : Prop := s.1 < us.length ∧ s.2 < (us.getD s.1 []).length
theorem tupOf {K : PySem.W.Frag} {H : Hp} {a : Addr} {xs : List V} (h : H a = some (.tup xs)) : SqT K H a xs := .inl (.inl h)
theorem getD_mem {us : List (List Nat)} {i : Nat} (h : i < us.length) : us.getD i [] ∈ us := by
  rw [List.getD_eq_getElem?_getD, List.getElem?_eq_getElem h]
  exact List.getElem_mem h
theorem way_at {us : List (List Nat)} {i : Nat} (h : i < us.length) : atI (us.map fun u => V.str (S u)) (i : Int) = some (.str (S (us.getD i []))) := by
  refine atI_nat ?_
  rw [List.getElem?_map, List.getD_eq_getElem?_getD, List.getElem?_eq_getElem h]
  rfl
theorem sign_at {u : List Nat} (h : u ≠ []) (k : Int) : atI u (k % (u.length : Int)) = some (at_ u k) := by
  have hp : 0 < u.length := List.length_pos_iff.mpr h
  have h1 : 0 ≤ k % (u.length : Int) := Int.emod_nonneg _ (by omega)
  have h2 : k % (u.length : Int) < u.length := Int.emod_lt_of_pos _ (by omega)
  have hl : (k % (u.length : Int)).toNat < u.length := by omega
  have e : k % (u.length : Int) = ((k % (u.length : Int)).toNat : Nat) := by omega
  rw [e]
  refine atI_nat ?_
  unfold at_
  rw [List.getD_eq_getElem?_getD, List.getElem?_eq_getElem hl]
  rfl
theorem WaysIn.len {l : List Nat} {us : List (List Nat)} (W : WaysIn l us) {i : Nat} (h : i < us.length) : (us.getD i []).length ≤ 30 := W.short _ (getD_mem h)
theorem WaysIn.pos {l : List Nat} {us : List (List Nat)} (W : WaysIn l us) {i : Nat} (h : i < us.length) : 0 < (us.getD i []).length := List.length_pos_iff.mpr (W.ways.ne _ (getD_mem h))
theorem WaysIn.letter {l : List Nat} {us : List (List Nat)} (W : WaysIn l us) {s : Sd} (h : s.1 < us.length) (k : Int) : letter us s k ∈ l := W.ways.mem _ (getD_mem h) _ (at_mem (W.ways.ne _ (getD_mem h)) _)
theorem boot_isi : bootBuiltins "isinstance" = some (.builtin "isinstance") := by decide +kernel
theorem boot_all : bootBuiltins "all" = some (.builtin "all") := by decide +kernel
theorem boot_tytup : bootBuiltins "tuple" = some (.type "tuple") := by decide +kernel
theorem boot_tyint : bootBuiltins "int" = some (.type "int") := by decide +kernel
theorem boot_tybool : bootBuiltins "bool" = some (.type "bool") := by decide +kernel
theorem boot_tystr : bootBuiltins "str" = some (.type "str") := by decide +kernel
theorem kit_no {K : PySem.W.Frag} {a b : String} {r : Bool} (h : kitB a b = some r := by decide +kernel) : PySem.W.kitOne K (.type a) (.type b) = some r := kit_ty h
theorem okT {n : Nat} (h : n ≤ 1000) : n ≤ sizeLine := by rw [sizeLine_eq]; omega
section
variable {P : Program} {w : World} {K : PySem.W.Frag} {mg : Str → Option Value} {base : Heap} {f : Addr} {fd : FuncData} {k : Nat}
/-! ### moved -/
theorem sc22 : FnScope ["ways", "strand", "step", "way", "place"] ["ways", "strand", "step"] (defScope (topS 22)) := ⟨rfl, rfl, rfl, by decide +kernel, rfl, by decide +kernel, by decide +kernel⟩
def spMoved : Sp := fun vs H Q _ => ∃ (l : List Nat) (us : List (List Nat)) (W s : Addr) (z : Sd) (k : Int), WaysIn l us ∧ OkS us z ∧ WaysAt H W us ∧ StrAt H s z ∧ vs = [.ref W, .ref s, .int k] ∧
  ∀ r, H r = none → Q (.ref r) (upd H r (.tup [.int (z.1 : Nat), .int (movedP us z k)]))
theorem c_moved (F : Df K mg "moved" 22 f fd) (T : Tx mg) : Cl P w K mg base (k + 1) "moved" spMoved := by
  refine F.cl (ps := ["ways", "strand", "step"]) (F.fn.ok sc22 (fun vs H Q E h => ?_) (fun cdv A outer s H vs Q E hr h => ?_)) (F.fn.binds fun _ _ _ _ _ _ us hl => match us, hl with | [_, _, _], _ => rfl)
  · obtain ⟨l, us, W, s, z, k, _, _, _, _, rfl, _⟩ := h
    rfl
  · obtain ⟨l, us, W, s, z, k, WI, hz, hW, hs, rfl, q⟩ := h
    have hp := WI.pos hz.1
    refine ⟨_, pss_cons (ps_asg (pv 1) (pg_tup rfl (pgs_cons (pg_name (i := 3) sc22.nd rfl (.inl rfl)) (pgs_cons (pg_name (i := 4) sc22.nd rfl (.inl rfl)) pgs_nil))))
      (pss_one (ps_ret (pe_tup (pa_cons (pv 3) (pa_cons (pe_op op_mod (pe_op op_add (pv 4) (pv 2)) (pe_callB call_len (by rfl) T.len PySem.boot_len (pa_cons (pe_ix ix_tup (pv 0) (pv 3) (fun _ _ => rfl)) pa_nil))) pa_nil))))), ?_⟩
    refine ⟨_, rfl, s, _, rfl, tupOf hs, rfl, _, _, rfl, _, [], rfl, rfl, ?_⟩
    refine ⟨_, rfl, _, rfl, _, rfl, _, _, rfl, rfl, _, rfl, _, rfl, W, _, _, _, rfl, rfl, tupOf hW, way_at hz.1, _, (us.getD z.1 []).length, rfl, ⟨line_S (WI.len hz.1) (by decide), by rw [S_len]⟩, _, _, rfl, rfl, by omega, okT (by show 2 ≤ _; omega), fun r hr => q r hr⟩
/-! ### letter_at -/
theorem sc23 : FnScope ["ways", "strand", "step", "way", "place"] ["ways", "strand", "step"] (defScope (topS 23)) := ⟨rfl, rfl, rfl, by decide +kernel, rfl, by decide +kernel, by decide +kernel⟩
def spLetter : Sp := fun vs H Q _ => ∃ (l : List Nat) (us : List (List Nat)) (W s : Addr) (z : Sd) (k : Int), WaysIn l us ∧ OkS us z ∧ WaysAt H W us ∧ StrAt H s z ∧ vs = [.ref W, .ref s, .int k] ∧ Q (.str (S [letter us z k])) H
theorem c_letter (F : Df K mg "letter_at" 23 f fd) (T : Tx mg) : Cl P w K mg base (k + 1) "letter_at" spLetter := by
  refine F.cl (ps := ["ways", "strand", "step"]) (F.fn.ok sc23 (fun vs H Q E h => ?_) (fun cdv A outer s H vs Q E hr h => ?_)) (F.fn.binds fun _ _ _ _ _ _ us hl => match us, hl with | [_, _, _], _ => rfl)
  · obtain ⟨l, us, W, s, z, k, _, _, _, _, rfl, _⟩ := h
    rfl
  · obtain ⟨l, us, W, s, z, k, WI, hz, hW, hs, rfl, q⟩ := h
    have hp := WI.pos hz.1
    have okw := line_S (WI.len hz.1) (show 30 ≤ 16777216 by decide)
    refine ⟨_, pss_cons (ps_asg (pv 1) (pg_tup rfl (pgs_cons (pg_name (i := 3) sc23.nd rfl (.inl rfl)) (pgs_cons (pg_name (i := 4) sc23.nd rfl (.inl rfl)) pgs_nil))))
      (pss_one (ps_ret (pe_ix ix_str (pe_ix ix_tup (pv 0) (pv 3) (fun _ _ => rfl)) (pe_op op_mod (pe_op op_add (pv 4) (pv 2)) (pe_callB call_len (by rfl) T.len PySem.boot_len (pa_cons (pe_ix ix_tup (pv 0) (pv 3) (fun _ _ => rfl)) pa_nil))) (fun _ _ => rfl)))), ?_⟩
    refine ⟨_, rfl, s, _, rfl, tupOf hs, rfl, _, _, rfl, _, [], rfl, rfl, ?_⟩
    refine ⟨_, rfl, _, rfl, W, _, _, _, rfl, rfl, tupOf hW, way_at hz.1, _, rfl, _, rfl, _, _, rfl, rfl, _, rfl, _, rfl, W, _, _, _, rfl, rfl, tupOf hW, way_at hz.1, _, (us.getD z.1 []).length, rfl, ⟨okw, by rw [S_len]⟩, _, _, rfl, rfl, by omega,
      S (us.getD z.1 []), _, _, rfl, rfl, okw, sign_at (WI.ways.ne _ (getD_mem hz.1)) _, q⟩
/-! ### room_of -/
theorem sc25 : FnScope ["ways", "one", "other"] ["ways", "one", "other"] (defScope (topS 25)) := ⟨rfl, rfl, rfl, by decide +kernel, rfl, by decide +kernel, by decide +kernel⟩
def spRoom : Sp := fun vs H Q _ => ∃ (l : List Nat) (us : List (List Nat)) (W s t : Addr) (y z : Sd), WaysIn l us ∧ OkS us y ∧ OkS us z ∧ WaysAt H W us ∧ StrAt H s y ∧ StrAt H t z ∧ vs = [.ref W, .ref s, .ref t] ∧ Q (.int (room us y z : Nat)) H
theorem c_room (F : Df K mg "room_of" 25 f fd) (T : Tx mg) : Cl P w K mg base (k + 1) "room_of" spRoom := by
  refine F.cl (ps := ["ways", "one", "other"]) (F.fn.ok sc25 (fun vs H Q E h => ?_) (fun cdv A outer s H vs Q E hr h => ?_)) (F.fn.binds fun _ _ _ _ _ _ us hl => match us, hl with | [_, _, _], _ => rfl)
  · obtain ⟨l, us, W, s, t, y, z, _, _, _, _, _, _, rfl, _⟩ := h
    rfl
  · obtain ⟨l, us, W, s, t, y, z, WI, hy, hz, hW, hs, ht, rfl, q⟩ := h
    have ok1 := line_S (WI.len hy.1) (show 30 ≤ 16777216 by decide)
    have ok2 := line_S (WI.len hz.1) (show 30 ≤ 16777216 by decide)
    refine ⟨_, pss_one (ps_ret (pe_op op_add (pe_callB call_len (by rfl) T.len PySem.boot_len (pa_cons (pe_ix ix_tup (pv 0) (pe_ix ix_tup (pv 1) pe_int (fun _ _ => rfl)) (fun _ _ => rfl)) pa_nil))
      (pe_callB call_len (by rfl) T.len PySem.boot_len (pa_cons (pe_ix ix_tup (pv 0) (pe_ix ix_tup (pv 2) pe_int (fun _ _ => rfl)) (fun _ _ => rfl)) pa_nil)))), ?_⟩
    refine ⟨_, rfl, _, rfl, s, _, 0, _, rfl, rfl, tupOf hs, rfl, W, _, _, _, rfl, rfl, tupOf hW, way_at hy.1, _, (us.getD y.1 []).length, rfl, ⟨ok1, by rw [S_len]⟩, ?_⟩
    refine ⟨_, rfl, _, rfl, t, _, 0, _, rfl, rfl, tupOf ht, rfl, W, _, _, _, rfl, rfl, tupOf hW, way_at hz.1, _, (us.getD z.1 []).length, rfl, ⟨ok2, by rw [S_len]⟩, _, _, rfl, rfl, ?_⟩
    exact q
/-! ### is_strand -/
theorem sc24 : FnScope ["ways", "thing", "one"] ["ways", "thing"] (defScope (topS 24)) := ⟨rfl, rfl, rfl, by decide +kernel, rfl, by decide +kernel, by decide +kernel⟩
def spIsStr : Sp := fun vs H Q _ => ∃ (l : List Nat) (us : List (List Nat)) (W s : Addr) (z : Sd), WaysIn l us ∧ OkS us z ∧ WaysAt H W us ∧ StrAt H s z ∧ vs = [.ref W, .ref s] ∧ ∀ H', Same H H' → Q (.bl true) H'
theorem c_isStr (F : Df K mg "is_strand" 24 f fd) (T : Tx mg) : Cl P w K mg base (k + 1) "is_strand" spIsStr := by
  refine F.cl (ps := ["ways", "thing"]) (F.fn.ok sc24 (fun vs H Q E h => ?_) (fun cdv A outer s H vs Q E hr h => ?_)) (F.fn.binds fun _ _ _ _ _ _ us hl => match us, hl with | [_, _], _ => rfl)
  · obtain ⟨l, us, W, s, z, _, _, _, _, rfl, _⟩ := h
    rfl
  · obtain ⟨l, us, W, s, z, WI, hz, hW, hs, rfl, q⟩ := h
    have ok1 := line_S (WI.len hz.1) (show 30 ≤ 16777216 by decide)
    refine ⟨_, pss_cons (ps_if (PW.pt (pw_or (pt_not (pt_val (pe_callB (r := rIsi K) call_isi (by rfl) T.isinstance boot_isi (pa_cons (pv 1) (pa_cons (pe_bltn (v := .ty "tuple") (by rfl) T.tuple boot_tytup rfl) pa_nil)))))
        (pw_or1 (pt_cmpR op_ne (pe_callB call_len_seq (by rfl) T.len PySem.boot_len (pa_cons (pv 1) pa_nil)) pe_int (nomark _))))) pss_never pss_nil)
      (pss_cons (ps_if (pt_not (pt_val (pe_callB (cr_all rfl) (by rfl) T.all boot_all (pa_cons (pe_lc (own := [("one", 2)]) (g := gName 2) (tt := tYes) rfl sc24.nd (pi_tup (pv 1)) (blkOk_by (own := [("one", 2)]) (N := ["ways", "thing", "one"]) (sc := defScope (topS 24)) (by decide +kernel))
          (fun _ _ _ _ _ => pg_name (i := 2) sc24.nd rfl (Or.inl rfl)) (fun _ _ _ _ _ => pts_nil)
          (fun _ _ _ _ _ => pe_and (pe_callB (r := rIsi K) call_isi (by rfl) T.isinstance boot_isi (pa_cons (pv 2) (pa_cons (pe_bltn (v := .ty "int") (by rfl) T.int boot_tyint rfl) pa_nil)))
            (pe_and (pe_not (pe_callB (r := rIsi K) call_isi (by rfl) T.isinstance boot_isi (pa_cons (pv 2) (pa_cons (pe_bltn (v := .ty "bool") (by rfl) T.bool boot_tybool rfl) pa_nil))))
            (pe_one (pe_cmpR op_ge (pv 2) pe_int (nomark _)))))) pa_nil)))) pss_never pss_nil)
      (pss_one (ps_ret (pe_and (pe_cmpR op_lt (pe_ix ix_tup (pv 1) pe_int (fun _ _ => rfl)) (pe_callB call_len_seq (by rfl) T.len PySem.boot_len (pa_cons (pv 0) pa_nil)) (nomark _))
        (pe_one (pe_cmpR op_lt (pe_ix ix_tup (pv 1) pe_int (fun _ _ => rfl)) (pe_callB call_len (by rfl) T.len PySem.boot_len (pa_cons (pe_ix ix_tup (pv 0) (pe_ix ix_tup (pv 1) pe_int (fun _ _ => rfl)) (fun _ _ => rfl)) pa_nil)) (nomark _))))))), ?_⟩
    refine ⟨_, rfl, _, .ty "tuple", .type "tuple", .type "tuple", true, rfl, .ty _, .base (.tup hs), kit_no, _, rfl, iteF ?_⟩
    refine ⟨_, rfl, s, _, rfl, .inr (tupOf hs), rfl, _, rfl, goF rfl ?_⟩
    -- all whole numbers from 0 on
    refine ⟨_, rfl, s, rfl, ⟨_, tupOf hs⟩, fun D nD => ?_⟩
    have nsD : s ≠ D := ne_of_none hs nD
    refine lc_tup (xs := [.int (z.1 : Nat), .int (z.2 : Nat)]) (fun i H' => Same H H' ∧ H' D = some (.lst (List.replicate i (V.bl true)))) ⟨(Same.refl H).put nD, upd_same⟩ (fun i H' _ p => tupOf (p.1 _ _ hs)) (fun i x H' hx p => ?_) fun H' p => ?_
    · obtain ⟨sm, hD⟩ := p
      have hx' : i < 2 ∧ ∃ n : Nat, x = .int (n : Nat) := by
        have hlt := (List.getElem?_eq_some_iff.mp hx).1
        refine ⟨hlt, ?_⟩
        match i, hx with
        | 0, hx => exact ⟨z.1, (Option.some.inj hx).symm⟩
        | 1, hx => exact ⟨z.2, (Option.some.inj hx).symm⟩
        | i + 2, _ => exact absurd hlt (by show ¬ i + 2 < 2; omega)
      obtain ⟨hi, n, rfl⟩ := hx'
      refine ⟨rfl, _, rfl, _, .ty "int", .type "int", .type "int", true, rfl, .ty _, .base (.int _), kit_no, true, rfl, iteT ?_⟩
      refine ⟨_, rfl, _, .ty "bool", .type "int", .type "bool", false, rfl, .ty _, .base (.int _), kit_no, false, rfl, true, rfl, iteT ?_⟩
      refine ⟨_, rfl, _, _, rfl, rfl, _, hD, ?_, sm.put nD, ?_⟩
      · rw [List.length_replicate, sizeLine_eq]; omega
      · have e : decide ((0 : Int) ≤ (n : Nat)) = true := decide_eq_true (Int.ofNat_nonneg n)
        show upd H' D (.lst (List.replicate i (V.bl true) ++ [V.bl (decide ((0 : Int) ≤ (n : Nat)))])) D = _
        rw [upd_same, e, List.replicate_succ']
    obtain ⟨sm, hD⟩ := p
    refine ⟨D, [true, true], rfl, .inl (.inl hD), true, rfl, iteF ?_⟩
    have hs2 := sm _ _ hs
    have hW2 := sm _ _ hW
    refine ⟨_, rfl, s, _, 0, _, rfl, rfl, tupOf hs2, rfl, _, rfl, W, _, rfl, .inr (tupOf hW2), _, _, rfl, rfl, _, rfl, goT (decide_eq_true ?_) ?_⟩
    · rw [List.length_map]
      have := hz.1
      omega
    refine ⟨_, rfl, s, _, 1, _, rfl, rfl, tupOf hs2, rfl, _, rfl, _, rfl, s, _, 0, _, rfl, rfl, tupOf hs2, rfl, W, _, _, _, rfl, rfl, tupOf hW2, way_at hz.1, _, (us.getD z.1 []).length, rfl, ⟨ok1, by rw [S_len]⟩, _, _, rfl, rfl, ?_⟩
    have e : decide (((z.2 : Nat) : Int) < ((us.getD z.1 []).length : Nat)) = true := decide_eq_true (by have := hz.2; omega)
    show Q (.bl (decide (((z.2 : Nat) : Int) < ((us.getD z.1 []).length : Nat)))) H'
    rw [e]
    exact q H' sm
end
end K72
namespace K72
open PySem PySem.Spec PyProof.Rows L2
theorem met_mem (k : Str) : ∀ xs : List Str, (met xs).any (· == k) = decide (k ∈ xs) := by
  intro xs
  rw [← List.reverse_reverse xs]
  induction xs.reverse with
  | nil => simp [met]
  | cons x r ih =>
    rw [List.reverse_cons, met_any, ih]
    by_cases h1 : k ∈ r.reverse <;> by_cases h2 : k = x <;> simp_all
theorem met_nodup (xs : List Str) : (met xs).length = xs.length ↔ xs.Nodup := by
  rw [← List.reverse_reverse xs]
  induction xs.reverse with
  | nil => simp [met]
  | cons x r ih =>
    have h1 := met_le r.reverse
    rw [List.reverse_cons, met_len, met_mem, List.length_append, List.nodup_append]
    by_cases h2 : x ∈ r.reverse
    · rw [if_pos (by simpa using h2)]
      constructor
      · intro h; simp at h h1; omega
      · rintro ⟨_, _, h⟩
        exact absurd rfl (h x h2 x (by simp))
    · rw [if_neg (by simpa using h2)]
      constructor
      · intro h
        refine ⟨ih.mp (by simpa using h), by simp, fun a ha b hb => ?_⟩
        have : b = x := by simpa using hb
        subst this
        intro e
        exact h2 (e ▸ ha)
      · rintro ⟨h, _, _⟩
        rw [ih.mpr h]
        rfl
theorem ones_nodup : ∀ {l : List Nat}, (l.map fun c => S [c]).Nodup ↔ l.Nodup := by
  intro l
  induction l with
  | nil => simp
  | cons a r ih =>
    rw [List.map_cons, List.nodup_cons, List.nodup_cons, ih]
    refine and_congr ?_ Iff.rfl
    refine ⟨fun h g => h (List.mem_map.mpr ⟨a, g, rfl⟩), fun h g => h ?_⟩
    obtain ⟨b, hb, e⟩ := List.mem_map.mp g
    have := S_inj e
    simp at this
    exact this ▸ hb
theorem met4 (a b c d : Nat) : decide (((met [S [a], S [b], S [c], S [d]]).length : Int) < 4) = !decide ([a, b, c, d].Nodup) := by
  have h := met_nodup [S [a], S [b], S [c], S [d]]
  have h1 := met_le [S [a], S [b], S [c], S [d]]
  have h2 : [S [a], S [b], S [c], S [d]].Nodup ↔ [a, b, c, d].Nodup := ones_nodup (l := [a, b, c, d])
  rw [h2] at h
  have e4 : [S [a], S [b], S [c], S [d]].length = 4 := rfl
  rw [e4] at h h1
  by_cases n : [a, b, c, d].Nodup
  · rw [decide_eq_true n, h.mpr n]; rfl
  · rw [decide_eq_false n]
    have : (met [S [a], S [b], S [c], S [d]]).length ≠ 4 := fun q => n (h.mp q)
    exact decide_eq_true (by omega)
theorem size4 {α : Type} {a b c d : α} : [a, b, c, d].length ≤ sizeLine := by rw [sizeLine_eq]; simp
theorem bl_ne (a b : Bool) : (!decide (V.bl a = V.bl b)) = (a != b) := by cases a <;> cases b <;> simp
theorem bl_eq (a b : Bool) : decide (V.bl a = V.bl b) = (a == b) := by cases a <;> cases b <;> simp
theorem lex2 (i p j q : Int) : HT.lexLt [i, p] [j, q] = sl i p j q := rfl
section
variable {P : Program} {w : World} {K : PySem.W.Frag} {mg : Str → Option Value} {base : Heap} {f : Addr} {fd : FuncData} {k : Nat}
/-! ### comes_first -/
theorem sc27 : FnScope ["surface", "begin", "one", "other", "at", "row"] ["surface", "begin", "one", "other"] (defScope (topS 27)) := ⟨rfl, rfl, rfl, by decide +kernel, rfl, by decide +kernel, by decide +kernel⟩
def spFirst : Sp := fun vs H Q _ => ∃ (l : List Nat) (b x y : Nat), l.length ≤ 12 ∧ b ∈ l ∧ x ∈ l ∧ y ∈ l ∧ vs = [.str (S l), .str (S [b]), .str (S [x]), .str (S [y])] ∧ Q (.bl (cf l b x y)) H
theorem mem_rot {l : List Nat} {b x : Nat} (h : x ∈ l) : x ∈ rot l b := by
  unfold rot
  rw [List.mem_append, or_comm, ← List.mem_append, List.take_append_drop]
  exact h
theorem c_first (F : Df K mg "comes_first" 27 f fd) (T : Tx mg) : Cl P w K mg base (k + 1) "comes_first" spFirst := by
  refine F.cl (ps := ["surface", "begin", "one", "other"]) (F.fn.ok sc27 (fun vs H Q E h => ?_) (fun cdv A outer s H vs Q E hr h => ?_)) (F.fn.binds fun _ _ _ _ _ _ us hl => match us, hl with | [_, _, _, _], _ => rfl)
  · obtain ⟨l, b, x, y, _, _, _, _, rfl, _⟩ := h
    rfl
  · obtain ⟨l, b, x, y, hl, hb, hx, hy, rfl, q⟩ := h
    have okl : (S l).length ≤ sizeLine := line_S hl (by decide)
    refine ⟨_, pss_cons (ps_set (i := 4) sc27.nd rfl (.inl rfl) (pe_bm PySem.F.plainAttrs_str PySem.F.slot_str_index PySem.F.type_str_index mt_sindex (pv 0) (pa_cons (pv 1) pa_nil)))
      (pss_cons (ps_set (i := 5) sc27.nd rfl (.inl rfl) (pe_op op_add_str (pe_slice sl_str (pv 0) (po_some (pv 4)) po_none) (pe_slice sl_str (pv 0) po_none (po_some (pv 4)))))
      (pss_one (ps_ret (pe_cmpR op_lt (pe_bm PySem.F.plainAttrs_str PySem.F.slot_str_index PySem.F.type_str_index mt_sindex (pv 5) (pa_cons (pv 2) pa_nil))
        (pe_bm PySem.F.plainAttrs_str PySem.F.slot_str_index PySem.F.type_str_index mt_sindex (pv 5) (pa_cons (pv 3) pa_nil)) (nomark _))))), ?_⟩
    obtain ⟨r1, o1⟩ := occ_idx hb
    obtain ⟨r2, o2⟩ := occ_idx (mem_rot (b := b) hx)
    obtain ⟨r3, o3⟩ := occ_idx (mem_rot (b := b) hy)
    refine ⟨_, rfl, rfl, _, rfl, _, _, _, _, rfl, rfl, o1, ?_⟩
    refine ⟨_, rfl, _, rfl, l.idxOf b, rfl, S l, rfl, okl, _, rfl, _, rfl, l.idxOf b, rfl, S l, rfl, okl, _, _, rfl, rfl, ?_, ?_⟩
    · rw [cutS_to, cutS_from, S_len, S_len, List.length_drop, List.length_take, sizeLine_eq]
      omega
    rw [cutS_to, cutS_from, S_app]
    refine ⟨_, rfl, rfl, _, rfl, _, _, _, _, rfl, rfl, o2, ?_⟩
    refine ⟨_, rfl, rfl, _, rfl, _, _, _, _, rfl, rfl, o3, _, _, rfl, rfl, ?_⟩
    have e : decide ((((rot l b).idxOf x : Nat) : Int) < ((rot l b).idxOf y : Nat)) = cf l b x y := decide_eq_decide.mpr (by omega)
    show Q (.bl (decide ((((rot l b).idxOf x : Nat) : Int) < ((rot l b).idxOf y : Nat)))) H
    rw [e]
    exact q
/-! ### is_beside -/
theorem sc28 : FnScope ["surface", "ways", "one", "other", "first", "last", "begin", "end"] ["surface", "ways", "one", "other"] (defScope (topS 28)) := ⟨rfl, rfl, rfl, by decide +kernel, rfl, by decide +kernel, by decide +kernel⟩
def spBeside : Sp := fun vs H Q _ => ∃ (n : Nat) (l : List Nat) (us : List (List Nat)) (W s t : Addr) (y z : Sd), Surf n l ∧ WaysIn l us ∧ OkS us y ∧ OkS us z ∧ WaysAt H W us ∧ StrAt H s y ∧ StrAt H t z ∧ vs = [.str (S l), .ref W, .ref s, .ref t] ∧
  ∀ H', Same H H' → Q (.bl (isBeside l us y z)) H'
theorem Surf.lt {n : Nat} {l : List Nat} (U : Surf n l) {c : Nat} (h : c ∈ l) : Lt 6 c := ((U.mem c).mp h).mono U.le
theorem Surf.bk {n : Nat} {l : List Nat} (U : Surf n l) {c : Nat} (h : c ∈ l) : K72.bk c ∈ l := U.bands.mem c h
theorem Surf.len12 {n : Nat} {l : List Nat} (U : Surf n l) : l.length ≤ 12 := by have := U.len; have := U.le; omega
theorem bkW1 (c : Nat) : bkW [c] = [bk c] := rfl
theorem one_lt {c : Nat} (h : Lt 6 c) : ∀ x ∈ [c], Lt 6 x := fun x hx => by
  have : x = c := by simpa using hx
  rw [this]
  exact h
theorem c_beside (F : Df K mg "is_beside" 28 f fd) (T : Tx mg) (C1 : Cl P w K mg base k "back" spBack) (C2 : Cl P w K mg base k "letter_at" spLetter) (C3 : Cl P w K mg base k "comes_first" spFirst) : Cl P w K mg base (k + 1) "is_beside" spBeside := by
  refine F.cl (ps := ["surface", "ways", "one", "other"]) (F.fn.ok sc28 (fun vs H Q E h => ?_) (fun cdv A outer s H vs Q E hr h => ?_)) (F.fn.binds fun _ _ _ _ _ _ us hl => match us, hl with | [_, _, _, _], _ => rfl)
  · obtain ⟨n, l, us, W, s, t, y, z, _, _, _, _, _, _, _, rfl, _⟩ := h
    rfl
  · obtain ⟨n, l, us, W, s, t, y, z, U, WI, hy, hz, hW, hs, ht, rfl, q⟩ := h
    refine ⟨_, pss_cons (ps_par rfl sc28.nd (i := 4) (j := 5) rfl rfl (by decide) rfl rfl (pa_cons (pc C1 hr (Nat.le_refl _) (pa_cons (pc C2 hr (Nat.le_refl _) (pa_cons (pv 1) (pa_cons (pv 2) (pa_cons pe_int pa_nil)))) pa_nil)) (pa_cons (pc C2 hr (Nat.le_refl _) (pa_cons (pv 1) (pa_cons (pv 2) (pa_cons pe_int pa_nil)))) pa_nil)) rfl)
      (pss_cons (ps_par rfl sc28.nd (i := 6) (j := 7) rfl rfl (by decide) rfl rfl (pa_cons (pc C1 hr (Nat.le_refl _) (pa_cons (pc C2 hr (Nat.le_refl _) (pa_cons (pv 1) (pa_cons (pv 3) (pa_cons pe_int pa_nil)))) pa_nil)) (pa_cons (pc C2 hr (Nat.le_refl _) (pa_cons (pv 1) (pa_cons (pv 3) (pa_cons pe_int pa_nil)))) pa_nil)) rfl)
      (pss_cons (ps_if (PW.pt (pw_or (pt_not (pt_cmpR (op_ltT hr.units0) (pv 2) (pv 3) (nomark _))) (pw_or1 (pt_cmpR op_lt (pe_lenTx rfl rfl T.len rfl T.set (pe_lst (pa_cons (pv 4) (pa_cons (pv 5) (pa_cons (pv 6) (pa_cons (pv 7) pa_nil)))))) pe_int (nomark _))))) (pss_one (ps_ret pe_bl)) pss_nil)
      (pss_one (ps_ret (pe_cmpR op_ne (pc C3 hr (Nat.le_refl _) (pa_cons (pv 0) (pa_cons (pv 4) (pa_cons (pv 6) (pa_cons (pv 5) pa_nil))))) (pc C3 hr (Nat.le_refl _) (pa_cons (pv 0) (pa_cons (pv 4) (pa_cons (pv 7) (pa_cons (pv 5) pa_nil))))) (nomark _)))))), ?_⟩
    refine ⟨_, rfl, _, rfl, l, us, W, s, y, 0, WI, hy, hW, hs, rfl, [letter us y 0], one_lt (U.lt (WI.letter hy.1 0)), by simp, rfl, fun H1 s1 => ?_⟩
    have hW1 := s1 _ _ hW
    have hs1 := s1 _ _ hs
    have ht1 := s1 _ _ ht
    refine ⟨_, rfl, _, rfl, l, us, W, s, y, 1, WI, hy, hW1, hs1, rfl, _, _, rfl, ?_⟩
    refine ⟨_, rfl, _, rfl, l, us, W, t, z, 0, WI, hz, hW1, ht1, rfl, [letter us z 0], one_lt (U.lt (WI.letter hz.1 0)), by simp, rfl, fun H2 s2 => ?_⟩
    have hW2 := s2 _ _ hW1
    have hs2 := s2 _ _ hs1
    have ht2 := s2 _ _ ht1
    refine ⟨_, rfl, _, rfl, l, us, W, t, z, 1, WI, hz, hW2, ht2, rfl, _, _, rfl, ?_⟩
    refine ⟨_, rfl, _, rfl, s, t, [(y.1 : Int), (y.2 : Int)], [(z.1 : Int), (z.2 : Int)], rfl, rfl, tupOf hs2, tupOf ht2, _, rfl, ?_⟩
    rw [lex2]
    have s12 : Same H H2 := s1.trans s2
    cases hb : sl y.1 y.2 z.1 z.2 with
    | false =>
      refine goT rfl (iteT ?_)
      have e : isBeside l us y z = false := by
        unfold isBeside
        rw [hb]
        rfl
      have := q H2 s12
      rw [e] at this
      exact this
    | true =>
      refine goF rfl ?_
      refine ⟨_, rfl, _, rfl, _, rfl, _, rfl, size4, fun p np => ⟨p, [S [bk (letter us y 0)], S [letter us y 1], S [bk (letter us z 0)], S [letter us z 1]], rfl, .inl (.inl upd_same), by simp, _, _, rfl, rfl, _, rfl, ?_⟩⟩
      rw [met4]
      have s3 : Same H (upd H2 p (.lst [V.str (S [bk (letter us y 0)]), V.str (S [letter us y 1]), V.str (S [bk (letter us z 0)]), V.str (S [letter us z 1])])) := s12.put (s12.free np)
      cases hn : decide ([bk (letter us y 0), letter us y 1, bk (letter us z 0), letter us z 1].Nodup) with
      | false =>
        refine goT rfl ?_
        have e : isBeside l us y z = false := by
          unfold isBeside
          rw [hb, hn]
          rfl
        have := q _ s3
        rw [e] at this
        exact this
      | true =>
        refine goF rfl ?_
        have m1 := U.bk (WI.letter hy.1 0)
        have m2 := WI.letter hy.1 1
        have m3 := U.bk (WI.letter hz.1 0)
        have m4 := WI.letter hz.1 1
        refine ⟨_, rfl, _, rfl, _, rfl, _, rfl, l, _, _, _, U.len12, m1, m3, m2, rfl, _, rfl, _, rfl, _, rfl, _, rfl, l, _, _, _, U.len12, m1, m4, m2, rfl, ?_⟩
        have e : isBeside l us y z = (cf l (bk (letter us y 0)) (bk (letter us z 0)) (letter us y 1) != cf l (bk (letter us y 0)) (letter us z 1) (letter us y 1)) := by
          unfold isBeside
          rw [hb, hn]
          rfl
        have := q _ s3
        rw [e] at this
        rw [← bl_ne] at this
        exact ⟨rfl, this⟩
end
end K72
namespace K72
open PySem PySem.Spec PyProof.Rows L2
theorem all_id {α : Type} (g : α → Bool) (l : List α) : (l.map g).all id = l.all g := by rw [List.all_map]; rfl
theorem str_eq (a b : Nat) : decide (V.str (S [a]) = V.str (S [b])) = (a == b) := by
  rw [Bool.eq_iff_iff, decide_eq_true_iff, beq_iff_eq]
  constructor
  · intro h
    have := S_inj (V.str.inj h)
    simpa using this
  · rintro rfl
    rfl
section
variable {P : Program} {w : World} {K : PySem.W.Frag} {mg : Str → Option Value} {base : Heap} {f : Addr} {fd : FuncData} {k : Nat}
/-! ### is_along -/
theorem sc29 : FnScope ["surface", "ways", "one", "other", "many", "here", "there", "ahead", "from_one", "from_other", "k"] ["surface", "ways", "one", "other", "many"] (defScope (topS 29)) := ⟨rfl, rfl, rfl, by decide +kernel, rfl, by decide +kernel, by decide +kernel⟩
def spAlong : Sp := fun vs H Q _ => ∃ (n : Nat) (l : List Nat) (us : List (List Nat)) (W s t : Addr) (y z : Sd) (m : Nat), Surf n l ∧ WaysIn l us ∧ OkS us y ∧ OkS us z ∧ WaysAt H W us ∧ StrAt H s y ∧ StrAt H t z ∧ m ≤ 100 ∧ vs = [.str (S l), .ref W, .ref s, .ref t, .int m] ∧
  ∀ H', Same H H' → Q (.bl (isAlong l us y z m)) H'
theorem c_along (F : Df K mg "is_along" 29 f fd) (T : Tx mg) (C1 : Cl P w K mg base k "back" spBack) (C2 : Cl P w K mg base k "letter_at" spLetter) (C3 : Cl P w K mg base k "comes_first" spFirst) (C4 : Cl P w K mg base k "room_of" spRoom) : Cl P w K mg base (k + 1) "is_along" spAlong := by
  refine F.cl (ps := ["surface", "ways", "one", "other", "many"]) (F.fn.ok sc29 (fun vs H Q E h => ?_) (fun cdv A outer s H vs Q E hr h => ?_)) (F.fn.binds fun _ _ _ _ _ _ us hl => match us, hl with | [_, _, _, _, _], _ => rfl)
  · obtain ⟨n, l, us, W, s, t, y, z, m, _, _, _, _, _, _, _, _, rfl, _⟩ := h
    rfl
  · obtain ⟨n, l, us, W, s, t, y, z, m, U, WI, hy, hz, hW, hs, ht, hm, rfl, q⟩ := h
    refine ⟨_, pss_cons (ps_if (PW.pt (pw_or (pt_not (pt_cmpR (op_ltT hr.units0) (pv 2) (pv 3) (nomark _))) (pw_or1 (pt_cmpR op_gt (pv 4) (pc C4 hr (Nat.le_refl _) (pa_cons (pv 1) (pa_cons (pv 2) (pa_cons (pv 3) pa_nil)))) (nomark _))))) (pss_one (ps_ret pe_bl)) pss_nil)
      (pss_cons (ps_if (pt_not (pt_val (pe_callB (cr_all rfl) (by rfl) T.all boot_all (pa_cons (pe_lc (own := [("k", 10)]) (g := gName 10) (tt := tYes) rfl sc29.nd (pi_range1 rfl T.range (pa_cons (pv 4) pa_nil)) (blkOk_by (own := [("k", 10)]) (N := ["surface", "ways", "one", "other", "many", "here", "there", "ahead", "from_one", "from_other", "k"]) (sc := defScope (topS 29)) (by decide +kernel))
          (fun _ _ _ _ _ => pg_name (i := 10) sc29.nd rfl (Or.inl rfl)) (fun _ _ _ _ _ => pts_nil)
          (fun _ _ _ _ _ => pe_cmpR op_eq (pc C2 hr (Nat.le_refl _) (pa_cons (pv 1) (pa_cons (pv 2) (pa_cons (pv 10) pa_nil)))) (pc C2 hr (Nat.le_refl _) (pa_cons (pv 1) (pa_cons (pv 3) (pa_cons (pv 10) pa_nil)))) (nomark _))) pa_nil)))) (pss_one (ps_ret pe_bl)) pss_nil)
      (pss_cons (ps_if (pt_cmpR op_eq (pc C2 hr (Nat.le_refl _) (pa_cons (pv 1) (pa_cons (pv 2) (pa_cons (pe_un un_neg pe_int) pa_nil)))) (pc C2 hr (Nat.le_refl _) (pa_cons (pv 1) (pa_cons (pv 3) (pa_cons (pe_un un_neg pe_int) pa_nil)))) (nomark _)) (pss_one (ps_ret pe_bl)) pss_nil)
      (pss_cons (ps_par rfl sc29.nd (i := 5) (j := 6) rfl rfl (by decide) rfl rfl (pa_cons (pc C2 hr (Nat.le_refl _) (pa_cons (pv 1) (pa_cons (pv 2) (pa_cons (pv 4) pa_nil)))) (pa_cons (pc C2 hr (Nat.le_refl _) (pa_cons (pv 1) (pa_cons (pv 3) (pa_cons (pv 4) pa_nil)))) pa_nil)) rfl)
      (pss_cons (ps_if (pt_cmpR op_eq (pv 5) (pv 6) (nomark _)) (pss_one (ps_ret pe_bl)) pss_nil)
      (pss_cons (ps_set (i := 7) sc29.nd rfl (.inl rfl) (pc C3 hr (Nat.le_refl _) (pa_cons (pv 0) (pa_cons (pc C1 hr (Nat.le_refl _) (pa_cons (pc C2 hr (Nat.le_refl _) (pa_cons (pv 1) (pa_cons (pv 2) (pa_cons (pe_op op_sub (pv 4) pe_int) pa_nil)))) pa_nil)) (pa_cons (pv 5) (pa_cons (pv 6) pa_nil))))))
      (pss_cons (ps_par rfl sc29.nd (i := 8) (j := 9) rfl rfl (by decide) rfl rfl (pa_cons (pc C1 hr (Nat.le_refl _) (pa_cons (pc C2 hr (Nat.le_refl _) (pa_cons (pv 1) (pa_cons (pv 2) (pa_cons (pe_un un_neg pe_int) pa_nil)))) pa_nil)) (pa_cons (pc C1 hr (Nat.le_refl _) (pa_cons (pc C2 hr (Nat.le_refl _) (pa_cons (pv 1) (pa_cons (pv 3) (pa_cons (pe_un un_neg pe_int) pa_nil)))) pa_nil)) pa_nil)) rfl)
      (pss_one (ps_ret (pe_cmpR op_eq (pv 7) (pc C3 hr (Nat.le_refl _) (pa_cons (pv 0) (pa_cons (pc C2 hr (Nat.le_refl _) (pa_cons (pv 1) (pa_cons (pv 2) (pa_cons pe_int pa_nil)))) (pa_cons (pv 8) (pa_cons (pv 9) pa_nil))))) (nomark _)))))))))), ?_⟩
    refine ⟨_, rfl, _, rfl, s, t, [(y.1 : Int), (y.2 : Int)], [(z.1 : Int), (z.2 : Int)], rfl, rfl, tupOf hs, tupOf ht, _, rfl, ?_⟩
    rw [lex2]
    cases e1 : sl y.1 y.2 z.1 z.2 with
    | false =>
      refine goT rfl (iteT ?_)
      have e : isAlong l us y z m = false := by
        unfold isAlong
        rw [e1]
        rfl
      have := q H (Same.refl H)
      rw [e] at this
      exact this
    | true =>
    refine goF rfl ?_
    refine ⟨_, rfl, _, rfl, _, rfl, _, rfl, l, us, W, s, t, y, z, WI, hy, hz, hW, hs, ht, rfl, _, _, rfl, rfl, _, rfl, ?_⟩
    have e2' : decide ((m : Int) > (room us y z : Nat)) = decide (m > room us y z) := decide_eq_decide.mpr (by omega)
    rw [e2']
    cases e2 : decide (m > room us y z) with
    | true =>
      refine goT rfl ?_
      have e : isAlong l us y z m = false := by
        unfold isAlong
        rw [e1, e2]
        rfl
      have := q H (Same.refl H)
      rw [e] at this
      exact this
    | false =>
    refine goF rfl ?_
    refine ⟨_, rfl, m, rfl, by omega, by omega, fun D nD => ?_⟩
    rw [Int.toNat_natCast]
    refine lc_range (lo := 0) (n := m) (fun i H' => Same H H' ∧ H' D = some (.lst (((List.range i).map fun k => letter us y (k : Nat) == letter us z (k : Nat)).map V.bl))) ⟨(Same.refl H).put nD, upd_same⟩ (fun i H' hi p => ?_) fun H1 p => ?_
    · obtain ⟨sm, hD⟩ := p
      rw [Int.zero_add]
      refine ⟨rfl, _, rfl, _, rfl, _, rfl, l, us, W, s, y, i, WI, hy, sm _ _ hW, sm _ _ hs, rfl, _, rfl, _, rfl, _, rfl, l, us, W, t, z, i, WI, hz, sm _ _ hW, sm _ _ ht, rfl, rfl, _, hD, ?_, sm.put nD, ?_⟩
      · rw [List.length_map, List.length_map, List.length_range, sizeLine_eq]; omega
      · rw [upd_same, str_eq, List.range_succ, List.map_append, List.map_append]
        rfl
    obtain ⟨s1, hD⟩ := p
    have hW1 := s1 _ _ hW
    have hs1 := s1 _ _ hs
    have ht1 := s1 _ _ ht
    refine ⟨D, _, rfl, .inl (.inl hD), _, rfl, ?_⟩
    rw [all_id]
    cases e3 : (List.range m).all fun k => letter us y (k : Nat) == letter us z (k : Nat) with
    | false =>
      refine goT rfl ?_
      have e : isAlong l us y z m = false := by
        unfold isAlong
        rw [e1, e2, e3]
        rfl
      have := q H1 s1
      rw [e] at this
      exact this
    | true =>
    refine goF rfl ?_
    refine ⟨_, rfl, _, rfl, _, rfl, l, us, W, s, y, -1, WI, hy, hW1, hs1, rfl, _, rfl, _, rfl, _, rfl, l, us, W, t, z, -1, WI, hz, hW1, ht1, rfl, rfl, _, rfl, ?_⟩
    rw [str_eq]
    cases e4 : letter us y (-1) == letter us z (-1) with
    | true =>
      refine goT rfl ?_
      have e : isAlong l us y z m = false := by
        unfold isAlong
        rw [e1, e2, e3, e4]
        rfl
      have := q H1 s1
      rw [e] at this
      exact this
    | false =>
    refine goF rfl ?_
    refine ⟨_, rfl, _, rfl, _, rfl, l, us, W, s, y, m, WI, hy, hW1, hs1, rfl, _, rfl, _, rfl, _, rfl, l, us, W, t, z, m, WI, hz, hW1, ht1, rfl, _, _, rfl, ?_⟩
    refine ⟨_, rfl, _, rfl, rfl, _, rfl, ?_⟩
    rw [str_eq]
    cases e5 : letter us y m == letter us z m with
    | true =>
      refine goT rfl ?_
      have e : isAlong l us y z m = false := by
        unfold isAlong
        rw [e1, e2, e3, e4, e5]
        rfl
      have := q H1 s1
      rw [e] at this
      exact this
    | false =>
    refine goF rfl ?_
    -- ahead
    have hm1 : ∀ {i : Sd} (k : Int), i.1 < us.length → Lt 6 (letter us i k) := fun {i} k hi => U.lt (WI.letter hi k)
    refine ⟨_, rfl, _, rfl, _, rfl, _, rfl, _, _, rfl, rfl, l, us, W, s, y, _, WI, hy, hW1, hs1, rfl, [letter us y (m - 1)], one_lt (hm1 _ hy.1), by simp, rfl, fun H2 s2 => ?_⟩
    have hW2 := s2 _ _ hW1
    have hs2 := s2 _ _ hs1
    have ht2 := s2 _ _ ht1
    refine ⟨_, rfl, _, rfl, l, _, _, _, U.len12, U.bk (WI.letter hy.1 (m - 1)), WI.letter hy.1 m, WI.letter hz.1 m, rfl, ?_⟩
    -- from_one, from_other
    refine ⟨_, rfl, _, rfl, _, rfl, l, us, W, s, y, -1, WI, hy, hW2, hs2, rfl, [letter us y (-1)], one_lt (hm1 _ hy.1), by simp, rfl, fun H3 s3 => ?_⟩
    have hW3 := s3 _ _ hW2
    have hs3 := s3 _ _ hs2
    have ht3 := s3 _ _ ht2
    refine ⟨_, rfl, _, rfl, _, rfl, l, us, W, t, z, -1, WI, hz, hW3, ht3, rfl, [letter us z (-1)], one_lt (hm1 _ hz.1), by simp, rfl, fun H4 s4 => ?_⟩
    have hW4 := s4 _ _ hW3
    have hs4 := s4 _ _ hs3
    refine ⟨_, _, rfl, ?_⟩
    refine ⟨_, rfl, _, rfl, _, rfl, _, rfl, l, us, W, s, y, 0, WI, hy, hW4, hs4, rfl, _, rfl, _, rfl, l, _, _, _, U.len12, WI.letter hy.1 0, U.bk (WI.letter hy.1 (-1)), U.bk (WI.letter hz.1 (-1)), rfl, ?_⟩
    have e : isAlong l us y z m = (cf l (bk (letter us y (m - 1))) (letter us y m) (letter us z m) == cf l (letter us y 0) (bk (letter us y (-1))) (bk (letter us z (-1)))) := by
      unfold isAlong
      rw [e1, e2, e3, e4, e5]
      rfl
    have := q H4 (s1.trans (s2.trans (s3.trans s4)))
    rw [e, ← bl_eq] at this
    exact ⟨rfl, this⟩
/-! ### is_against -/
theorem sc30 : FnScope ["surface", "ways", "one", "other", "many", "here", "there", "ahead", "from_one", "from_other", "k"] ["surface", "ways", "one", "other", "many"] (defScope (topS 30)) := ⟨rfl, rfl, rfl, by decide +kernel, rfl, by decide +kernel, by decide +kernel⟩
def spAgainst : Sp := fun vs H Q _ => ∃ (n : Nat) (l : List Nat) (us : List (List Nat)) (W s t : Addr) (y z : Sd) (m : Nat), Surf n l ∧ WaysIn l us ∧ OkS us y ∧ OkS us z ∧ WaysAt H W us ∧ StrAt H s y ∧ StrAt H t z ∧ m ≤ 100 ∧ vs = [.str (S l), .ref W, .ref s, .ref t, .int m] ∧
  ∀ H', Same H H' → Q (.bl (isAgainst l us y z m)) H'
theorem c_against (F : Df K mg "is_against" 30 f fd) (T : Tx mg) (C1 : Cl P w K mg base k "back" spBack) (C2 : Cl P w K mg base k "letter_at" spLetter) (C3 : Cl P w K mg base k "comes_first" spFirst) (C4 : Cl P w K mg base k "room_of" spRoom) (C5 : Cl P w K mg base k "moved" spMoved) : Cl P w K mg base (k + 1) "is_against" spAgainst := by
  refine F.cl (ps := ["surface", "ways", "one", "other", "many"]) (F.fn.ok sc30 (fun vs H Q E h => ?_) (fun cdv A outer s H vs Q E hr h => ?_)) (F.fn.binds fun _ _ _ _ _ _ us hl => match us, hl with | [_, _, _, _, _], _ => rfl)
  · obtain ⟨n, l, us, W, s, t, y, z, m, _, _, _, _, _, _, _, _, rfl, _⟩ := h
    rfl
  · obtain ⟨n, l, us, W, s, t, y, z, m, U, WI, hy, hz, hW, hs, ht, hm, rfl, q⟩ := h
    refine ⟨_, pss_cons (ps_if (PW.pt (pw_or (pt_cmpR op_gt (pv 4) (pc C4 hr (Nat.le_refl _) (pa_cons (pv 1) (pa_cons (pv 2) (pa_cons (pv 3) pa_nil)))) (nomark _)) (pw_or1 (pt_not (pt_cmpR (op_ltT hr.units0) (pv 2) (pc C5 hr (Nat.le_refl _) (pa_cons (pv 1) (pa_cons (pv 3) (pa_cons (pe_op op_sub pe_int (pv 4)) pa_nil)))) (nomark _)))))) (pss_one (ps_ret pe_bl)) pss_nil)
      (pss_cons (ps_if (pt_not (pt_val (pe_callB (cr_all rfl) (by rfl) T.all boot_all (pa_cons (pe_lc (own := [("k", 10)]) (g := gName 10) (tt := tYes) rfl sc30.nd (pi_range1 rfl T.range (pa_cons (pv 4) pa_nil)) (blkOk_by (own := [("k", 10)]) (N := ["surface", "ways", "one", "other", "many", "here", "there", "ahead", "from_one", "from_other", "k"]) (sc := defScope (topS 30)) (by decide +kernel))
          (fun _ _ _ _ _ => pg_name (i := 10) sc30.nd rfl (Or.inl rfl)) (fun _ _ _ _ _ => pts_nil)
          (fun _ _ _ _ _ => pe_cmpR op_eq (pc C2 hr (Nat.le_refl _) (pa_cons (pv 1) (pa_cons (pv 2) (pa_cons (pv 10) pa_nil)))) (pc C1 hr (Nat.le_refl _) (pa_cons (pc C2 hr (Nat.le_refl _) (pa_cons (pv 1) (pa_cons (pv 3) (pa_cons (pe_un un_neg (pv 10)) pa_nil)))) pa_nil)) (nomark _))) pa_nil)))) (pss_one (ps_ret pe_bl)) pss_nil)
      (pss_cons (ps_if (pt_cmpR op_eq (pc C2 hr (Nat.le_refl _) (pa_cons (pv 1) (pa_cons (pv 2) (pa_cons (pe_un un_neg pe_int) pa_nil)))) (pc C1 hr (Nat.le_refl _) (pa_cons (pc C2 hr (Nat.le_refl _) (pa_cons (pv 1) (pa_cons (pv 3) (pa_cons pe_int pa_nil)))) pa_nil)) (nomark _)) (pss_one (ps_ret pe_bl)) pss_nil)
      (pss_cons (ps_par rfl sc30.nd (i := 5) (j := 6) rfl rfl (by decide) rfl rfl (pa_cons (pc C2 hr (Nat.le_refl _) (pa_cons (pv 1) (pa_cons (pv 2) (pa_cons (pv 4) pa_nil)))) (pa_cons (pc C1 hr (Nat.le_refl _) (pa_cons (pc C2 hr (Nat.le_refl _) (pa_cons (pv 1) (pa_cons (pv 3) (pa_cons (pe_un un_neg (pv 4)) pa_nil)))) pa_nil)) pa_nil)) rfl)
      (pss_cons (ps_if (pt_cmpR op_eq (pv 5) (pv 6) (nomark _)) (pss_one (ps_ret pe_bl)) pss_nil)
      (pss_cons (ps_set (i := 7) sc30.nd rfl (.inl rfl) (pc C3 hr (Nat.le_refl _) (pa_cons (pv 0) (pa_cons (pc C1 hr (Nat.le_refl _) (pa_cons (pc C2 hr (Nat.le_refl _) (pa_cons (pv 1) (pa_cons (pv 2) (pa_cons (pe_op op_sub (pv 4) pe_int) pa_nil)))) pa_nil)) (pa_cons (pv 5) (pa_cons (pv 6) pa_nil))))))
      (pss_cons (ps_par rfl sc30.nd (i := 8) (j := 9) rfl rfl (by decide) rfl rfl (pa_cons (pc C1 hr (Nat.le_refl _) (pa_cons (pc C2 hr (Nat.le_refl _) (pa_cons (pv 1) (pa_cons (pv 2) (pa_cons (pe_un un_neg pe_int) pa_nil)))) pa_nil)) (pa_cons (pc C2 hr (Nat.le_refl _) (pa_cons (pv 1) (pa_cons (pv 3) (pa_cons pe_int pa_nil)))) pa_nil)) rfl)
      (pss_one (ps_ret (pe_cmpR op_eq (pv 7) (pc C3 hr (Nat.le_refl _) (pa_cons (pv 0) (pa_cons (pc C2 hr (Nat.le_refl _) (pa_cons (pv 1) (pa_cons (pv 2) (pa_cons pe_int pa_nil)))) (pa_cons (pv 8) (pa_cons (pv 9) pa_nil))))) (nomark _)))))))))), ?_⟩
    have L6 : ∀ {i : Sd} (k : Int), i.1 < us.length → Lt 6 (letter us i k) := fun {i} k hi => U.lt (WI.letter hi k)
    refine ⟨_, rfl, _, rfl, _, rfl, _, rfl, l, us, W, s, t, y, z, WI, hy, hz, hW, hs, ht, rfl, _, _, rfl, rfl, _, rfl, ?_⟩
    have e1' : decide ((m : Int) > (room us y z : Nat)) = decide (m > room us y z) := decide_eq_decide.mpr (by omega)
    rw [e1']
    cases e1 : decide (m > room us y z) with
    | true =>
      refine goT rfl (iteT ?_)
      have e : isAgainst l us y z m = false := by
        unfold isAgainst
        rw [e1]
        rfl
      have := q H (Same.refl H)
      rw [e] at this
      exact this
    | false =>
    refine goF rfl ?_
    refine ⟨_, rfl, _, rfl, _, rfl, _, rfl, _, _, rfl, rfl, l, us, W, t, z, _, WI, hz, hW, ht, rfl, fun r nr => ?_⟩
    have s0 : Same H (upd H r (.tup [.int (z.1 : Nat), .int (movedP us z (1 - m))])) := (Same.refl H).put nr
    have hW0 := s0 _ _ hW
    have hs0 := s0 _ _ hs
    have ht0 := s0 _ _ ht
    refine ⟨s, r, [(y.1 : Int), (y.2 : Int)], [(z.1 : Int), movedP us z (1 - m)], rfl, rfl, tupOf hs0, tupOf upd_same, _, rfl, ?_⟩
    rw [lex2]
    cases e2 : sl y.1 y.2 z.1 (movedP us z (1 - m)) with
    | false =>
      refine goT rfl ?_
      have e : isAgainst l us y z m = false := by
        unfold isAgainst
        rw [e1, e2]
        rfl
      have := q _ s0
      rw [e] at this
      exact this
    | true =>
    refine goF rfl ?_
    generalize upd H r (.tup [.int (z.1 : Nat), .int (movedP us z (1 - m))]) = H0 at s0 hW0 hs0 ht0
    refine ⟨_, rfl, m, rfl, by omega, by omega, fun D nD => ?_⟩
    rw [Int.toNat_natCast]
    refine lc_range (lo := 0) (n := m) (fun i H' => Same H0 H' ∧ H' D = some (.lst (((List.range i).map fun k => letter us y (k : Nat) == bk (letter us z (-(k : Nat)))).map V.bl))) ⟨(Same.refl H0).put nD, upd_same⟩ (fun i H' hi p => ?_) fun H1 p => ?_
    · obtain ⟨sm, hD⟩ := p
      rw [Int.zero_add]
      refine ⟨rfl, _, rfl, _, rfl, _, rfl, l, us, W, s, y, i, WI, hy, sm _ _ hW0, sm _ _ hs0, rfl, _, rfl, _, rfl, _, rfl, _, rfl, l, us, W, t, z, _, WI, hz, sm _ _ hW0, sm _ _ ht0, rfl, [letter us z (-(i : Nat))], one_lt (L6 _ hz.1), by simp, rfl, fun H2 s2 => ?_⟩
      refine ⟨rfl, _, s2 _ _ hD, ?_, (sm.trans s2).put nD, ?_⟩
      · rw [List.length_map, List.length_map, List.length_range, sizeLine_eq]; omega
      · rw [upd_same, bkW1, str_eq, List.range_succ, List.map_append, List.map_append]
        rfl
    obtain ⟨s1', hD⟩ := p
    have hW1 := s1' _ _ hW0
    have hs1 := s1' _ _ hs0
    have ht1 := s1' _ _ ht0
    have s1 := s0.trans s1'
    refine ⟨D, _, rfl, .inl (.inl hD), _, rfl, ?_⟩
    rw [all_id]
    cases e3 : (List.range m).all fun k => letter us y (k : Nat) == bk (letter us z (-(k : Nat))) with
    | false =>
      refine goT rfl ?_
      have e : isAgainst l us y z m = false := by
        unfold isAgainst
        rw [e1, e2, e3]
        rfl
      have := q H1 s1
      rw [e] at this
      exact this
    | true =>
    refine goF rfl ?_
    refine ⟨_, rfl, _, rfl, _, rfl, l, us, W, s, y, -1, WI, hy, hW1, hs1, rfl, _, rfl, _, rfl, l, us, W, t, z, 1, WI, hz, hW1, ht1, rfl, [letter us z 1], one_lt (L6 _ hz.1), by simp, rfl, fun H2 s2 => ?_⟩
    refine ⟨rfl, _, rfl, ?_⟩
    rw [bkW1, str_eq]
    have hW2 := s2 _ _ hW1
    have hs2 := s2 _ _ hs1
    have ht2 := s2 _ _ ht1
    cases e4 : letter us y (-1) == bk (letter us z 1) with
    | true =>
      refine goT rfl ?_
      have e : isAgainst l us y z m = false := by
        unfold isAgainst
        rw [e1, e2, e3, e4]
        rfl
      have := q H2 (s1.trans s2)
      rw [e] at this
      exact this
    | false =>
    refine goF rfl ?_
    refine ⟨_, rfl, _, rfl, _, rfl, l, us, W, s, y, m, WI, hy, hW2, hs2, rfl, _, rfl, _, rfl, _, rfl, _, rfl, l, us, W, t, z, _, WI, hz, hW2, ht2, rfl, [letter us z (-m)], one_lt (L6 _ hz.1), by simp, rfl, fun H3 s3 => ?_⟩
    have hW3 := s3 _ _ hW2
    have hs3 := s3 _ _ hs2
    have ht3 := s3 _ _ ht2
    refine ⟨_, _, rfl, ?_⟩
    refine ⟨_, rfl, _, rfl, rfl, _, rfl, ?_⟩
    rw [bkW1, str_eq]
    cases e5 : letter us y m == bk (letter us z (-m)) with
    | true =>
      refine goT rfl ?_
      have e : isAgainst l us y z m = false := by
        unfold isAgainst
        rw [e1, e2, e3, e4, e5]
        rfl
      have := q H3 (s1.trans (s2.trans s3))
      rw [e] at this
      exact this
    | false =>
    refine goF rfl ?_
    -- ahead
    refine ⟨_, rfl, _, rfl, _, rfl, _, rfl, _, _, rfl, rfl, l, us, W, s, y, _, WI, hy, hW3, hs3, rfl, [letter us y (m - 1)], one_lt (L6 _ hy.1), by simp, rfl, fun H4 s4 => ?_⟩
    have hW4 := s4 _ _ hW3
    have hs4 := s4 _ _ hs3
    have ht4 := s4 _ _ ht3
    refine ⟨_, rfl, _, rfl, l, _, _, _, U.len12, U.bk (WI.letter hy.1 (m - 1)), WI.letter hy.1 m, U.bk (WI.letter hz.1 (-m)), rfl, ?_⟩
    -- from_one, from_other
    refine ⟨_, rfl, _, rfl, _, rfl, l, us, W, s, y, -1, WI, hy, hW4, hs4, rfl, [letter us y (-1)], one_lt (L6 _ hy.1), by simp, rfl, fun H5 s5 => ?_⟩
    have hW5 := s5 _ _ hW4
    have hs5 := s5 _ _ hs4
    have ht5 := s5 _ _ ht4
    refine ⟨_, rfl, _, rfl, l, us, W, t, z, 1, WI, hz, hW5, ht5, rfl, _, _, rfl, ?_⟩
    refine ⟨_, rfl, _, rfl, _, rfl, _, rfl, l, us, W, s, y, 0, WI, hy, hW5, hs5, rfl, _, rfl, _, rfl, l, _, _, _, U.len12, WI.letter hy.1 0, U.bk (WI.letter hy.1 (-1)), WI.letter hz.1 1, rfl, ?_⟩
    have e : isAgainst l us y z m = (cf l (bk (letter us y (m - 1))) (letter us y m) (bk (letter us z (-m))) == cf l (letter us y 0) (bk (letter us y (-1))) (letter us z 1)) := by
      unfold isAgainst
      rw [e1, e2, e3, e4, e5]
      rfl
    have := q H5 (s1.trans (s2.trans (s3.trans (s4.trans s5))))
    rw [e, ← bl_eq] at this
    exact ⟨rfl, this⟩
end
end K72
namespace K72
open PySem PySem.Spec PyProof.Rows L2
/-- what a link is, as the program holds it: 0 beside, 1 along, else against -/
def kindT (kd : Nat) : Str := if kd = 0 then (("beside" : String) : Str) else if kd = 1 then (("along" : String) : Str) else (("against" : String) : Str)
def linkV (kd : Nat) (s t : Addr) (m : Nat) : List V := if kd = 0 then [.str (kindT 0), .ref s, .ref t] else [.str (kindT kd), .ref s, .ref t, .int m]
def linkB (kd : Nat) (l : List Nat) (us : List (List Nat)) (y z : Sd) (m : Nat) : Bool :=
  if kd = 0 then isBeside l us y z else if kd = 1 then decide (0 < m) && isAlong l us y z m else decide (0 < m) && isAgainst l us y z m
theorem kit_str {K : PySem.W.Frag} : PySem.W.kitOne K (.type "str") (.type "str") = some true := kit_ty (by decide +kernel)
theorem along_ne : decide (V.str (("along" : String) : Str) = V.str (("beside" : String) : Str)) = false := by decide +kernel
theorem against_ne : decide (V.str (("against" : String) : Str) = V.str (("beside" : String) : Str)) = false := by decide +kernel
theorem against_ne2 : decide (V.str (("against" : String) : Str) = V.str (("along" : String) : Str)) = false := by decide +kernel
section
variable {P : Program} {w : World} {K : PySem.W.Frag} {mg : Str → Option Value} {base : Heap} {f : Addr} {fd : FuncData} {k : Nat}
/-! ### is_long -/
theorem sc31 : FnScope ["thing"] ["thing"] (defScope (topS 31)) := ⟨rfl, rfl, rfl, by decide +kernel, rfl, by decide +kernel, by decide +kernel⟩
def spLong : Sp := fun vs H Q _ => ∃ (m : Nat), vs = [.int m] ∧ Q (.bl (decide (0 < m))) H
theorem c_long (F : Df K mg "is_long" 31 f fd) (T : Tx mg) : Cl P w K mg base (k + 1) "is_long" spLong := by
  refine F.cl (ps := ["thing"]) (F.fn.ok sc31 (fun vs H Q E h => ?_) (fun cdv A outer s H vs Q E hr h => ?_)) (F.fn.binds fun _ _ _ _ _ _ us hl => match us, hl with | [_], _ => rfl)
  · obtain ⟨m, rfl, _⟩ := h
    rfl
  · obtain ⟨m, rfl, q⟩ := h
    refine ⟨_, pss_one (ps_ret (pe_and (pe_callB (r := rIsi K) call_isi (by rfl) T.isinstance boot_isi (pa_cons (pv 0) (pa_cons (pe_bltn (v := .ty "int") (by rfl) T.int boot_tyint rfl) pa_nil)))
            (pe_and (pe_not (pe_callB (r := rIsi K) call_isi (by rfl) T.isinstance boot_isi (pa_cons (pv 0) (pa_cons (pe_bltn (v := .ty "bool") (by rfl) T.bool boot_tybool rfl) pa_nil))))
            (pe_one (pe_cmpR op_gt (pv 0) pe_int (nomark _)))))), ?_⟩
    refine ⟨_, rfl, _, .ty "int", .type "int", .type "int", true, rfl, .ty _, .base (.int _), kit_no, true, rfl, iteT ?_⟩
    refine ⟨_, rfl, _, .ty "bool", .type "int", .type "bool", false, rfl, .ty _, .base (.int _), kit_no, false, rfl, true, rfl, iteT ?_⟩
    refine ⟨_, rfl, _, _, rfl, rfl, ?_⟩
    have e : decide ((m : Int) > 0) = decide (0 < m) := decide_eq_decide.mpr (by omega)
    show Q (.bl (decide ((m : Int) > 0))) H
    rw [e]
    exact q
/-! ### is_link -/
theorem sc32 : FnScope ["surface", "ways", "thing"] ["surface", "ways", "thing"] (defScope (topS 32)) := ⟨rfl, rfl, rfl, by decide +kernel, rfl, by decide +kernel, by decide +kernel⟩
def spLink : Sp := fun vs H Q _ => ∃ (n : Nat) (l : List Nat) (us : List (List Nat)) (W s t p : Addr) (y z : Sd) (kd m : Nat), Surf n l ∧ WaysIn l us ∧ OkS us y ∧ OkS us z ∧ WaysAt H W us ∧ StrAt H s y ∧ StrAt H t z ∧ m ≤ 100 ∧ H p = some (.tup (linkV kd s t m)) ∧ vs = [.str (S l), .ref W, .ref p] ∧
  ∀ H', Same H H' → Q (.bl (linkB kd l us y z m)) H'
theorem c_link (F : Df K mg "is_link" 32 f fd) (T : Tx mg) (C1 : Cl P w K mg base k "is_strand" spIsStr) (C2 : Cl P w K mg base k "is_beside" spBeside) (C3 : Cl P w K mg base k "is_along" spAlong) (C4 : Cl P w K mg base k "is_against" spAgainst) (C5 : Cl P w K mg base k "is_long" spLong) : Cl P w K mg base (k + 1) "is_link" spLink := by
  refine F.cl (ps := ["surface", "ways", "thing"]) (F.fn.ok sc32 (fun vs H Q E h => ?_) (fun cdv A outer s H vs Q E hr h => ?_)) (F.fn.binds fun _ _ _ _ _ _ us hl => match us, hl with | [_, _, _], _ => rfl)
  · obtain ⟨n, l, us, W, s, t, p, y, z, kd, m, _, _, _, _, _, _, _, _, _, rfl, _⟩ := h
    rfl
  · obtain ⟨n, l, us, W, s, t, p, y, z, kd, m, U, WI, hy, hz, hW, hs, ht, hm, hp, rfl, q⟩ := h
    refine ⟨_, pss_cons (ps_if (PW.pt (pw_or (pt_not (pt_val (pe_callB (r := rIsi K) call_isi (by rfl) T.isinstance boot_isi (pa_cons (pv 2) (pa_cons (pe_bltn (v := .ty "tuple") (by rfl) T.tuple boot_tytup rfl) pa_nil)))))
        (pw_or (pt_cmpR op_lt (pe_callB call_len_seq (by rfl) T.len PySem.boot_len (pa_cons (pv 2) pa_nil)) pe_int (nomark _)) (pw_or1 (pt_not (pt_val (pe_callB (r := rIsi K) call_isi (by rfl) T.isinstance boot_isi (pa_cons (pe_ix ix_tup (pv 2) pe_int (fun _ _ => rfl)) (pa_cons (pe_bltn (v := .ty "str") (by rfl) T.str boot_tystr rfl) pa_nil))))))))) (pss_one (ps_ret pe_bl)) pss_nil)
      (pss_cons (ps_if (PW.pt (pw_or (pt_not (pt_val (pc C1 hr (Nat.le_refl _) (pa_cons (pv 1) (pa_cons (pe_ix ix_tup (pv 2) pe_int (fun _ _ => rfl)) pa_nil))))) (pw_or1 (pt_not (pt_val (pc C1 hr (Nat.le_refl _) (pa_cons (pv 1) (pa_cons (pe_ix ix_tup (pv 2) pe_int (fun _ _ => rfl)) pa_nil)))))))) (pss_one (ps_ret pe_bl)) pss_nil)
      (pss_cons (ps_if (pt_cmpR op_eq (pe_ix ix_tup (pv 2) pe_int (fun _ _ => rfl)) pe_str (nomark _))
        (pss_one (ps_ret (pe_and (pe_cmpR op_eq (pe_callB call_len_seq (by rfl) T.len PySem.boot_len (pa_cons (pv 2) pa_nil)) pe_int (nomark _)) (pe_one (pc C2 hr (Nat.le_refl _) (pa_cons (pv 0) (pa_cons (pv 1) (pa_cons (pe_ix ix_tup (pv 2) pe_int (fun _ _ => rfl)) (pa_cons (pe_ix ix_tup (pv 2) pe_int (fun _ _ => rfl)) pa_nil))))))))) pss_nil)
      (pss_cons (ps_if (PW.pt (pw_or (pt_cmpR op_ne (pe_callB call_len_seq (by rfl) T.len PySem.boot_len (pa_cons (pv 2) pa_nil)) pe_int (nomark _)) (pw_or1 (pt_not (pt_val (pc C5 hr (Nat.le_refl _) (pa_cons (pe_ix ix_tup (pv 2) pe_int (fun _ _ => rfl)) pa_nil))))))) (pss_one (ps_ret pe_bl)) pss_nil)
      (pss_cons (ps_if (pt_cmpR op_eq (pe_ix ix_tup (pv 2) pe_int (fun _ _ => rfl)) pe_str (nomark _))
        (pss_one (ps_ret (pc C3 hr (Nat.le_refl _) (pa_cons (pv 0) (pa_cons (pv 1) (pa_cons (pe_ix ix_tup (pv 2) pe_int (fun _ _ => rfl)) (pa_cons (pe_ix ix_tup (pv 2) pe_int (fun _ _ => rfl)) (pa_cons (pe_ix ix_tup (pv 2) pe_int (fun _ _ => rfl)) pa_nil)))))))) pss_nil)
      (pss_one (ps_ret (pe_and (pe_cmpR op_eq (pe_ix ix_tup (pv 2) pe_int (fun _ _ => rfl)) pe_str (nomark _)) (pe_one (pc C4 hr (Nat.le_refl _) (pa_cons (pv 0) (pa_cons (pv 1) (pa_cons (pe_ix ix_tup (pv 2) pe_int (fun _ _ => rfl)) (pa_cons (pe_ix ix_tup (pv 2) pe_int (fun _ _ => rfl)) (pa_cons (pe_ix ix_tup (pv 2) pe_int (fun _ _ => rfl)) pa_nil)))))))))))))), ?_⟩
    refine ⟨_, rfl, _, .ty "tuple", .type "tuple", .type "tuple", true, rfl, .ty _, .base (.tup hp), kit_no, _, rfl, iteF ?_⟩
    by_cases k0 : kd = 0
    · subst k0
      have hp' : H p = some (.tup [.str (kindT 0), .ref s, .ref t]) := hp
      refine ⟨_, rfl, p, _, rfl, .inr (tupOf hp'), _, _, rfl, rfl, _, rfl, goF rfl ?_⟩
      refine ⟨_, rfl, p, _, 0, _, rfl, rfl, tupOf hp', rfl, _, .ty "str", .type "str", .type "str", true, rfl, .ty _, .base (.str _), kit_str, _, rfl, goF rfl ?_⟩
      refine ⟨_, rfl, _, rfl, p, _, 1, _, rfl, rfl, tupOf hp', rfl, l, us, W, s, y, WI, hy, hW, hs, rfl, fun H1 s1 => ⟨_, rfl, iteF ?_⟩⟩
      refine ⟨_, rfl, _, rfl, p, _, 2, _, rfl, rfl, tupOf (s1 _ _ hp'), rfl, l, us, W, t, z, WI, hz, s1 _ _ hW, s1 _ _ ht, rfl, fun H2 s2 => ⟨_, rfl, goF rfl ?_⟩⟩
      have s12 := s1.trans s2
      have hp2 := s12 _ _ hp'
      refine ⟨_, rfl, p, _, 0, _, rfl, rfl, tupOf hp2, rfl, rfl, _, rfl, goT (decide_eq_true rfl) ?_⟩
      refine ⟨_, rfl, p, _, rfl, .inr (tupOf hp2), rfl, _, rfl, goT (decide_eq_true rfl) ?_⟩
      refine ⟨_, rfl, _, rfl, _, rfl, p, _, 1, _, rfl, rfl, tupOf hp2, rfl, _, rfl, p, _, 2, _, rfl, rfl, tupOf hp2, rfl, n, l, us, W, s, t, y, z, U, WI, hy, hz, s12 _ _ hW, s12 _ _ hs, s12 _ _ ht, rfl, fun H3 s3 => ?_⟩
      exact q H3 (s12.trans s3)
    have ev : linkV kd s t m = [.str (kindT kd), .ref s, .ref t, .int m] := if_neg k0
    rw [ev] at hp
    refine ⟨_, rfl, p, _, rfl, .inr (tupOf hp), _, _, rfl, rfl, _, rfl, goF rfl ?_⟩
    refine ⟨_, rfl, p, _, 0, _, rfl, rfl, tupOf hp, rfl, _, .ty "str", .type "str", .type "str", true, rfl, .ty _, .base (.str _), kit_str, _, rfl, goF rfl ?_⟩
    refine ⟨_, rfl, _, rfl, p, _, 1, _, rfl, rfl, tupOf hp, rfl, l, us, W, s, y, WI, hy, hW, hs, rfl, fun H1 s1 => ⟨_, rfl, iteF ?_⟩⟩
    refine ⟨_, rfl, _, rfl, p, _, 2, _, rfl, rfl, tupOf (s1 _ _ hp), rfl, l, us, W, t, z, WI, hz, s1 _ _ hW, s1 _ _ ht, rfl, fun H2 s2 => ⟨_, rfl, goF rfl ?_⟩⟩
    have s12 := s1.trans s2
    have hp2 := s12 _ _ hp
    have n0 : decide (V.str (kindT kd) = V.str (("beside" : String) : Str)) = false := by
      unfold kindT
      rw [if_neg k0]
      by_cases k1 : kd = 1
      · rw [if_pos k1]; exact along_ne
      · rw [if_neg k1]; exact against_ne
    refine ⟨_, rfl, p, _, 0, _, rfl, rfl, tupOf hp2, rfl, rfl, _, rfl, goF n0 ?_⟩
    refine ⟨_, rfl, p, _, rfl, .inr (tupOf hp2), rfl, _, rfl, goF rfl ?_⟩
    refine ⟨_, rfl, p, _, 3, _, rfl, rfl, tupOf hp2, rfl, m, rfl, _, rfl, ?_⟩
    cases hm0 : decide (0 < m) with
    | false =>
      refine goT rfl ?_
      have e : linkB kd l us y z m = false := by
        unfold linkB
        rw [if_neg k0, hm0]
        simp
      have := q H2 s12
      rw [e] at this
      exact this
    | true =>
    refine goF rfl ?_
    by_cases k1 : kd = 1
    · subst k1
      refine ⟨_, rfl, p, _, 0, _, rfl, rfl, tupOf hp2, rfl, rfl, _, rfl, goT (decide_eq_true rfl) ?_⟩
      refine ⟨_, rfl, _, rfl, _, rfl, p, _, 1, _, rfl, rfl, tupOf hp2, rfl, _, rfl, p, _, 2, _, rfl, rfl, tupOf hp2, rfl, _, rfl, p, _, 3, _, rfl, rfl, tupOf hp2, rfl, n, l, us, W, s, t, y, z, m, U, WI, hy, hz, s12 _ _ hW, s12 _ _ hs, s12 _ _ ht, hm, rfl, fun H3 s3 => ?_⟩
      have := q H3 (s12.trans s3)
      unfold linkB at this
      rw [if_neg k0, if_pos rfl, hm0] at this
      exact this
    · have et : kindT kd = (("against" : String) : Str) := by
        unfold kindT
        rw [if_neg k0, if_neg k1]
      rw [et] at hp2
      refine ⟨_, rfl, p, _, 0, _, rfl, rfl, tupOf hp2, rfl, rfl, _, rfl, goF against_ne2 ?_⟩
      refine ⟨_, rfl, p, _, 0, _, rfl, rfl, tupOf hp2, rfl, rfl, _, rfl, goT (decide_eq_true rfl) ?_⟩
      refine ⟨_, rfl, _, rfl, _, rfl, p, _, 1, _, rfl, rfl, tupOf hp2, rfl, _, rfl, p, _, 2, _, rfl, rfl, tupOf hp2, rfl, _, rfl, p, _, 3, _, rfl, rfl, tupOf hp2, rfl, n, l, us, W, s, t, y, z, m, U, WI, hy, hz, s12 _ _ hW, s12 _ _ hs, s12 _ _ ht, hm, rfl, fun H3 s3 => ?_⟩
      have := q H3 (s12.trans s3)
      unfold linkB at this
      rw [if_neg k0, if_neg k1, hm0] at this
      exact this
end
end K72
namespace K72
open PySem PySem.Spec PyProof.Rows L2
theorem runTo_stop {p : Nat → Bool} {r c : Nat} (h : p c = false) : runTo p r c = c := by
  cases r with
  | zero => rfl
  | succ r => unfold runTo; rw [h]; rfl
theorem runTo_go {p : Nat → Bool} {r c : Nat} (h : p c = true) : runTo p (r + 1) c = runTo p r (c + 1) := by
  rw [runTo, h]
  rfl
theorem runTo_le (p : Nat → Bool) : ∀ (r c : Nat), runTo p r c ≤ c + r
  | 0, c => Nat.le_refl _
  | r + 1, c => by
    unfold runTo
    split
    · have := runTo_le p r (c + 1)
      omega
    · omega
section
variable {P : Program} {w : World} {K : PySem.W.Frag} {mg : Str → Option Value} {base : Heap} {f : Addr} {fd : FuncData} {k : Nat}
/-! ### run_along -/
theorem WaysIn.room {l : List Nat} {us : List (List Nat)} (W : WaysIn l us) {y z : Sd} (hy : y.1 < us.length) (hz : z.1 < us.length) : room us y z ≤ 60 := by
  have h1 := W.len hy
  have h2 := W.len hz
  unfold K72.room
  omega
theorem sc34 : FnScope ["ways", "one", "other", "many"] ["ways", "one", "other"] (defScope (topS 34)) := ⟨rfl, rfl, rfl, by decide +kernel, rfl, by decide +kernel, by decide +kernel⟩
def spRunA : Sp := fun vs H Q _ => ∃ (n : Nat) (l : List Nat) (us : List (List Nat)) (W s t : Addr) (y z : Sd), Surf n l ∧ WaysIn l us ∧ OkS us y ∧ OkS us z ∧ WaysAt H W us ∧ StrAt H s y ∧ StrAt H t z ∧ vs = [.ref W, .ref s, .ref t] ∧
  ∀ H', Same H H' → Q (.int (runA us y z : Nat)) H'
theorem c_runA (F : Df K mg "run_along" 34 f fd) (C2 : Cl P w K mg base k "letter_at" spLetter) (C4 : Cl P w K mg base k "room_of" spRoom) : Cl P w K mg base (k + 1) "run_along" spRunA := by
  refine F.cl (ps := ["ways", "one", "other"]) (F.fn.ok sc34 (fun vs H Q E h => ?_) (fun cdv A outer s H vs Q E hr h => ?_)) (F.fn.binds fun _ _ _ _ _ _ us hl => match us, hl with | [_, _, _], _ => rfl)
  · obtain ⟨n, l, us, W, s, t, y, z, _, _, _, _, _, _, _, rfl, _⟩ := h
    rfl
  · obtain ⟨n, l, us, W, s, t, y, z, U, WI, hy, hz, hW, hs, ht, rfl, q⟩ := h
    have hr60 := WI.room hy.1 hz.1
    refine ⟨_, pss_cons (ps_set (i := 3) sc34.nd rfl (.inl rfl) pe_int)
      (pss_cons (ps_while PassesOwn.never (PW.pt (pw_and (pt_cmpR op_lt (pv 3) (pc C4 hr (Nat.le_refl _) (pa_cons (pv 0) (pa_cons (pv 1) (pa_cons (pv 2) pa_nil)))) (nomark _))
          (pw_and1 (pt_cmpR op_eq (pc C2 hr (Nat.le_refl _) (pa_cons (pv 0) (pa_cons (pv 1) (pa_cons (pv 3) pa_nil)))) (pc C2 hr (Nat.le_refl _) (pa_cons (pv 0) (pa_cons (pv 2) (pa_cons (pv 3) pa_nil)))) (nomark _)))))
        (pss_one (ps_set (i := 3) sc34.nd rfl (.inl rfl) (pe_op op_add (pv 3) pe_int))))
      (pss_one (ps_ret (pv 3)))), ?_⟩
    refine ⟨fun m σ H2 => ∃ c : Nat, σ = [some (.ref W), some (.ref s), some (.ref t), some (.int c)] ∧ m = room us y z - c ∧ c ≤ room us y z ∧ runTo (fun k => letter us y k == letter us z k) (room us y z - c) c = runA us y z ∧ Same H H2,
      ⟨room us y z, 0, rfl, by simp, Nat.zero_le _, rfl, Same.refl H⟩, fun m σ H2 hW2 => ?_⟩
    obtain ⟨c, rfl, rfl, hc, hrun, sm⟩ := hW2
    have hWm := sm _ _ hW
    have hsm := sm _ _ hs
    have htm := sm _ _ ht
    refine ⟨_, rfl, _, rfl, _, rfl, _, rfl, l, us, W, s, t, y, z, WI, hy, hz, hWm, hsm, htm, rfl, _, _, rfl, rfl, _, rfl, ?_⟩
    have e1 : decide ((c : Int) < (room us y z : Nat)) = decide (c < room us y z) := decide_eq_decide.mpr (by omega)
    rw [e1]
    by_cases hlt : c < room us y z
    · rw [decide_eq_true hlt]
      refine iteT ?_
      refine ⟨_, rfl, _, rfl, _, rfl, l, us, W, s, y, c, WI, hy, hWm, hsm, rfl, _, rfl, _, rfl, _, rfl, l, us, W, t, z, c, WI, hz, hWm, htm, rfl, rfl, _, rfl, ?_⟩
      rw [str_eq]
      cases hb : letter us y c == letter us z c with
      | true =>
        refine goT rfl ?_
        refine ⟨_, fun _ _ h => h, _, rfl, _, _, rfl, rfl, room us y z - (c + 1), by omega, c + 1, rfl, rfl, by omega, ?_, sm⟩
        have e2 : room us y z - c = (room us y z - (c + 1)) + 1 := by omega
        rw [e2, runTo_go (p := fun k => letter us y k == letter us z k) hb] at hrun
        exact hrun
      | false =>
        refine goF rfl ?_
        rw [runTo_stop (p := fun k => letter us y k == letter us z k) hb] at hrun
        refine ⟨_, rfl, ?_⟩
        rw [hrun]
        exact q H2 sm
    · rw [decide_eq_false hlt]
      refine goF rfl ?_
      have e2 : room us y z - c = 0 := by omega
      rw [e2] at hrun
      have : c = runA us y z := hrun
      refine ⟨_, rfl, ?_⟩
      rw [this]
      exact q H2 sm
/-! ### run_against -/
theorem sc35 : FnScope ["ways", "one", "other", "many"] ["ways", "one", "other"] (defScope (topS 35)) := ⟨rfl, rfl, rfl, by decide +kernel, rfl, by decide +kernel, by decide +kernel⟩
def spRunB : Sp := fun vs H Q _ => ∃ (n : Nat) (l : List Nat) (us : List (List Nat)) (W s t : Addr) (y z : Sd), Surf n l ∧ WaysIn l us ∧ OkS us y ∧ OkS us z ∧ WaysAt H W us ∧ StrAt H s y ∧ StrAt H t z ∧ vs = [.ref W, .ref s, .ref t] ∧
  ∀ H', Same H H' → Q (.int (runB us y z : Nat)) H'
theorem c_runB (F : Df K mg "run_against" 35 f fd) (C1 : Cl P w K mg base k "back" spBack) (C2 : Cl P w K mg base k "letter_at" spLetter) (C4 : Cl P w K mg base k "room_of" spRoom) : Cl P w K mg base (k + 1) "run_against" spRunB := by
  refine F.cl (ps := ["ways", "one", "other"]) (F.fn.ok sc35 (fun vs H Q E h => ?_) (fun cdv A outer s H vs Q E hr h => ?_)) (F.fn.binds fun _ _ _ _ _ _ us hl => match us, hl with | [_, _, _], _ => rfl)
  · obtain ⟨n, l, us, W, s, t, y, z, _, _, _, _, _, _, _, rfl, _⟩ := h
    rfl
  · obtain ⟨n, l, us, W, s, t, y, z, U, WI, hy, hz, hW, hs, ht, rfl, q⟩ := h
    have hr60 := WI.room hy.1 hz.1
    refine ⟨_, pss_cons (ps_set (i := 3) sc35.nd rfl (.inl rfl) pe_int)
      (pss_cons (ps_while PassesOwn.never (PW.pt (pw_and (pt_cmpR op_lt (pv 3) (pc C4 hr (Nat.le_refl _) (pa_cons (pv 0) (pa_cons (pv 1) (pa_cons (pv 2) pa_nil)))) (nomark _))
          (pw_and1 (pt_cmpR op_eq (pc C2 hr (Nat.le_refl _) (pa_cons (pv 0) (pa_cons (pv 1) (pa_cons (pv 3) pa_nil)))) (pc C1 hr (Nat.le_refl _) (pa_cons (pc C2 hr (Nat.le_refl _) (pa_cons (pv 0) (pa_cons (pv 2) (pa_cons (pe_un un_neg (pv 3)) pa_nil)))) pa_nil)) (nomark _)))))
        (pss_one (ps_set (i := 3) sc35.nd rfl (.inl rfl) (pe_op op_add (pv 3) pe_int))))
      (pss_one (ps_ret (pv 3)))), ?_⟩
    refine ⟨fun m σ H2 => ∃ c : Nat, σ = [some (.ref W), some (.ref s), some (.ref t), some (.int c)] ∧ m = room us y z - c ∧ c ≤ room us y z ∧ runTo (fun k => letter us y k == bk (letter us z (-(k : Nat)))) (room us y z - c) c = runB us y z ∧ Same H H2,
      ⟨room us y z, 0, rfl, by simp, Nat.zero_le _, rfl, Same.refl H⟩, fun m σ H2 hW2 => ?_⟩
    obtain ⟨c, rfl, rfl, hc, hrun, sm⟩ := hW2
    have hWm := sm _ _ hW
    have hsm := sm _ _ hs
    have htm := sm _ _ ht
    refine ⟨_, rfl, _, rfl, _, rfl, _, rfl, l, us, W, s, t, y, z, WI, hy, hz, hWm, hsm, htm, rfl, _, _, rfl, rfl, _, rfl, ?_⟩
    have e1 : decide ((c : Int) < (room us y z : Nat)) = decide (c < room us y z) := decide_eq_decide.mpr (by omega)
    rw [e1]
    by_cases hlt : c < room us y z
    · rw [decide_eq_true hlt]
      refine iteT ?_
      refine ⟨_, rfl, _, rfl, _, rfl, l, us, W, s, y, c, WI, hy, hWm, hsm, rfl, _, rfl, _, rfl, _, rfl, _, rfl, l, us, W, t, z, _, WI, hz, hWm, htm, rfl, [letter us z (-(c : Nat))], one_lt (U.lt (WI.letter hz.1 _)), by simp, rfl, fun H3 s3 => ?_⟩
      refine ⟨rfl, _, rfl, ?_⟩
      rw [bkW1, str_eq]
      cases hb : letter us y c == bk (letter us z (-(c : Nat))) with
      | true =>
        refine goT rfl ?_
        refine ⟨_, fun _ _ h => h, _, rfl, _, _, rfl, rfl, room us y z - (c + 1), by omega, c + 1, rfl, rfl, by omega, ?_, sm.trans s3⟩
        have e2 : room us y z - c = (room us y z - (c + 1)) + 1 := by omega
        rw [e2, runTo_go (p := fun k => letter us y k == bk (letter us z (-(k : Nat)))) hb] at hrun
        exact hrun
      | false =>
        refine goF rfl ?_
        rw [runTo_stop (p := fun k => letter us y k == bk (letter us z (-(k : Nat)))) hb] at hrun
        refine ⟨_, rfl, ?_⟩
        rw [hrun]
        exact q H3 (sm.trans s3)
    · rw [decide_eq_false hlt]
      refine goF rfl ?_
      have e2 : room us y z - c = 0 := by omega
      rw [e2] at hrun
      have : c = runB us y z := hrun
      refine ⟨_, rfl, ?_⟩
      rw [this]
      exact q H2 sm
end
end K72
namespace K72
open PySem PySem.Spec PyProof.Rows L2
theorem boot_srt : bootBuiltins "sorted" = some (.builtin "sorted") := by decide +kernel
/-- a link, as it stands -/
def LinkAt (H : Hp) (x : V) : Prop := ∃ (a : Addr) (kd : Nat) (s t : Addr) (m : Nat) (y z : Sd), x = .ref a ∧ H a = some (.tup (linkV kd s t m)) ∧ StrAt H s y ∧ StrAt H t z
theorem LinkAt.same {H H' : Hp} {x : V} (s : Same H H') : LinkAt H x → LinkAt H' x
  | ⟨a, kd, s1, t, m, y, z, e, h1, h2, h3⟩ => ⟨a, kd, s1, t, m, y, z, e, s _ _ h1, s _ _ h2, s _ _ h3⟩
theorem LinkAt.but {H H' : Hp} {d : Addr} {x : V} {xs : List V} (s : SameBut d H H') (hd : H d = some (.lst xs)) : LinkAt H x → LinkAt H' x
  | ⟨a, kd, s1, t, m, y, z, e, h1, h2, h3⟩ => by
    have no : ∀ {b : Addr} {ys : List V}, H b = some (.tup ys) → b ≠ d := fun {b ys} hb e => by
      rw [e, hd] at hb
      cases hb
    exact ⟨a, kd, s1, t, m, y, z, e, s _ _ (no h1) h1, s _ _ (no h2) h2, s _ _ (no h3) h3⟩
def pairD (y : Sd) : PyData := .tuple [.int (y.1 : Nat), .int (y.2 : Nat)]
def linkD (kd : Nat) (y z : Sd) (m : Nat) : PyData := .tuple (.str (kindT kd) :: pairD y :: pairD z :: if kd = 0 then [] else [.int m])
theorem linkD_alike (kd kd' : Nat) (y z y' z' : Sd) (m m' : Nat) : PySem.W.alike (linkD kd y z m) (linkD kd' y' z' m') = true := by
  unfold linkD pairD
  by_cases h : kd = 0 <;> by_cases h' : kd' = 0 <;> simp [h, h', PySem.W.alike, PySem.W.alikeAll]
theorem linkD_depth (kd : Nat) (y z : Sd) (m : Nat) : (linkD kd y z m).depth ≤ 9 := by
  unfold linkD pairD
  by_cases h : kd = 0 <;> simp [h, PyData.depth, PyData.depthAll]
theorem pair_dp {K : PySem.W.Frag} {H : Hp} {a : Addr} {y : Sd} (h : StrAt H a y) : Dp K H (.ref a) (pairD y) := .tup (tupOf h) (.cons (.int _) (.cons (.int _) .nil))
theorem link_dp {K : PySem.W.Frag} {H : Hp} {a s t : Addr} {kd m : Nat} {y z : Sd} (h : H a = some (.tup (linkV kd s t m))) (hs : StrAt H s y) (ht : StrAt H t z) : Dp K H (.ref a) (linkD kd y z m) := by
  refine .tup (tupOf h) ?_
  unfold linkV
  by_cases k0 : kd = 0
  · subst k0
    exact .cons (.str _) (.cons (pair_dp hs) (.cons (pair_dp ht) .nil))
  · rw [if_neg k0, if_neg k0]
    exact .cons (.str _) (.cons (pair_dp hs) (.cons (pair_dp ht) (.cons (.int _) .nil)))
theorem links_dp {K : PySem.W.Frag} {H : Hp} : ∀ {xs : List V}, (∀ x ∈ xs, LinkAt H x) → ∃ ds, DpAll K H xs ds ∧ ∀ d ∈ ds, ∃ kd y z m, d = linkD kd y z m
  | [], _ => ⟨[], .nil, fun _ h => nomatch h⟩
  | x :: xs, h => by
    obtain ⟨ds, h1, h2⟩ := links_dp (K := K) fun y hy => h y (List.mem_cons_of_mem _ hy)
    obtain ⟨a, kd, s, t, m, y, z, rfl, e1, e2, e3⟩ := h x (by simp)
    refine ⟨linkD kd y z m :: ds, .cons (link_dp e1 e2 e3) h1, fun d hd => ?_⟩
    rcases List.mem_cons.mp hd with rfl | hd
    · exact ⟨kd, y, z, m, rfl⟩
    · exact h2 d hd
theorem one_le (b : Bool) : one b ≤ 1 := by cases b <;> decide
theorem linkN_le (l : List Nat) (us : List (List Nat)) (y z : Sd) : linkN l us y z ≤ 3 := by
  unfold linkN
  have h1 := one_le (link1 l us y z)
  have h2 := one_le (link2 l us y z)
  have h3 := one_le (link3 l us y z)
  omega
theorem sumTo_le {f : Nat → Nat} {b : Nat} (h : ∀ k, f k ≤ b) : ∀ n, sumTo f n ≤ n * b
  | 0 => Nat.zero_le _
  | n + 1 => by
    have := sumTo_le h n
    have := h n
    unfold sumTo
    rw [Nat.succ_mul]
    omega
def cntL (l : List Nat) (us : List (List Nat)) (y z : Sd) : Nat → Nat
  | 0 => 0
  | 1 => one (link1 l us y z)
  | 2 => one (link1 l us y z) + one (link2 l us y z)
  | _ => linkN l us y z
section
variable {P : Program} {w : World} {K : PySem.W.Frag} {mg : Str → Option Value} {base : Heap} {f : Addr} {fd : FuncData} {k : Nat}
/-! ### links_of -/
theorem sc36 : FnScope ["surface", "ways", "one", "other", "along", "against", "link"] ["surface", "ways", "one", "other"] (defScope (topS 36)) := ⟨rfl, rfl, rfl, by decide +kernel, rfl, by decide +kernel, by decide +kernel⟩
def spLinksOf : Sp := fun vs H Q _ => ∃ (n : Nat) (l : List Nat) (us : List (List Nat)) (W s t : Addr) (y z : Sd), Surf n l ∧ WaysIn l us ∧ OkS us y ∧ OkS us z ∧ WaysAt H W us ∧ StrAt H s y ∧ StrAt H t z ∧ vs = [.str (S l), .ref W, .ref s, .ref t] ∧
  ∀ (H' : Hp) (D : Addr) (xs : List V), Same H H' → H D = none → H' D = some (.lst xs) → (∀ x ∈ xs, LinkAt H' x) → xs.length = linkN l us y z → Q (.ref D) H'
theorem c_linksOf (F : Df K mg "links_of" 36 f fd) (C1 : Cl P w K mg base k "run_along" spRunA) (C2 : Cl P w K mg base k "run_against" spRunB) (C3 : Cl P w K mg base k "is_link" spLink) : Cl P w K mg base (k + 1) "links_of" spLinksOf := by
  refine F.cl (ps := ["surface", "ways", "one", "other"]) (F.fn.ok sc36 (fun vs H Q E h => ?_) (fun cdv A outer s H vs Q E hr h => ?_)) (F.fn.binds fun _ _ _ _ _ _ us hl => match us, hl with | [_, _, _, _], _ => rfl)
  · obtain ⟨n, l, us, W, s, t, y, z, _, _, _, _, _, _, _, rfl, _⟩ := h
    rfl
  · obtain ⟨n, l, us, W, s, t, y, z, U, WI, hy, hz, hW, hs, ht, rfl, q⟩ := h
    have hr60 := WI.room hy.1 hz.1
    have hA : runA us y z ≤ 100 := by have := runTo_le (fun k => letter us y k == letter us z k) (room us y z) 0; unfold runA; omega
    have hB : runB us y z ≤ 100 := by have := runTo_le (fun k => letter us y k == bk (letter us z (-(k : Nat)))) (room us y z) 0; unfold runB; omega
    refine ⟨_, pss_cons (ps_set (i := 4) sc36.nd rfl (.inl rfl) (pe_tup (pa_cons pe_str (pa_cons (pv 2) (pa_cons (pv 3) (pa_cons (pc C1 hr (Nat.le_refl _) (pa_cons (pv 1) (pa_cons (pv 2) (pa_cons (pv 3) pa_nil)))) pa_nil))))))
      (pss_cons (ps_set (i := 5) sc36.nd rfl (.inl rfl) (pe_tup (pa_cons pe_str (pa_cons (pv 2) (pa_cons (pv 3) (pa_cons (pc C2 hr (Nat.le_refl _) (pa_cons (pv 1) (pa_cons (pv 2) (pa_cons (pv 3) pa_nil)))) pa_nil))))))
      (pss_one (ps_ret (pe_lc (own := [("link", 6)]) (g := gName 6) (tt := tTest (tCall spLink [] E0 (tCons (tVar 0) (tCons (tVar 1) (tCons (tVar 6) tNil))))) rfl sc36.nd (pi_tup (pe_tup (pa_cons (pe_tup (pa_cons pe_str (pa_cons (pv 2) (pa_cons (pv 3) pa_nil)))) (pa_cons (pv 4) (pa_cons (pv 5) pa_nil))))) (blkOk_by (own := [("link", 6)]) (N := ["surface", "ways", "one", "other", "along", "against", "link"]) (sc := defScope (topS 36)) (by decide +kernel))
          (fun _ _ _ _ _ => pg_name (i := 6) sc36.nd rfl (Or.inl rfl)) (fun _ _ _ _ _ => pts_one (pt_val (pc C3 hr (Nat.le_refl _) (pa_cons (pv 0) (pa_cons (pv 1) (pa_cons (pv 6) pa_nil))))))
          (fun _ _ _ _ _ => pv 6))))), ?_⟩
    refine ⟨_, rfl, _, rfl, _, rfl, _, rfl, _, rfl, n, l, us, W, s, t, y, z, U, WI, hy, hz, hW, hs, ht, rfl, fun H1 s1 => ⟨size4, fun a na => ?_⟩⟩
    have n0a : H a = none := s1.free na
    have s1' := s1.put (o := .tup [.str (("along" : String) : Str), .ref s, .ref t, .int (runA us y z : Nat)]) n0a
    have ha : (upd H1 a (.tup [.str (("along" : String) : Str), .ref s, .ref t, .int (runA us y z : Nat)])) a = some (.tup (linkV 1 s t (runA us y z))) := upd_same
    generalize upd H1 a (.tup [.str (("along" : String) : Str), .ref s, .ref t, .int (runA us y z : Nat)]) = H2 at s1' ha
    refine ⟨_, rfl, _, rfl, _, rfl, _, rfl, _, rfl, n, l, us, W, s, t, y, z, U, WI, hy, hz, s1' _ _ hW, s1' _ _ hs, s1' _ _ ht, rfl, fun H3 s3 => ⟨size4, fun b nb => ?_⟩⟩
    have s3' := (s1'.trans s3).put (o := .tup [.str (("against" : String) : Str), .ref s, .ref t, .int (runB us y z : Nat)]) ((s1'.trans s3).free nb)
    have ha3 := (Same.put s3 (o := .tup [.str (("against" : String) : Str), .ref s, .ref t, .int (runB us y z : Nat)]) (s3.free nb)) _ _ ha
    have hb3 : (upd H3 b (.tup [.str (("against" : String) : Str), .ref s, .ref t, .int (runB us y z : Nat)])) b = some (.tup (linkV 2 s t (runB us y z))) := upd_same
    generalize upd H3 b (.tup [.str (("against" : String) : Str), .ref s, .ref t, .int (runB us y z : Nat)]) = H4 at s3' ha3 hb3
    refine ⟨_, rfl, _, rfl, by rw [sizeLine_eq]; simp, fun c nc => ?_⟩
    have s5 := s3'.put (o := .tup (linkV 0 s t 0)) (s3'.free nc)
    have ha5 := (Same.put (Same.refl H4) (o := .tup (linkV 0 s t 0)) nc) _ _ ha3
    have hb5 := (Same.put (Same.refl H4) (o := .tup (linkV 0 s t 0)) nc) _ _ hb3
    have hc5 : (upd H4 c (.tup (linkV 0 s t 0))) c = some (.tup (linkV 0 s t 0)) := upd_same
    show tCons _ _ _ (upd H4 c (.tup (linkV 0 s t 0))) _
    generalize upd H4 c (.tup (linkV 0 s t 0)) = H5 at s5 ha5 hb5 hc5
    refine ⟨_, rfl, _, rfl, by rw [sizeLine_eq]; simp, fun p np => ⟨p, rfl, ⟨_, tupOf upd_same⟩, fun D nD => ?_⟩⟩
    have s6 := s5.put (o := .tup [.ref c, .ref a, .ref b]) (s5.free np)
    have k6 : Same H5 (upd H5 p (.tup [.ref c, .ref a, .ref b])) := (Same.refl H5).put np
    have ha6 := k6 _ _ ha5
    have hb6 := k6 _ _ hb5
    have hc6 := k6 _ _ hc5
    have hp6 : (upd H5 p (.tup [.ref c, .ref a, .ref b])) p = some (.tup [.ref c, .ref a, .ref b]) := upd_same
    refine lc_tup (xs := [.ref c, .ref a, .ref b]) (fun i H' => Same (upd H5 p (.tup [.ref c, .ref a, .ref b])) H' ∧ ∃ ys, H' D = some (.lst ys) ∧ (∀ x ∈ ys, LinkAt H' x) ∧ ys.length = cntL l us y z i) ⟨(Same.refl _).put nD, [], upd_same, (fun _ h => nomatch h), rfl⟩ (fun i H' _ p => tupOf (p.1 _ _ hp6)) (fun i x H' hx pv => ?_) fun H' pv => ?_
    · obtain ⟨sm, ys, hD, hat, hlen⟩ := pv
      have hx' : ∃ (x' : Addr) (kd m : Nat), x = .ref x' ∧ m ≤ 100 ∧ cntL l us y z (i + 1) = cntL l us y z i + one (linkB kd l us y z m) ∧ H' x' = some (.tup (linkV kd s t m)) := by
        match i, hx with
        | 0, hx => exact ⟨c, 0, 0, (Option.some.inj hx).symm, by omega, (Nat.zero_add _).symm, sm _ _ hc6⟩
        | 1, hx => exact ⟨a, 1, _, (Option.some.inj hx).symm, hA, rfl, sm _ _ ha6⟩
        | 2, hx => exact ⟨b, 2, _, (Option.some.inj hx).symm, hB, rfl, sm _ _ hb6⟩
        | i + 3, hx => exact nomatch hx
      obtain ⟨x', kd, m, rfl, hm, hcnt, hx6⟩ := hx'
      have hi : i < 3 := (List.getElem?_eq_some_iff.mp hx).1
      have hl3 : ys.length ≤ 3 := by
        rw [hlen]
        have h1 := one_le (link1 l us y z)
        have h2 := one_le (link2 l us y z)
        have h3 := linkN_le l us y z
        match i with
        | 0 => exact Nat.zero_le _
        | 1 => show one _ ≤ 3; omega
        | 2 => show one _ + one _ ≤ 3; omega
        | i + 3 => exact h3
      have s7 : Same H H' := s6.trans sm
      refine ⟨rfl, _, rfl, _, rfl, _, rfl, n, l, us, W, s, t, x', y, z, kd, m, U, WI, hy, hz, s7 _ _ hW, s7 _ _ hs, s7 _ _ ht, hm, hx6, rfl, fun H7 s8 => ⟨_, rfl, ?_⟩⟩
      cases hb : linkB kd l us y z m with
      | false =>
        refine goF rfl ⟨sm.trans s8, ys, s8 _ _ hD, fun x hx => (hat x hx).same s8, ?_⟩
        rw [hcnt, hb]
        exact hlen
      | true =>
        refine goT rfl ⟨_, rfl, ys, s8 _ _ hD, by rw [sizeLine_eq]; omega, (sm.trans s8).put nD, _, upd_same, ?_, ?_⟩
        · intro x hx
          have hD8 := s8 _ _ hD
          have sb : SameBut D H7 (upd H7 D (.lst (ys ++ [.ref x']))) := SameBut.refl.put
          rcases List.mem_append.mp hx with hx | hx
          · exact ((hat x hx).same s8).but sb hD8
          · rw [List.mem_singleton.mp hx]
            exact LinkAt.but sb hD8 ⟨x', kd, s, t, m, y, z, rfl, s8 _ _ hx6, s8 _ _ (s7 _ _ hs), s8 _ _ (s7 _ _ ht)⟩
        · rw [hcnt, hb, List.length_append, hlen]
          rfl
    · obtain ⟨sm, ys, hD, hat, hlen⟩ := pv
      exact q H' D ys (s6.trans sm) (s6.free nD) hD hat hlen
/-! ### links -/
theorem sc37 : FnScope ["surface", "ways", "i", "j", "found", "place", "spot"] ["surface", "ways", "i", "j"] (defScope (topS 37)) := ⟨rfl, rfl, rfl, by decide +kernel, rfl, by decide +kernel, by decide +kernel⟩
def spLinks : Sp := fun vs H Q _ => ∃ (n : Nat) (l : List Nat) (us : List (List Nat)) (W : Addr) (i j : Nat), Surf n l ∧ WaysIn l us ∧ i < us.length ∧ j < us.length ∧ WaysAt H W us ∧ vs = [.str (S l), .ref W, .int i, .int j] ∧
  ∀ (H' : Hp) (r : Addr) (ys : List V), Same H H' → H' r = some (.lst ys) → ys.length = links l us i j → Q (.ref r) H'
theorem c_links (F : Df K mg "links" 37 f fd) (T : Tx mg) (C1 : Cl P w K mg base k "links_of" spLinksOf) : Cl P w K mg base (k + 1) "links" spLinks := by
  refine F.cl (ps := ["surface", "ways", "i", "j"]) (F.fn.ok sc37 (fun vs H Q E h => ?_) (fun cdv A outer s H vs Q E hr h => ?_)) (F.fn.binds fun _ _ _ _ _ _ us hl => match us, hl with | [_, _, _, _], _ => rfl)
  · obtain ⟨n, l, us, W, i, j, _, _, _, _, _, rfl, _⟩ := h
    rfl
  · obtain ⟨n, l, us, W, i, j, U, WI, hi, hj, hW, rfl, q⟩ := h
    have ok1 := line_S (WI.len hi) (show 30 ≤ 16777216 by decide)
    have ok2 := line_S (WI.len hj) (show 30 ≤ 16777216 by decide)
    have hli := WI.len hi
    have hlj := WI.len hj
    refine ⟨_, pss_cons (ps_set (i := 4) sc37.nd rfl (.inl rfl) (pe_lst pa_nil))
      (pss_cons (ps_for PassesOwn.never rfl (pi_range1 rfl T.range (pa_cons (pe_callB call_len (by rfl) T.len PySem.boot_len (pa_cons (pe_ix ix_tup (pv 1) (pv 2) (fun _ _ => rfl)) pa_nil)) pa_nil)) (pg_name (i := 5) sc37.nd rfl (.inl rfl))
        (pss_one (ps_for PassesOwn.never rfl (pi_range1 rfl T.range (pa_cons (pe_callB call_len (by rfl) T.len PySem.boot_len (pa_cons (pe_ix ix_tup (pv 1) (pv 3) (fun _ _ => rfl)) pa_nil)) pa_nil)) (pg_name (i := 6) sc37.nd rfl (.inl rfl))
          (pss_one (ps_expr (pe_bm PySem.F.plainAttrs_list PySem.F.slot_list_extend PySem.F.type_list_extend mt_extend (pv 4) (pa_cons (pc C1 hr (Nat.le_refl _) (pa_cons (pv 0) (pa_cons (pv 1) (pa_cons (pe_tup (pa_cons (pv 2) (pa_cons (pv 5) pa_nil))) (pa_cons (pe_tup (pa_cons (pv 3) (pa_cons (pv 6) pa_nil))) pa_nil))))) pa_nil)))))))
      (pss_one (ps_ret (pe_callB (call_sortedD hr.units) (by rfl) T.sorted boot_srt (pa_cons (pv 4) pa_nil))))), ?_⟩
    refine ⟨Nat.zero_le _, fun p np => ?_⟩
    have s1 : Same H (upd H p (.lst [])) := (Same.refl H).put np
    have hp1 : (upd H p (.lst [])) p = some (.lst []) := upd_same
    generalize upd H p (.lst []) = H1 at s1 hp1
    refine ⟨_, rfl, _, rfl, W, _, _, _, rfl, rfl, tupOf (s1 _ _ hW), way_at hi, _, (us.getD i []).length, rfl, ⟨ok1, by rw [S_len]⟩, _, rfl, by omega, by omega, ?_⟩
    rw [Int.toNat_natCast]
    refine for_range (lo := 0) (n := (us.getD i []).length) (fun a σ H' => ∃ ys x5 x6, σ = [some (.str (S l)), some (.ref W), some (.int i), some (.int j), some (.ref p), x5, x6] ∧ Same H H' ∧ H' p = some (.lst ys) ∧ (∀ x ∈ ys, LinkAt H' x) ∧
      ys.length = sumTo (fun a => sumTo (fun b => linkN l us (i, a) (j, b)) (us.getD j []).length) a) ⟨[], none, none, rfl, s1, hp1, (fun _ h => nomatch h), rfl⟩ (fun a σ H2 ha pv => ?_) fun σ H' pv => ?_
    · obtain ⟨ys, x5, x6, rfl, s2, hp2, hat2, hlen2⟩ := pv
      rw [Int.zero_add]
      refine ⟨_, rfl, _, rfl, W, _, _, _, rfl, rfl, tupOf (s2 _ _ hW), way_at hj, _, (us.getD j []).length, rfl, ⟨ok2, by rw [S_len]⟩, _, rfl, by omega, by omega, ?_⟩
      rw [Int.toNat_natCast]
      refine for_range (lo := 0) (n := (us.getD j []).length) (fun b σ H' => ∃ zs x6, σ = [some (.str (S l)), some (.ref W), some (.int i), some (.int j), some (.ref p), some (.int a), x6] ∧ Same H H' ∧ H' p = some (.lst zs) ∧ (∀ x ∈ zs, LinkAt H' x) ∧
        zs.length = ys.length + sumTo (fun b => linkN l us (i, a) (j, b)) b) ⟨ys, x6, rfl, s2, hp2, hat2, rfl⟩ (fun b σ H3 hb pv => ?_) fun σ H' pv => ?_
      · obtain ⟨zs, x6, rfl, s3, hp3, hat3, hlen3⟩ := pv
        rw [Int.zero_add]
        refine ⟨_, rfl, .inl ⟨rfl, _, .inl (.inl hp3)⟩, _, rfl, _, rfl, _, rfl, _, rfl, by rw [sizeLine_eq]; simp, fun c nc => ?_⟩
        have s4 := s3.put (o := .tup [.int (i : Nat), .int (a : Nat)]) (s3.free nc)
        have k4 : Same H3 (upd H3 c (.tup [.int (i : Nat), .int (a : Nat)])) := (Same.refl H3).put nc
        have hc4 : StrAt (upd H3 c (.tup [.int (i : Nat), .int (a : Nat)])) c (i, a) := upd_same
        refine ⟨_, rfl, _, rfl, by rw [sizeLine_eq]; simp, fun d nd => ?_⟩
        have k5 := (Same.refl (upd H3 c (.tup [.int (i : Nat), .int (a : Nat)]))).put (o := .tup [.int (j : Nat), .int (b : Nat)]) nd
        have hd5 : StrAt (upd (upd H3 c (.tup [.int (i : Nat), .int (a : Nat)])) d (.tup [.int (j : Nat), .int (b : Nat)])) d (j, b) := upd_same
        have s5 := s4.trans k5
        refine ⟨n, l, us, W, c, d, (i, a), (j, b), U, WI, ⟨hi, ha⟩, ⟨hj, hb⟩, s5 _ _ hW, k5 _ _ hc4, hd5, rfl, fun H6 D ws s6 nD hD hatD hlenD => ?_⟩
        have k6 : Same H3 H6 := k4.trans (k5.trans s6)
        have hp6 := k6 _ _ hp3
        have sb : SameBut p H6 (upd H6 p (.lst (zs ++ ws))) := SameBut.refl.put
        have bound : ys.length ≤ 30 * 90 := by
          rw [hlen2]
          refine Nat.le_trans (sumTo_le (b := 90) (fun a => Nat.le_trans (sumTo_le (b := 3) (fun b => linkN_le l us _ _) _) (by omega)) a) ?_
          omega
        have bound2 : sumTo (fun b => linkN l us (i, a) (j, b)) b ≤ 90 := Nat.le_trans (sumTo_le (b := 3) (fun b => linkN_le l us _ _) b) (by omega)
        have bound3 := linkN_le l us (i, a) (j, b)
        refine ⟨p, D, zs, ws, rfl, rfl, hp6, hD, ?_, ?_⟩
        · rw [hlen3, hlenD, sizeLine_eq]
          omega
        refine ⟨zs ++ ws, _, rfl, fun x o e => ?_, upd_same, fun x hx => ?_, ?_⟩
        · rw [upd_ne (ne_of_none e np)]
          exact k6 _ _ (s3 _ _ e)
        · rcases List.mem_append.mp hx with hx | hx
          · exact ((hat3 x hx).same k6).but sb hp6
          · exact (hatD x hx).but sb hp6
        · rw [List.length_append, hlen3, hlenD, Nat.add_assoc]
          rfl
      · obtain ⟨zs, x6, rfl, s3, hp3, hat3, hlen3⟩ := pv
        refine ⟨zs, _, _, rfl, s3, hp3, hat3, ?_⟩
        rw [hlen3, hlen2]
        rfl
    · obtain ⟨ys, x5, x6, rfl, s2, hp2, hat2, hlen2⟩ := pv
      obtain ⟨ds, hds, hall⟩ := links_dp (K := K) hat2
      have bound : ys.length ≤ 30 * 90 := by
        rw [hlen2]
        refine Nat.le_trans (sumTo_le (b := 90) (fun a => Nat.le_trans (sumTo_le (b := 3) (fun b => linkN_le l us _ _) _) (by omega)) _) ?_
        omega
      refine ⟨_, rfl, p, ys, ds, rfl, .inl (.inl hp2), hds, fun d hd d' hd' => ?_, .inl fun d hd => ?_, by rw [sizeLine_eq]; omega, fun d hd => ?_, fun zs r hz nr => ?_⟩
      · obtain ⟨kd, y, z, m, rfl⟩ := hall d hd
        obtain ⟨kd', y', z', m', rfl⟩ := hall d' hd'
        exact linkD_alike kd kd' y z y' z' m m'
      · obtain ⟨kd, y, z, m, rfl⟩ := hall d hd
        exact ⟨_, _, rfl⟩
      · obtain ⟨kd, y, z, m, rfl⟩ := hall d hd
        exact linkD_depth kd y z m
      · exact q _ r zs (s2.put (s2.free nr)) upd_same (by rw [hz]; exact hlen2)
end
end K72
namespace K72
open PySem PySem.Spec PyProof.Rows L2
def kC : Key := .inr (("cells" : String) : Str)
def kA : Key := .inr (("at" : String) : Str)
def kL : Key := .inr (("left" : String) : Str)
def kT : Key := .inr (("turn" : String) : Str)
theorem nCA : (kC = kA) = False := eq_false (by decide +kernel)
theorem nCL : (kC = kL) = False := eq_false (by decide +kernel)
theorem nCT : (kC = kT) = False := eq_false (by decide +kernel)
theorem nAL : (kA = kL) = False := eq_false (by decide +kernel)
theorem nAT : (kA = kT) = False := eq_false (by decide +kernel)
theorem nLT : (kL = kT) = False := eq_false (by decide +kernel)
theorem nAC : (kA = kC) = False := eq_false (by decide +kernel)
theorem nLC : (kL = kC) = False := eq_false (by decide +kernel)
theorem nTC : (kT = kC) = False := eq_false (by decide +kernel)
theorem nLA : (kL = kA) = False := eq_false (by decide +kernel)
theorem nTA : (kT = kA) = False := eq_false (by decide +kernel)
theorem nTL : (kT = kL) = False := eq_false (by decide +kernel)
def feedL (a b c d : V) : List (Key × V) := [(kC, a), (kA, b), (kL, c), (kT, d)]
theorem feed_merge (a b c d : V) : mergeK [] [(kC, a), (kA, b), (kL, c), (kT, d)] = feedL a b c d := by
  simp [mergeK, putK, feedL, nCA, nCL, nCT, nAL, nAT, nLT]
theorem put_at (a b c d x : V) : putK (feedL a b c d) kA x = feedL a x c d := by
  simp [putK, feedL, nCA, nCL, nCT, nAL, nAT, nLT, nAC, nLC, nTC, nLA, nTA, nTL]
theorem put_left (a b c d x : V) : putK (feedL a b c d) kL x = feedL a b x d := by
  simp [putK, feedL, nCA, nCL, nCT, nAL, nAT, nLT, nAC, nLC, nTC, nLA, nTA, nTL]
theorem put_turn (a b c d x : V) : putK (feedL a b c d) kT x = feedL a b c x := by
  simp [putK, feedL, nCA, nCL, nCT, nAL, nAT, nLT, nAC, nLC, nTC, nLA, nTA, nTL]
theorem val_cells (a b c d : V) : valV (feedL a b c d) kC = some a := by
  simp [valV, feedL]
theorem val_at (a b c d : V) : valV (feedL a b c d) kA = some b := by
  simp [valV, feedL, nCA]
theorem val_left (a b c d : V) : valV (feedL a b c d) kL = some c := by
  simp [valV, feedL, nCL, nAL]
theorem val_turn (a b c d : V) : valV (feedL a b c d) kT = some d := by
  simp [valV, feedL, nCT, nAT, nLT]
/-- the feed, and its cells -/
def FeedAt (H : Hp) (d c : Addr) : Prop := ∃ (cs : List Int) (i l t : Int), H d = some (.dK (feedL (.ref c) (.int i) (.int l) (.int t))) ∧ H c = some (.lst (cs.map V.int)) ∧ 0 < cs.length ∧ cs.length ≤ 64
theorem FeedAt.same {H H' : Hp} {d c : Addr} (s : Same H H') : FeedAt H d c → FeedAt H' d c
  | ⟨cs, i, l, t, h1, h2, h3, h4⟩ => ⟨cs, i, l, t, s _ _ h1, s _ _ h2, h3, h4⟩
theorem FeedAt.ne {H : Hp} {d c : Addr} : FeedAt H d c → c ≠ d
  | ⟨cs, i, l, t, h1, h2, h3, h4⟩ => fun e => by
    rw [e, h1] at h2
    cases h2
theorem FeedAt.but {H H' : Hp} {d c p : Addr} (s : SameBut p H H') (hd : d ≠ p) (hc : c ≠ p) : FeedAt H d c → FeedAt H' d c
  | ⟨cs, i, l, t, h1, h2, h3, h4⟩ => ⟨cs, i, l, t, s _ _ hd h1, s _ _ hc h2, h3, h4⟩
theorem dg {H : Hp} {a : Addr} {kvs : List (Key × V)} {k : Key} {v : V} (e : H a = some (.dK kvs)) (h : valV kvs k = some v) : DGet H a (kV k) (some v) := by
  rw [← h]
  exact .k e
theorem dp {H : Hp} {a : Addr} {b c d e x : V} {kvs : List (Key × V)} {k : Key} (h : H a = some (.dK (feedL b c d e))) (hk : putK (feedL b c d e) k x = kvs) : DPut H a (kV k) x (upd H a (.dK kvs)) := by
  rw [← hk]
  exact .k h (by rw [sizeLine_eq]; show 4 < _; omega)
section
variable {P : Program} {w : World} {K : PySem.W.Frag} {mg : Str → Option Value} {base : Heap} {f : Addr} {fd : FuncData} {k : Nat}
/-! ### _law_draw -/
theorem sc40 : FnScope ["_law_feed_here", "_law_many", "_law_cell", "_law_mixed", "_law_found"] ["_law_feed_here", "_law_many"] (defScope (topS 40)) := ⟨rfl, rfl, rfl, by decide +kernel, rfl, by decide +kernel, by decide +kernel⟩
def spDraw : Sp := fun vs H Q _ => ∃ (d c : Addr) (m : Nat), FeedAt H d c ∧ 0 < m ∧ m ≤ 1000 ∧ vs = [.ref d, .int m] ∧ ∀ (r : Nat) (H' : Hp), r < m → SameBut d H H' → FeedAt H' d c → Q (.int r) H'
theorem c_draw (F : Df K mg "_law_draw" 40 f fd) (T : Tx mg) : Cl P w K mg base (k + 1) "_law_draw" spDraw := by
  refine F.cl (ps := ["_law_feed_here", "_law_many"]) (F.fn.ok sc40 (fun vs H Q E h => ?_) (fun cdv A outer s H vs Q E hr h => ?_)) (F.fn.binds fun _ _ _ _ _ _ us hl => match us, hl with | [_, _], _ => rfl)
  · obtain ⟨d, c, m, _, _, _, rfl, _⟩ := h
    rfl
  · obtain ⟨d, c, m, ⟨cs, i, l, t, hd, hc, h0, h64⟩, hm, hm2, rfl, q⟩ := h
    have hu := hr.units
    have hu1 : (A.deeper (envOfC "_law_draw" (defScope (topS 40)) s.heap.objs.size f cdv)).units + 1 < cLine := by omega
    refine ⟨_, pss_cons (ps_asg (pe_op op_add (pe_dget hu1 (pv 0) pe_str (fun _ _ => rfl)) pe_int) (pg_sub (pv 0) pe_str (set_dict hu1)))
      (pss_cons (ps_if (pt_cmpR op_eq (pe_dget hu1 (pv 0) pe_str (fun _ _ => rfl)) pe_int (nomark _))
        (pss_cons (ps_set (i := 2) sc40.nd rfl (.inl rfl) (pe_ix ix_list (pe_dget hu1 (pv 0) pe_str (fun _ _ => rfl)) (pe_op op_mod (pe_dget hu1 (pv 0) pe_str (fun _ _ => rfl)) (pe_callB call_len_seq (by rfl) T.len PySem.boot_len (pa_cons (pe_dget hu1 (pv 0) pe_str (fun _ _ => rfl)) pa_nil))) (fun _ _ => rfl)))
        (pss_cons (ps_asg (pe_op op_add (pe_dget hu1 (pv 0) pe_str (fun _ _ => rfl)) pe_int) (pg_sub (pv 0) pe_str (set_dict hu1)))
        (pss_cons (ps_if (pt_cmpR op_lt (pv 2) (pe_op op_pow pe_int pe_int) (nomark _))
          (pss_cons (ps_set (i := 3) sc40.nd rfl (.inl rfl) (pe_op op_mod (pe_op op_mul (pe_op op_add (pe_op op_mod (pv 2) pe_int) (pe_op op_mul pe_int (pe_dget hu1 (pv 0) pe_str (fun _ _ => rfl)))) pe_int) pe_int))
          (pss_cons (ps_set (i := 3) sc40.nd rfl (.inl rfl) (pe_op op_mod (pe_op op_mul (pe_op op_add (pe_op op_fdiv (pv 3) pe_int) (pe_op op_mul pe_int (pe_dget hu1 (pv 0) pe_str (fun _ _ => rfl)))) pe_int) pe_int))
          (pss_one (ps_ret (pe_op op_mod (pe_op op_fdiv (pv 3) pe_int) (pv 1)))))) pss_nil)
        (pss_one (ps_asg (pv 2) (pg_sub (pv 0) pe_str (set_dict hu1))))))) pss_nil)
      (pss_cons (ps_set (i := 4) sc40.nd rfl (.inl rfl) (pe_op op_mod (pe_dget hu1 (pv 0) pe_str (fun _ _ => rfl)) (pv 1)))
      (pss_cons (ps_asg (pe_op op_fdiv (pe_dget hu1 (pv 0) pe_str (fun _ _ => rfl)) (pv 1)) (pg_sub (pv 0) pe_str (set_dict hu1)))
      (pss_one (ps_ret (pv 4)))))), ?_⟩
    have pos1 : (0 : Int) < 2147483629 := by decide
    have pos2 : (0 : Int) < 2147483647 := by decide
    have pos3 : (0 : Int) < 2147483587 := by decide
    have hcd : c ≠ d := FeedAt.ne ⟨cs, i, l, t, hd, hc, h0, h64⟩
    have hmI : (0 : Int) < (m : Nat) := by omega
    have hmC : CDiv l (m : Nat) := ⟨by omega, by omega⟩
    have fin : ∀ (x : Int) (H' : Hp), SameBut d H H' → FeedAt H' d c → Q (.int (x % ((m : Nat) : Int))) H' := fun x H' s1 s2 => by
      have h1 := Int.emod_nonneg x (b := ((m : Nat) : Int)) (by omega)
      have h2 := Int.emod_lt_of_pos x (b := ((m : Nat) : Int)) (by omega)
      have e : x % ((m : Nat) : Int) = ((x % ((m : Nat) : Int)).toNat : Nat) := by omega
      rw [e]
      exact q _ H' (by omega) s1 s2
    refine ⟨_, rfl, d, _, rfl, dg hd (val_turn _ _ _ _), _, _, rfl, rfl, _, rfl, d, _, rfl, dp hd (put_turn _ _ _ _ _), ?_⟩
    have b1 : SameBut d H (upd H d (.dK (feedL (.ref c) (.int i) (.int l) (.int (t + 1))))) := SameBut.refl.put
    have hd1 : (upd H d (.dK (feedL (.ref c) (.int i) (.int l) (.int (t + 1))))) d = some (.dK (feedL (.ref c) (.int i) (.int l) (.int (t + 1)))) := upd_same
    have hc1 := b1 c _ hcd hc
    show tSeq _ _ _ _ (upd H d (.dK (feedL (.ref c) (.int i) (.int l) (.int (t + 1)))))
    generalize upd H d (.dK (feedL (.ref c) (.int i) (.int l) (.int (t + 1)))) = H1 at b1 hd1 hc1
    refine ⟨_, rfl, d, _, rfl, dg hd1 (val_left _ _ _ _), rfl, _, rfl, ?_⟩
    -- the end of it
    have last : ∀ (cs' : List Int) (i' l' t' : Int) (H' : Hp) (x2 x3 : Option V), SameBut d H H' → H' d = some (.dK (feedL (.ref c) (.int i') (.int l') (.int t'))) → H' c = some (.lst (cs.map V.int)) →
        tSeq (tAsg (tOp (rI (fun x j => 0 < j) fun i j => V.int (i % j)) (tDGet (tVar 0) (tC (V.str (("left" : String) : Str)))) (tVar 1)) (gName 4))
          (tSeq (tAsg (tOp (rI CDiv fun i j => V.int (i / j)) (tDGet (tVar 0) (tC (V.str (("left" : String) : Str)))) (tVar 1)) (gSub (tVar 0) (tC (V.str (("left" : String) : Str))) rSetD)) (tRet (tVar 4)))
          { nx := fun x H' => Q V.non H', rt := Q } [some (.ref d), some (.int m), x2, x3, none] H' := fun cs' i' l' t' H' x2 x3 b' hd' hc' => by
      refine ⟨_, rfl, d, _, rfl, dg hd' (val_left _ _ _ _), _, rfl, _, _, rfl, rfl, hmI, ?_⟩
      refine ⟨_, rfl, d, _, rfl, dg hd' (val_left _ _ _ _), _, rfl, _, _, rfl, rfl, ⟨by omega, by omega⟩, _, rfl, d, _, rfl, dp hd' (put_left _ _ _ _ _), ?_⟩
      refine ⟨_, rfl, fin l' _ b'.put ⟨cs, i', l' / ((m : Nat) : Int), t', upd_same, ?_, h0, h64⟩⟩
      rw [upd_ne hcd]
      exact hc'
    cases hz : decide (V.int l = V.int 0) with
    | false => exact goF rfl (last cs i l (t + 1) H1 none none b1 hd1 hc1)
    | true =>
      refine goT rfl ?_
      have hcell : ∃ z, atI (cs.map V.int) (i % (((cs.map V.int).length : Nat) : Int)) = some (.int z) := by
        rw [List.length_map]
        have h1 := Int.emod_nonneg i (b := ((cs.length : Nat) : Int)) (by omega)
        have h2 := Int.emod_lt_of_pos i (b := ((cs.length : Nat) : Int)) (by omega)
        have e : i % ((cs.length : Nat) : Int) = ((i % ((cs.length : Nat) : Int)).toNat : Nat) := by omega
        rw [e]
        have hl : (i % ((cs.length : Nat) : Int)).toNat < cs.length := by omega
        refine ⟨cs[(i % ((cs.length : Nat) : Int)).toNat], atI_nat ?_⟩
        rw [List.getElem?_map, List.getElem?_eq_getElem hl]
        rfl
      obtain ⟨z, hcell⟩ := hcell
      refine ⟨_, rfl, d, _, rfl, dg hd1 (val_cells _ _ _ _), _, rfl, d, _, rfl, dg hd1 (val_at _ _ _ _), _, rfl, d, _, rfl, dg hd1 (val_cells _ _ _ _), c, _, rfl, .inl (.inl (.inl hc1)), _, _, rfl, rfl, by rw [List.length_map]; omega, c, _, _, _, rfl, rfl, .inl (.inl hc1), hcell, ?_⟩
      refine ⟨_, rfl, d, _, rfl, dg hd1 (val_at _ _ _ _), _, _, rfl, rfl, _, rfl, d, _, rfl, dp hd1 (put_at _ _ _ _ _), ?_⟩
      have b2 : SameBut d H (upd H1 d (.dK (feedL (.ref c) (.int (i + 1)) (.int l) (.int (t + 1))))) := b1.put
      have hd2 : (upd H1 d (.dK (feedL (.ref c) (.int (i + 1)) (.int l) (.int (t + 1))))) d = some (.dK (feedL (.ref c) (.int (i + 1)) (.int l) (.int (t + 1)))) := upd_same
      have hc2 := b2 c _ hcd hc
      show tSeq _ _ _ _ (upd H1 d (.dK (feedL (.ref c) (.int (i + 1)) (.int l) (.int (t + 1)))))
      generalize upd H1 d (.dK (feedL (.ref c) (.int (i + 1)) (.int l) (.int (t + 1)))) = H2 at b2 hd2 hc2
      have feed2 : FeedAt H2 d c := ⟨cs, _, _, _, hd2, hc2, h0, h64⟩
      refine ⟨_, rfl, _, _, rfl, rfl, ⟨by decide, by decide, by decide⟩, _, _, rfl, rfl, _, rfl, ?_⟩
      refine ite2 (fun _ => ?_) (fun _ => ?_)
      · refine ⟨_, rfl, _, _, rfl, rfl, pos1, _, rfl, d, _, rfl, dg hd2 (val_turn _ _ _ _), _, _, rfl, rfl, .inl ⟨by decide, by decide⟩, _, _, rfl, rfl, _, _, rfl, rfl, .inr ⟨by decide, by decide⟩, _, _, rfl, rfl, pos2, ?_⟩
        refine ⟨_, rfl, _, _, rfl, rfl, ⟨by decide, by decide⟩, _, rfl, d, _, rfl, dg hd2 (val_turn _ _ _ _), _, _, rfl, rfl, .inl ⟨by decide, by decide⟩, _, _, rfl, rfl, _, _, rfl, rfl, .inr ⟨by decide, by decide⟩, _, _, rfl, rfl, pos3, ?_⟩
        refine ⟨_, rfl, _, _, rfl, rfl, ⟨by decide, by decide⟩, _, rfl, _, _, rfl, rfl, hmI, ?_⟩
        exact fin _ H2 b2 feed2
      · refine ⟨_, rfl, _, rfl, d, _, rfl, dp hd2 (put_left _ _ _ _ _), ?_⟩
        refine last cs _ _ _ _ _ _ b2.put upd_same ?_
        rw [upd_ne hcd]
        exact hc2
end
end K72
namespace K72
open PySem PySem.Spec PyProof.Rows L2
theorem boot_lst : bootBuiltins "list" = some (.type "list") := by decide +kernel
theorem bkW_snoc (l : List Nat) (c : Nat) : bkW (l ++ [c]) = bk c :: bkW l := by unfold bkW; simp
theorem bkW_len (l : List Nat) : (bkW l).length = l.length := by unfold bkW; simp
theorem last_S {l : List Nat} (h : l ≠ []) : ∃ c, atI l ((l.length : Int) - 1) = some c ∧ c ∈ l := by
  have hp := List.length_pos_iff.mpr h
  have e : (l.length : Int) - 1 = ((l.length - 1 : Nat) : Int) := by omega
  have hl : l.length - 1 < l.length := by omega
  refine ⟨l[l.length - 1], ?_, List.getElem_mem hl⟩
  rw [e]
  exact atI_nat (List.getElem?_eq_getElem hl)
theorem head_S {l : List Nat} (h : l ≠ []) : ∃ c, atI l 0 = some c ∧ c ∈ l := by
  have hp := List.length_pos_iff.mpr h
  exact ⟨l[0], atI_nat (j := 0) (List.getElem?_eq_getElem hp), List.getElem_mem hp⟩
theorem cutS_mid (l : List Nat) (p q : Nat) : cutS (S l) (some (p : Int)) (some (q : Int)) = S ((l.take q).drop p) := by
  unfold cutS
  rw [HT.sIx_nat, HT.sIx_nat, tl_S, S_len]
  refine TL.ext_tl ?_
  show (l.drop (min p l.length)).take (min q l.length - min p l.length) = (l.take q).drop p
  rw [List.take_drop]
  by_cases h1 : p ≤ l.length
  · rw [Nat.min_eq_left h1]
    by_cases h2 : q ≤ l.length
    · rw [Nat.min_eq_left h2]
      by_cases h3 : p ≤ q
      · rw [show p + (q - p) = q by omega]
      · rw [show p + (q - p) = p by omega, List.drop_of_length_le (by rw [List.length_take]; omega), List.drop_of_length_le (by rw [List.length_take]; omega)]
    · rw [Nat.min_eq_right (by omega), show p + (l.length - p) = l.length by omega, List.take_of_length_le (Nat.le_refl _), List.take_of_length_le (by omega)]
  · rw [Nat.min_eq_right (by omega), List.drop_of_length_le (by rw [List.length_take]; omega), List.drop_of_length_le (by rw [List.length_take]; omega)]
section
variable {P : Program} {w : World} {K : PySem.W.Frag} {mg : Str → Option Value} {base : Heap} {f : Addr} {fd : FuncData} {k : Nat}
/-! ### _law_feed -/
theorem sc39 : FnScope ["_law_script"] ["_law_script"] (defScope (topS 39)) := ⟨rfl, rfl, rfl, by decide +kernel, rfl, by decide +kernel, by decide +kernel⟩
def spFeed (K : PySem.W.Frag) : Sp := fun vs H Q _ => ∃ (a : Addr) (ns : List Int), SqL K H a (ns.map V.int) ∧ ns.length ≤ 63 ∧ vs = [.ref a] ∧ ∀ (d c : Addr) (H' : Hp), Same H H' → H d = none → H c = none → FeedAt H' d c → Q (.ref d) H'
theorem c_feed (F : Df K mg "_law_feed" 39 f fd) (T : Tx mg) : Cl P w K mg base (k + 1) "_law_feed" (spFeed K) := by
  refine F.cl (ps := ["_law_script"]) (F.fn.ok sc39 (fun vs H Q E h => ?_) (fun cdv A outer s H vs Q E hr h => ?_)) (F.fn.binds fun _ _ _ _ _ _ us hl => match us, hl with | [_], _ => rfl)
  · obtain ⟨a, ns, _, _, rfl, _⟩ := h
    rfl
  · obtain ⟨a, ns, ha, hn, rfl, q⟩ := h
    refine ⟨_, pss_one (ps_ret (pe_disp (pps_cons pe_str (pe_op op_cat (pe_callTy call_list_of (by rfl) T.list boot_lst (pa_cons (pe_slice sl_list (pv 0) po_none (po_some pe_int)) pa_nil))
        (pe_op op_rep (pe_lst (pa_cons pe_int pa_nil)) (pe_callTy call_int1 (by rfl) T.int (by decide +kernel) (pa_cons (pe_cmpR op_eq (pe_callB call_len_seq (by rfl) T.len PySem.boot_len (pa_cons (pv 0) pa_nil)) pe_int (nomark _)) pa_nil))))
      (pps_cons pe_str pe_int (pps_cons pe_str pe_int (pps_cons pe_str pe_int pps_nil)))) rfl rfl (by intro h; cases h) (by decide))), ?_⟩
    refine fun d nd => ?_
    have s1 : Same H (upd H d (.dK [])) := (Same.refl H).put nd
    have hd1 : (upd H d (.dK [])) d = some (.dK []) := upd_same
    generalize upd H d (.dK []) = H1 at s1 hd1
    refine ⟨_, rfl, 63, rfl, a, _, rfl, s1.seq ha, fun p np => ⟨p, _, rfl, .inl (.inl (.inl upd_same)), fun c nc => ?_⟩⟩
    have k2 : Same H1 (upd H1 p (.lst (cutV (ns.map V.int) none (some 63)))) := (Same.refl H1).put np
    have k3 := k2.put (o := .lst (cutV (ns.map V.int) none (some 63))) (k2.free nc)
    have hc3 : (upd (upd H1 p (.lst (cutV (ns.map V.int) none (some 63)))) c (.lst (cutV (ns.map V.int) none (some 63)))) c = some (.lst (cutV (ns.map V.int) none (some 63))) := upd_same
    show tOp _ _ _ _ (upd (upd H1 p (.lst (cutV (ns.map V.int) none (some 63)))) c (.lst (cutV (ns.map V.int) none (some 63)))) _
    generalize upd (upd H1 p (.lst (cutV (ns.map V.int) none (some 63)))) c (.lst (cutV (ns.map V.int) none (some 63))) = H3 at k3 hc3
    have hcut : cutV (ns.map V.int) none (some 63) = ns.map V.int := by
      unfold cutV
      have e : (63 : Int) = ((63 : Nat) : Int) := rfl
      rw [HT.sIx_none, e, HT.sIx_nat, List.drop_zero, List.length_map, Nat.min_eq_right hn, Nat.sub_zero]
      exact List.take_of_length_le (by rw [List.length_map]; exact Nat.le_refl _)
    rw [hcut] at hc3
    refine ⟨by rw [sizeLine_eq]; simp, fun z nz => ?_⟩
    have k4 := k3.put (o := .lst [V.int 0]) (k3.free nz)
    have hc4 := (Same.refl H3).put (o := .lst [V.int 0]) nz _ _ hc3
    have hz4 : (upd H3 z (.lst [V.int 0])) z = some (.lst [V.int 0]) := upd_same
    show tCB _ _ _ (upd H3 z (.lst [V.int 0])) _
    generalize upd H3 z (.lst [V.int 0]) = H4 at k4 hc4 hz4
    refine ⟨_, rfl, a, ns.map V.int, rfl, .inl ((s1.trans k4).seq ha), rfl, .inr ⟨_, rfl, ?_⟩⟩
    have go : ∀ (m : Nat), (m = 0 ∧ 0 < ns.length ∨ m = 1 ∧ ns.length = 0) → rRep (V.ref z) (V.int (m : Nat)) H4 fun y H2 => rCat (.ref c) y H2 fun y H2 =>
          tPairs [(tC (V.str (("at" : String) : Str)), tC (V.int 0)), (tC (V.str (("left" : String) : Str)), tC (V.int 0)), (tC (V.str (("turn" : String) : Str)), tC (V.int 0))]
            (L2.start ["_law_script"] [V.ref a]) H2 fun ps H3 => (fun ps H2 => H2 d = some (HO.dK []) ∧ ∃ kvs, ps = List.map (fun kv => (kV kv.fst, kv.snd)) kvs ∧ kvs.length ≤ 15 ∧ Q (V.ref d) (upd H2 d (HO.dK (mergeK [] kvs)))) ((V.str (("cells" : String) : Str), y) :: ps) H3 := fun m hm => by
      refine ⟨z, m, [V.int 0], rfl, rfl, hz4, by omega, by omega, ?_, fun r nr => ?_⟩
      · rw [sizeLine_eq, Int.toNat_natCast]
        show 1 * m ≤ _
        omega
      rw [Int.toNat_natCast]
      have k5 := k4.put (o := .lst (List.replicate m [V.int 0]).flatten) (k4.free nr)
      have hc5 := (Same.refl H4).put (o := .lst (List.replicate m [V.int 0]).flatten) nr _ _ hc4
      have hr5 : (upd H4 r (.lst (List.replicate m [V.int 0]).flatten)) r = some (.lst (List.replicate m [V.int 0]).flatten) := upd_same
      generalize upd H4 r (.lst (List.replicate m [V.int 0]).flatten) = H5 at k5 hc5 hr5
      have erep : (List.replicate m [V.int 0]).flatten = (List.replicate m (0 : Int)).map V.int := by
        rcases hm with ⟨rfl, _⟩ | ⟨rfl, _⟩ <;> rfl
      rw [erep] at hr5
      refine ⟨c, r, _, _, rfl, rfl, hc5, hr5, ?_, fun e ne => ?_⟩
      · rw [List.length_map, List.length_map, List.length_replicate, sizeLine_eq]
        omega
      have k6 := k5.put (o := .lst (ns.map V.int ++ (List.replicate m (0 : Int)).map V.int)) (k5.free ne)
      have hd6 := k6 _ _ hd1
      have he6 : (upd H5 e (.lst (ns.map V.int ++ (List.replicate m (0 : Int)).map V.int))) e = some (.lst (ns.map V.int ++ (List.replicate m (0 : Int)).map V.int)) := upd_same
      have ned : e ≠ d := (ne_of_none (k5 _ _ hd1) ne).symm
      have neH : H e = none := (s1.trans k5).free ne
      refine ⟨hd6, [(kC, .ref e), (kA, .int 0), (kL, .int 0), (kT, .int 0)], rfl, by simp, ?_⟩
      rw [feed_merge]
      refine q d e _ ?_ nd neH ⟨ns ++ List.replicate m 0, 0, 0, 0, upd_same, ?_, ?_, ?_⟩
      · intro b o eb
        rw [upd_ne (ne_of_none eb nd)]
        exact (s1.trans k6) b o eb
      · rw [upd_ne ned, he6, List.map_append]
      · rw [List.length_append, List.length_replicate]
        omega
      · rw [List.length_append, List.length_replicate]
        omega
    by_cases h0 : ns.length = 0
    · have e : decide (V.int (((ns.map V.int).length : Nat) : Int) = V.int 0) = true := decide_eq_true (by rw [List.length_map, h0]; rfl)
      rw [e]
      exact go 1 (.inr ⟨rfl, h0⟩)
    · have e : decide (V.int (((ns.map V.int).length : Nat) : Int) = V.int 0) = false := decide_eq_false (fun q => by have := V.int.inj q; rw [List.length_map] at this; omega)
      rw [e]
      exact go 0 (.inl ⟨rfl, by omega⟩)
/-! ### _law_back -/
theorem sc41 : FnScope ["_law_word", "_law_found", "_law_sign"] ["_law_word"] (defScope (topS 41)) := ⟨rfl, rfl, rfl, by decide +kernel, rfl, by decide +kernel, by decide +kernel⟩
def spLBack : Sp := fun vs H Q _ => ∃ l : List Nat, (∀ c ∈ l, Lt 6 c) ∧ l.length ≤ 1000 ∧ vs = [.str (S l)] ∧ Q (.str (S (bkW l))) H
theorem c_lback (F : Df K mg "_law_back" 41 f fd) : Cl P w K mg base (k + 1) "_law_back" spLBack := by
  refine F.cl (ps := ["_law_word"]) (F.fn.ok sc41 (fun vs H Q E h => ?_) (fun cdv A outer s H vs Q E hr h => ?_)) (F.fn.binds fun _ _ _ _ _ _ us hl => match us, hl with | [_], _ => rfl)
  · obtain ⟨l, _, _, rfl, _⟩ := h
    rfl
  · obtain ⟨l, hl, hn, rfl, q⟩ := h
    refine ⟨_, pss_cons (ps_set (i := 1) sc41.nd rfl (.inl rfl) pe_str)
      (pss_cons (ps_for PassesOwn.never rfl (pi_str (pv 0)) (pg_name (i := 2) sc41.nd rfl (.inl rfl))
        (pss_one (ps_set (i := 1) sc41.nd rfl (.inl rfl) (pe_op op_add_str (pe_ifExp (pt_cmpR op_in_sign (pv 2) pe_str (by rfl)) (pe_upper (pv 2)) (pe_lower (pv 2))) (pv 1)))))
      (pss_one (ps_ret (pv 1)))), ?_⟩
    refine ⟨_, rfl, S l, rfl, ?_⟩
    refine for_text (l := l) (fun i σ H' => H' = H ∧ ∃ x2, σ = [some (.str (S l)), some (.str (S (bkW (l.take i)))), x2]) ⟨rfl, none, rfl⟩ (fun i c σ H' hc p => ?_) fun σ H' p => ?_
    · obtain ⟨rfl, x2, rfl⟩ := p
      have hlc := hl c (List.mem_of_getElem? hc)
      refine ⟨_, rfl, c, (("abcdef" : String) : Str), rfl, rfl, _, rfl, ?_⟩
      rw [lit_small, tl_S, in_small hlc]
      have fin : (S [bk c] ++ S (bkW (l.take i))) = S (bkW (l.take (i + 1))) := by
        rw [S_app, take_snoc hc, bkW_snoc]
        rfl
      have len : (S [bk c]).length + (S (bkW (l.take i))).length ≤ sizeLine := by
        rw [S_len, S_len, bkW_len, List.length_take, sizeLine_eq]
        show 1 + _ ≤ _
        omega
      refine ite2 (fun h => ?_) (fun h => ?_)
      · refine ⟨_, rfl, ⟨_, rfl⟩, _, rfl, rfl, by rw [S_len]; simp, ?_⟩
        rw [up_of hlc, bk_small hlc (of_decide_eq_true h)]
        refine ⟨_, rfl, _, _, rfl, rfl, len, ?_⟩
        rw [fin]
        exact ⟨rfl, _, rfl⟩
      · refine ⟨_, rfl, ⟨_, rfl⟩, _, rfl, rfl, by rw [S_len]; simp, ?_⟩
        rw [low_of hlc, bk_big hlc (fun z => h (decide_eq_true z))]
        refine ⟨_, rfl, _, _, rfl, rfl, len, ?_⟩
        rw [fin]
        exact ⟨rfl, _, rfl⟩
    · obtain ⟨rfl, x2, rfl⟩ := p
      rw [List.take_of_length_le (Nat.le_refl _)]
      exact ⟨_, rfl, q⟩
/-! ### _law_reduced -/
theorem sc42 : FnScope ["_law_word", "_law_found", "_law_sign"] ["_law_word"] (defScope (topS 42)) := ⟨rfl, rfl, rfl, by decide +kernel, rfl, by decide +kernel, by decide +kernel⟩
def spSub : Sp := fun vs H Q _ => ∃ l : List Nat, (∀ c ∈ l, Lt 6 c) ∧ l.length ≤ 1000 ∧ vs = [.str (S l)] ∧ ∀ u : List Nat, u.length ≤ l.length → (∀ c ∈ u, c ∈ l) → Q (.str (S u)) H
theorem c_reduced (F : Df K mg "_law_reduced" 42 f fd) (T : Tx mg) (C : Cl P w K mg base k "_law_back" spLBack) : Cl P w K mg base (k + 1) "_law_reduced" spSub := by
  refine F.cl (ps := ["_law_word"]) (F.fn.ok sc42 (fun vs H Q E h => ?_) (fun cdv A outer s H vs Q E hr h => ?_)) (F.fn.binds fun _ _ _ _ _ _ us hl => match us, hl with | [_], _ => rfl)
  · obtain ⟨l, _, _, rfl, _⟩ := h
    rfl
  · obtain ⟨l, hl, hn, rfl, q⟩ := h
    refine ⟨_, pss_cons (ps_set (i := 1) sc42.nd rfl (.inl rfl) pe_str)
      (pss_cons (ps_for PassesOwn.never rfl (pi_str (pv 0)) (pg_name (i := 2) sc42.nd rfl (.inl rfl))
        (pss_one (ps_if (PW.pt (pw_and (pt_cmpR op_ne (pv 1) pe_str (nomark _)) (pw_and1 (pt_cmpR op_eq (pc C hr (Nat.le_refl _) (pa_cons (pv 2) pa_nil)) (pe_ix ix_str (pv 1) (pe_op op_sub (pe_callB call_len_str (by rfl) T.len PySem.boot_len (pa_cons (pv 1) pa_nil)) pe_int) (fun _ _ => rfl)) (nomark _)))))
          (pss_one (ps_set (i := 1) sc42.nd rfl (.inl rfl) (pe_slice sl_str (pv 1) po_none (po_some (pe_op op_sub (pe_callB call_len_str (by rfl) T.len PySem.boot_len (pa_cons (pv 1) pa_nil)) pe_int)))))
          (pss_one (ps_set (i := 1) sc42.nd rfl (.inl rfl) (pe_op op_add_str (pv 1) (pv 2)))))))
      (pss_one (ps_ret (pv 1)))), ?_⟩
    refine ⟨_, rfl, S l, rfl, ?_⟩
    refine for_text (l := l) (fun i σ H' => H' = H ∧ ∃ (u : List Nat) (x2 : Option V), σ = [some (.str (S l)), some (.str (S u)), x2] ∧ u.length ≤ i ∧ ∀ c ∈ u, c ∈ l) ⟨rfl, [], none, rfl, Nat.le_refl _, fun _ h => nomatch h⟩ (fun i c σ H' hc p => ?_) fun σ H' p => ?_
    · obtain ⟨rfl, u, x2, rfl, hu, hm⟩ := p
      have hi := (List.getElem?_eq_some_iff.mp hc).1
      have hcl := List.mem_of_getElem? hc
      have oku : (S u).length ≤ sizeLine := line_S (n := 1000) (by omega) (by decide)
      have more : ∃ (uu : List Nat) (xx : Option V), [some (V.str (S l)), some (V.str (S u ++ S [c])), some (V.str (S [c]))] = [some (V.str (S l)), some (V.str (S uu)), xx] ∧ uu.length ≤ i + 1 ∧ ∀ x ∈ uu, x ∈ l := by
        rw [S_app]
        refine ⟨_, _, rfl, by rw [List.length_append]; exact Nat.succ_le_succ hu, fun x hx => ?_⟩
        rcases List.mem_append.mp hx with hx | hx
        · exact hm x hx
        · rw [List.mem_singleton.mp hx]; exact hcl
      have len : (S u).length + (S [c]).length ≤ sizeLine := by
        rw [S_len, S_len, sizeLine_eq]
        show _ + 1 ≤ _
        omega
      refine ⟨_, rfl, rfl, _, rfl, ?_⟩
      by_cases e0 : u = []
      · refine goF (by rw [e0, decide_eq_true (show V.str (S []) = V.str (("" : String) : Str) by rw [lit_nil])]; rfl) (iteF ?_)
        exact ⟨_, rfl, _, rfl, _, _, rfl, rfl, len, rfl, more⟩
      refine goT (by
        rw [decide_eq_false]
        · rfl
        · intro e
          rw [lit_nil] at e
          exact e0 (S_inj (V.str.inj e))) ?_
      obtain ⟨b, hb, hbm⟩ := last_S e0
      have hup := List.length_pos_iff.mpr e0
      refine ⟨_, rfl, [c], one_lt (hl c hcl), by simp, rfl, _, rfl, _, rfl, _, rfl, oku, _, _, rfl, rfl, S u, _, b, rfl, rfl, oku, by rw [S_len]; exact hb, rfl, _, rfl, ?_⟩
      refine ite2 (fun _ => ?_) (fun _ => ?_)
      · refine ⟨_, rfl, _, rfl, _, rfl, oku, _, _, rfl, rfl, _, rfl, S u, rfl, oku, ?_⟩
        have e : ((S u).length : Int) - 1 = ((u.length - 1 : Nat) : Int) := by rw [S_len]; omega
        rw [e, cutS_to]
        exact ⟨rfl, _, _, rfl, by rw [List.length_take]; omega, fun x hx => hm x (List.mem_of_mem_take hx)⟩
      · exact ⟨_, rfl, _, rfl, _, _, rfl, rfl, len, rfl, more⟩
    · obtain ⟨rfl, u, x2, rfl, hu, hm⟩ := p
      exact ⟨_, rfl, q u hu hm⟩
/-! ### _law_middle -/
theorem sc43 : FnScope ["_law_word", "_law_found"] ["_law_word"] (defScope (topS 43)) := ⟨rfl, rfl, rfl, by decide +kernel, rfl, by decide +kernel, by decide +kernel⟩
theorem c_middle (F : Df K mg "_law_middle" 43 f fd) (T : Tx mg) (C1 : Cl P w K mg base k "_law_back" spLBack) (C2 : Cl P w K mg base k "_law_reduced" spSub) : Cl P w K mg base (k + 1) "_law_middle" spSub := by
  refine F.cl (ps := ["_law_word"]) (F.fn.ok sc43 (fun vs H Q E h => ?_) (fun cdv A outer s H vs Q E hr h => ?_)) (F.fn.binds fun _ _ _ _ _ _ us hl => match us, hl with | [_], _ => rfl)
  · obtain ⟨l, _, _, rfl, _⟩ := h
    rfl
  · obtain ⟨l, hl, hn, rfl, q⟩ := h
    refine ⟨_, pss_cons (ps_set (i := 1) sc43.nd rfl (.inl rfl) (pc C2 hr (Nat.le_refl _) (pa_cons (pv 0) pa_nil)))
      (pss_cons (ps_while PassesOwn.never (PW.pt (pw_and (pt_cmpR op_gt (pe_callB call_len_str (by rfl) T.len PySem.boot_len (pa_cons (pv 1) pa_nil)) pe_int (nomark _))
          (pw_and1 (pt_cmpR op_eq (pe_ix ix_str (pv 1) pe_int (fun _ _ => rfl)) (pc C1 hr (Nat.le_refl _) (pa_cons (pe_ix ix_str (pv 1) (pe_op op_sub (pe_callB call_len_str (by rfl) T.len PySem.boot_len (pa_cons (pv 1) pa_nil)) pe_int) (fun _ _ => rfl)) pa_nil)) (nomark _)))))
        (pss_one (ps_set (i := 1) sc43.nd rfl (.inl rfl) (pe_slice sl_str (pv 1) (po_some pe_int) (po_some (pe_op op_sub (pe_callB call_len_str (by rfl) T.len PySem.boot_len (pa_cons (pv 1) pa_nil)) pe_int))))))
      (pss_one (ps_ret (pv 1)))), ?_⟩
    refine ⟨_, rfl, l, hl, hn, rfl, fun u0 h0 m0 => ?_⟩
    refine ⟨fun m σ H2 => H2 = H ∧ ∃ u : List Nat, σ = [some (.str (S l)), some (.str (S u))] ∧ m = u.length ∧ u.length ≤ l.length ∧ ∀ c ∈ u, c ∈ l, ⟨u0.length, rfl, u0, rfl, rfl, h0, m0⟩, fun m σ H2 hW => ?_⟩
    obtain ⟨rfl, u, rfl, rfl, hu, hm⟩ := hW
    have oku : (S u).length ≤ sizeLine := line_S (n := 1000) (by omega) (by decide)
    refine ⟨_, rfl, _, rfl, oku, _, _, rfl, rfl, _, rfl, ?_⟩
    by_cases h1 : 1 < u.length
    · refine goT (decide_eq_true (by rw [S_len]; omega)) ?_
      have e0 : u ≠ [] := fun e => by rw [e] at h1; exact absurd h1 (by simp)
      obtain ⟨a, ha, ham⟩ := head_S e0
      obtain ⟨b, hb, hbm⟩ := last_S e0
      refine ⟨_, rfl, S u, _, a, rfl, rfl, oku, ha, _, rfl, _, rfl, _, rfl, oku, _, _, rfl, rfl, S u, _, b, rfl, rfl, oku, by rw [S_len]; exact hb, [b], one_lt (hl b (hm b hbm)), by simp, rfl, rfl, _, rfl, ?_⟩
      refine ite2 (fun _ => ?_) (fun _ => ?_)
      · refine ⟨_, fun _ _ h => h, _, rfl, _, rfl, _, rfl, _, rfl, oku, _, _, rfl, rfl, _, rfl, S u, rfl, oku, ?_⟩
        have e : ((S u).length : Int) - 1 = ((u.length - 1 : Nat) : Int) := by rw [S_len]; omega
        have e1 : (1 : Int) = ((1 : Nat) : Int) := rfl
        rw [e, e1, cutS_mid]
        have hlen : ((u.take (u.length - 1)).drop 1).length < u.length := by rw [List.length_drop, List.length_take]; omega
        exact ⟨_, hlen, rfl, _, rfl, rfl, by omega, fun x hx => hm x (List.mem_of_mem_take (List.mem_of_mem_drop hx))⟩
      · exact ⟨_, rfl, q u hu hm⟩
    · refine goF (decide_eq_false (by rw [S_len]; omega)) (iteF ?_)
      exact ⟨_, rfl, q u hu hm⟩
end
end K72
namespace K72
open PySem PySem.Spec PyProof.Rows L2
theorem seqIx {r n : Nat} (h : r < n) : seqIndex? (r : Int) n = some r := by
  unfold seqIndex?
  simp
  omega
theorem erase_perm : ∀ {L : List Nat} {r : Nat} (h : r < L.length), List.Perm (L[r] :: L.eraseIdx r) L
  | [], _, h => absurd h (Nat.not_lt_zero _)
  | a :: L, 0, _ => List.Perm.refl _
  | a :: L, r + 1, h => by
    have h' : r < L.length := Nat.lt_of_succ_lt_succ h
    have ih := erase_perm h'
    show List.Perm (L[r] :: a :: L.eraseIdx r) (a :: L)
    exact (List.Perm.swap _ _ _).trans (ih.cons a)
theorem erase_map {α β : Type} (g : α → β) : ∀ (L : List α) (r : Nat), (L.map g).eraseIdx r = (L.eraseIdx r).map g
  | [], _ => rfl
  | a :: L, 0 => rfl
  | a :: L, r + 1 => by
    show g a :: (L.map g).eraseIdx r = g a :: (L.eraseIdx r).map g
    rw [erase_map g L r]
section
variable {P : Program} {w : World} {K : PySem.W.Frag} {mg : Str → Option Value} {base : Heap} {f : Addr} {fd : FuncData} {k : Nat}
/-! ### _law_surface -/
theorem sc44 : FnScope ["_law_feed_here", "_law_many", "_law_left", "_law_found", "_law_k"] ["_law_feed_here", "_law_many"] (defScope (topS 44)) := ⟨rfl, rfl, rfl, by decide +kernel, rfl, by decide +kernel, by decide +kernel⟩
def spSurface : Sp := fun vs H Q _ => ∃ (d c : Addr) (m : Nat), FeedAt H d c ∧ 1 ≤ m ∧ m ≤ 6 ∧ vs = [.ref d, .int m] ∧ ∀ (u : List Nat) (H' : Hp), Surf m u → SameBut d H H' → FeedAt H' d c → Q (.str (S u)) H'
theorem c_surface (F : Df K mg "_law_surface" 44 f fd) (T : Tx mg) (C : Cl P w K mg base k "_law_draw" spDraw) : Cl P w K mg base (k + 1) "_law_surface" spSurface := by
  refine F.cl (ps := ["_law_feed_here", "_law_many"]) (F.fn.ok sc44 (fun vs H Q E h => ?_) (fun cdv A outer s H vs Q E hr h => ?_)) (F.fn.binds fun _ _ _ _ _ _ us hl => match us, hl with | [_, _], _ => rfl)
  · obtain ⟨d, c, m, _, _, _, rfl, _⟩ := h
    rfl
  · obtain ⟨d, c, m, hF, h1, h6, rfl, q⟩ := h
    have hcd := hF.ne
    refine ⟨_, pss_cons (ps_set (i := 2) sc44.nd rfl (.inl rfl) (pe_callTy (call_listS rfl) (by rfl) T.list boot_lst (pa_cons (pe_op op_add_str (pe_slice sl_str pe_str po_none (po_some (pv 1))) (pe_slice sl_str pe_str po_none (po_some (pv 1)))) pa_nil)))
      (pss_cons (ps_set (i := 3) sc44.nd rfl (.inl rfl) pe_str)
      (pss_cons (ps_for PassesOwn.never rfl (pi_range1 rfl T.range (pa_cons (pe_op op_mul pe_int (pv 1)) pa_nil)) (pg_name (i := 4) sc44.nd rfl (.inl rfl))
        (pss_one (ps_set (i := 3) sc44.nd rfl (.inl rfl) (pe_op op_add_str (pv 3) (pe_bm PySem.F.plainAttrs_list PySem.F.slot_list_pop PySem.F.type_list_pop mt_popAt (pv 2) (pa_cons (pc C hr (Nat.le_refl _) (pa_cons (pv 0) (pa_cons (pe_callB call_len_seq (by rfl) T.len PySem.boot_len (pa_cons (pv 2) pa_nil)) pa_nil))) pa_nil))))))
      (pss_one (ps_ret (pv 3))))), ?_⟩
    have okA : ((("abcdef" : String) : Str)).length ≤ sizeLine := by rw [lit_small, S_len, sizeLine_eq]; decide
    have okB : ((("ABCDEF" : String) : Str)).length ≤ sizeLine := by rw [lit_big, S_len, sizeLine_eq]; decide
    have hl := letters_len h6
    refine ⟨_, rfl, m, rfl, _, rfl, okA, _, rfl, m, rfl, _, rfl, okB, _, _, rfl, rfl, ?_, ?_⟩
    · rw [lit_small, lit_big, cutS_to, cutS_to, S_len, S_len, List.length_take, List.length_take, sizeLine_eq]
      omega
    refine ⟨lettersOf m, ?_, by omega, fun p np => ?_⟩
    · rw [lit_small, lit_big, cutS_to, cutS_to, S_app]
      rfl
    have hpd : p ≠ d := by
      obtain ⟨cs, i, l, t, hd, _⟩ := hF
      exact (ne_of_none hd np).symm
    have hpc : p ≠ c := by
      obtain ⟨cs, i, l, t, _, hc, _⟩ := hF
      exact (ne_of_none hc np).symm
    have s1 : Same H (upd H p (.lst ((lettersOf m).map fun c => V.str (S [c])))) := (Same.refl H).put np
    have hp1 : (upd H p (.lst ((lettersOf m).map fun c => V.str (S [c])))) p = some (.lst ((lettersOf m).map fun c => V.str (S [c]))) := upd_same
    generalize upd H p (.lst ((lettersOf m).map fun c => V.str (S [c]))) = H1 at s1 hp1
    refine ⟨_, rfl, _, _, rfl, rfl, .inl ⟨by decide, by decide⟩, _, rfl, by omega, by omega, ?_⟩
    have e2 : ((2 : Int) * ((m : Nat) : Int)).toNat = 2 * m := by omega
    rw [e2]
    refine for_range (lo := 0) (n := 2 * m) (fun i σ H' => ∃ (u L : List Nat) (x4 : Option V), σ = [some (.ref d), some (.int m), some (.ref p), some (.str (S u)), x4] ∧ SameBut d H H' ∧ FeedAt H' d c ∧ H' p = some (.lst (L.map fun c => V.str (S [c]))) ∧
      List.Perm (u ++ L) (lettersOf m) ∧ u.length = i) ⟨[], lettersOf m, none, rfl, fun b o _ e => s1 b o e, hF.same s1, hp1, List.Perm.refl _, rfl⟩ (fun i σ H2 hi pv => ?_) fun σ H' pv => ?_
    · obtain ⟨u, L, x4, rfl, s2, F2, hp2, pm, hu⟩ := pv
      have hlen := pm.length_eq
      rw [hl, List.length_append, hu] at hlen
      refine ⟨_, rfl, _, rfl, .inl ⟨rfl, _, .inl (.inl hp2)⟩, _, rfl, _, rfl, p, _, rfl, .inl (.inl (.inl hp2)), d, c, L.length, F2, by omega, by omega, by rw [List.length_map]; rfl, fun r H3 hr3 s3 F3 => ?_⟩
      have hp3 := s3 _ _ hpd hp2
      refine ⟨p, _, r, r, .str (S [L[r]]), rfl, rfl, hp3, by omega, by omega, ?_, ?_, ?_⟩
      · rw [List.length_map]
        exact seqIx hr3
      · rw [List.getElem?_map, List.getElem?_eq_getElem hr3]
        rfl
      rw [erase_map]
      refine ⟨_, _, rfl, rfl, ?_, u ++ [L[r]], L.eraseIdx r, some (.int (0 + (i : Nat))), ?_, ?_, ?_, upd_same, ?_, ?_⟩
      · rw [S_len, S_len, sizeLine_eq, hu]
        show i + 1 ≤ _
        omega
      · rw [S_app]
        rfl
      · intro b o hb e
        have hbp : b ≠ p := ne_of_none e np
        rw [upd_ne hbp]
        exact s3 b o hb (s2 b o hb e)
      · exact F3.but SameBut.refl.put hpd.symm hpc.symm
      · have := erase_perm hr3
        rw [List.append_assoc]
        exact (this.append_left u).trans pm
      · rw [List.length_append, hu]
        rfl
    · obtain ⟨u, L, x4, rfl, s2, F2, hp2, pm, hu⟩ := pv
      have hlen := pm.length_eq
      rw [hl, List.length_append, hu] at hlen
      have hL : L = [] := List.length_eq_zero_iff.mp (by omega)
      rw [hL, List.append_nil] at pm
      exact ⟨_, rfl, q u H' (surf_perm h1 h6 pm) s2 F2⟩
end
end K72
namespace K72
open PySem PySem.Spec PyProof.Rows L2
theorem lay_ints : ∀ ns : List Int, PyData.canLayAll0 (ns.map PyData.int) = true
  | [] => by simp [PyData.canLayAll0]
  | n :: ns => by
    rw [List.map_cons, PyData.canLayAll0, lay_ints ns]
    simp [PyData.canLay0]
theorem shape_ints (ns : List Int) : SeqAt.shaped (.list (ns.map PyData.int)) = true := by
  unfold SeqAt.shaped
  rw [PyData.canLay0, lay_ints, PyData.depth, PySem.W.depth_ints]
  decide
theorem dp_ints {K : PySem.W.Frag} {H : Hp} : ∀ ns : List Int, DpAll K H (ns.map V.int) (ns.map PyData.int)
  | [] => .nil
  | n :: ns => .cons (.int n) (dp_ints ns)
theorem eqv_nil_ints (ns : List Int) : PyData.eqv (.list (ns.map PyData.int)) (.list []) = ns.isEmpty := by
  cases ns with
  | nil => simp [PyData.eqv, PyData.eqvAll]
  | cons n ns => simp [PyData.eqv, PyData.eqvAll]
section
variable {P : Program} {w : World} {K : PySem.W.Frag} {mg : Str → Option Value} {base : Heap} {f : Addr} {fd : FuncData} {k : Nat}
/-! ### _law_way -/
theorem sc45 : FnScope ["_law_feed_here", "_law_signs", "_law_word", "_law_sizes", "_law_k"] ["_law_feed_here", "_law_signs"] (defScope (topS 45)) := ⟨rfl, rfl, rfl, by decide +kernel, rfl, by decide +kernel, by decide +kernel⟩
def rLenS (K : PySem.W.Frag) : List V → Hp → VK → Prop := fun xs H Q => ∃ p ys, xs = [V.ref p] ∧ (SqL K H p ys ∨ SqT K H p ys) ∧ Q (V.int ys.length) H
def ones (l : List Nat) : List V := l.map fun c => V.str (S [c])
def spWay : Sp := fun vs H Q _ => ∃ (d c g : Addr) (l : List Nat), FeedAt H d c ∧ H g = some (.lst (ones l)) ∧ l ≠ [] ∧ l.length ≤ 100 ∧ (∀ c ∈ l, Lt 6 c) ∧ vs = [.ref d, .ref g] ∧
  ∀ (u : List Nat) (H' : Hp), u ≠ [] → u.length ≤ 8 → (∀ c ∈ u, c ∈ l) → SameBut d H H' → FeedAt H' d c → Q (.str (S u)) H'
theorem c_way (F : Df K mg "_law_way" 45 f fd) (T : Tx mg) (C1 : Cl P w K mg base k "_law_draw" spDraw) (C2 : Cl P w K mg base k "_law_middle" spSub) : Cl P w K mg base (k + 1) "_law_way" spWay := by
  refine F.cl (ps := ["_law_feed_here", "_law_signs"]) (F.fn.ok sc45 (fun vs H Q E h => ?_) (fun cdv A outer s H vs Q E hr h => ?_)) (F.fn.binds fun _ _ _ _ _ _ us hl => match us, hl with | [_, _], _ => rfl)
  · obtain ⟨d, c, g, l, _, _, _, _, _, rfl, _⟩ := h
    rfl
  · obtain ⟨d, c, g, l, hF, hg, hne, hlen, hlt, rfl, q⟩ := h
    refine ⟨_, pss_cons (ps_set (i := 2) sc45.nd rfl (.inr rfl) (pc C2 hr (Nat.le_refl _) (pa_cons (pe_join pe_str (pe_lc (own := [("_law_k", 4)]) (g := gName 4) (tt := tYes) (te := tOp (rIxL K) (tVar 1) (tCall spDraw [] E0 (tCons (tVar 0) (tCons (tCB (rLenS K) (tCons (tVar 1) tNil)) tNil)))) rfl sc45.nd (pi_range1 rfl T.range (pa_cons (pe_op op_add pe_int (pc C1 hr (Nat.le_refl _) (pa_cons (pv 0) (pa_cons pe_int pa_nil)))) pa_nil)) (blkOk_by (own := [("_law_k", 4)]) (N := ["_law_feed_here", "_law_signs", "_law_word", "_law_sizes", "_law_k"]) (sc := defScope (topS 45)) (by decide +kernel))
        (fun _ _ _ _ _ => pg_name (i := 4) sc45.nd rfl (Or.inl rfl)) (fun _ _ _ _ _ => pts_nil)
        (fun _ _ _ _ _ => pe_ix ix_list (pv 1) (pc C1 hr (Nat.le_refl _) (pa_cons (pv 0) (pa_cons (pe_callB (r := rLenS K) call_len_seq (by rfl) T.len PySem.boot_len (pa_cons (pv 1) pa_nil)) pa_nil))) (fun _ _ => rfl)))) pa_nil)))
      (pss_cons (ps_setLc (i := 3) (own := [("_law_k", 4)]) (g := gName 4) (tt := tTest (tOp rEq (tOp (fun x y H Q => ∃ (z : List Nat) (n : Nat), x = .str (S z) ∧ y = .int n ∧ 1 ≤ n ∧ n ≤ 1000 ∧ z.length * n ≤ 1000 ∧ Q (.str (S (List.replicate n z).flatten)) H) (tSl rSlS (tVar 2) tNoPart (tPart (tVar 4))) (tOp (rI CDiv fun i j => V.int (i / j)) (tCB (fun xs H Q => ∃ z : Str, xs = [.str z] ∧ z.length ≤ sizeLine ∧ Q (.int z.length) H) (tCons (tVar 2) tNil)) (tVar 4))) (tVar 2))) rfl sc45.nd rfl rfl (sw_true rfl rfl rfl (by decide +kernel)) (pi_range2 rfl T.range (pa_cons pe_int (pa_cons (pe_op op_add (pe_callB call_len_str (by rfl) T.len PySem.boot_len (pa_cons (pv 2) pa_nil)) pe_int) pa_nil))) (blkOk_by (own := [("_law_k", 4)]) (N := ["_law_feed_here", "_law_signs", "_law_word", "_law_sizes", "_law_k"]) (sc := defScope (topS 45)) (by decide +kernel))
        (fun _ _ _ _ _ => pg_name (i := 4) sc45.nd rfl (Or.inl rfl)) (fun _ _ _ _ _ => pts_one (pt_cmpR op_eq (pe_op op_mulS (pe_slice sl_str (pv 2) po_none (po_some (pv 4))) (pe_op op_fdiv (pe_callB call_len_str (by rfl) T.len PySem.boot_len (pa_cons (pv 2) pa_nil)) (pv 4))) (pv 2) (nomark _)))
        (fun _ _ _ _ _ => pv 4))
      (pss_one (ps_ret (pe_ifExp (pt_cmpR (op_neD hr.units) (pv 3) (pe_lst pa_nil) (nomark _)) (pe_slice sl_str (pv 2) po_none (po_some (pe_ix ix_list (pv 3) pe_int (fun _ _ => rfl)))) (pe_ix ix_list (pv 1) pe_int (fun _ _ => rfl)))))), ?_⟩
    have hp : 0 < l.length := List.length_pos_iff.mpr hne
    have gd : g ≠ d := by
      obtain ⟨cs, i, l', t, hd, _⟩ := hF
      intro e
      rw [e, hd] at hg
      cases hg
    refine ⟨⟨_, rfl⟩, _, rfl, d, c, 8, hF, by decide, by decide, rfl, fun r H1 hr1 s1 F1 => ?_⟩
    refine ⟨_, _, rfl, rfl, _, rfl, by omega, by omega, fun D nD => ?_⟩
    have en : ((1 : Int) + ((r : Nat) : Int)).toNat = r + 1 := by omega
    rw [en]
    have hg1 := s1 _ _ gd hg
    have Dd : D ≠ d := by
      obtain ⟨cs, i, l', t, hd, _⟩ := F1
      exact (ne_of_none hd nD).symm
    have Dc : D ≠ c := by
      obtain ⟨cs, i, l', t, _, hc, _⟩ := F1
      exact (ne_of_none hc nD).symm
    have Dg : D ≠ g := (ne_of_none hg1 nD).symm
    refine lc_range (lo := 0) (n := r + 1) (fun i H' => SameBut d H1 H' ∧ FeedAt H' d c ∧ ∃ u : List Nat, H' D = some (.lst (ones u)) ∧ u.length = i ∧ ∀ x ∈ u, x ∈ l)
      ⟨fun b o hb e => by rw [upd_ne (ne_of_none e nD)]; exact e, F1.but SameBut.refl.put Dd.symm Dc.symm, [], upd_same, rfl, fun _ h => nomatch h⟩ (fun i H2 hi p => ?_) fun H2 p => ?_
    · obtain ⟨s2, F2, u, hD, hu, hm⟩ := p
      have hg2 := s2 _ _ gd hg1
      refine ⟨rfl, _, rfl, _, rfl, _, rfl, g, ones l, rfl, .inl (.inl (.inl hg2)), d, c, l.length, F2, hp, by omega, by unfold ones; rw [List.length_map]; rfl, fun r2 H3 hr2 s3 F3 => ?_⟩
      have hg3 := s3 _ _ gd hg2
      have hD3 := s3 _ _ Dd hD
      refine ⟨g, _, _, .str (S [l[r2]]), rfl, rfl, .inl (.inl hg3), ?_, _, hD3, ?_, fun b o hb e => ?_, F3.but SameBut.refl.put Dd.symm Dc.symm, u ++ [l[r2]], ?_, ?_, fun x hx => ?_⟩
      · refine atI_nat ?_
        unfold ones
        rw [List.getElem?_map, List.getElem?_eq_getElem hr2]
        rfl
      · unfold ones
        rw [List.length_map, hu, sizeLine_eq]
        omega
      · rw [upd_ne (ne_of_none e nD)]
        exact s3 b o hb (s2 b o hb e)
      · rw [upd_same]
        unfold ones
        rw [List.map_append]
        rfl
      · rw [List.length_append, hu]
        rfl
      · rcases List.mem_append.mp hx with hx | hx
        · exact hm x hx
        · rw [List.mem_singleton.mp hx]
          exact List.getElem_mem hr2
    obtain ⟨s2, F2, u, hD, hu, hm⟩ := p
    have hg2 := s2 _ _ gd hg1
    have s12 : SameBut d H H2 := fun b o hb e => s2 b o hb (s1 b o hb e)
    have e1 : ones u = ((u.map fun c => [id c]).map S).map V.str := by
      unfold ones
      rw [List.map_map, List.map_map]
      rfl
    have hD' := hD
    rw [e1] at hD'
    refine ⟨S [], D, _, rfl, rfl, .inl (.inl (.inl hD')), ?_, ?_⟩
    · rw [ones_len, S_len]
      show u.length + _ * 0 ≤ _
      omega
    have ej : Txt.join (S []) ((u.map fun c => [id c]).map S) = S u := by
      rw [join_S]
      have : (u.map fun c => [id c]).flatten = u := by
        clear hD hD' e1 hu hm
        induction u with
        | nil => rfl
        | cons a r ih => rw [List.map_cons, List.flatten_cons, ih]; rfl
      rw [this]
    rw [ej]
    refine ⟨u, fun x hx => hlt x (hm x hx), by omega, rfl, fun v hv mv => ?_⟩
    have okv : (S v).length ≤ sizeLine := line_S (n := 1000) (by omega) (by decide)
    have hv8 : v.length ≤ 8 := by omega
    -- the sizes
    refine ⟨_, rfl, S v, rfl, okv, _, _, rfl, rfl, 1, _, rfl, ⟨by decide, by decide, by omega, by rw [S_len]; omega⟩, fun z nz => ?_⟩
    have en2 : (((S v).length : Int) + 1 - 1).toNat = v.length := by rw [S_len]; omega
    rw [en2]
    refine lc_range (lo := 1) (n := v.length) (fun i H' => Same H2 H' ∧ ∃ js : List Nat, H' z = some (.lst ((js.map fun j => ((j + 1 : Nat) : Int)).map V.int)) ∧ js.length ≤ i) ⟨(Same.refl H2).put nz, [], upd_same, Nat.le_refl _⟩ (fun i H3 hi p => ?_) fun H3 p => ?_
    · obtain ⟨s3, js, hz, hjs⟩ := p
      have e3 : (1 : Int) + ((i : Nat) : Int) = ((i + 1 : Nat) : Int) := by omega
      rw [e3]
      have hq : 1 ≤ v.length / (i + 1) := Nat.div_pos (by omega) (by omega)
      have hq2 : v.length / (i + 1) ≤ v.length := Nat.div_le_self _ _
      refine ⟨rfl, _, rfl, _, rfl, ((i + 1 : Nat) : Int), rfl, S v, rfl, okv, _, rfl, _, rfl, okv, _, rfl, _, _, rfl, rfl, ⟨by omega, by omega⟩, v.take (i + 1), v.length / (i + 1), by rw [cutS_to], by rw [S_len]; rfl, hq, by omega, ?_, _, rfl, rfl, _, rfl, ?_⟩
      · rw [List.length_take]
        have h1 : min (i + 1) v.length ≤ 8 := by omega
        have h2 : v.length / (i + 1) ≤ 8 := by omega
        have := Nat.mul_le_mul h1 h2
        omega
      refine ite2 (fun _ => ?_) (fun _ => ?_)
      · refine ⟨_, rfl, _, hz, ?_, s3.put nz, js ++ [i], ?_, ?_⟩
        · rw [List.length_map, List.length_map, sizeLine_eq]
          omega
        · rw [upd_same, List.map_append, List.map_append]
          rfl
        · rw [List.length_append]
          exact Nat.succ_le_succ hjs
      · exact ⟨s3, js, hz, by omega⟩
    obtain ⟨s3, js, hz, hjs⟩ := p
    have hg3 := s3 _ _ hg2
    have F3 := F2.same s3
    have s13 : SameBut d H H3 := s12.same s3
    refine ⟨_, rfl, Nat.zero_le _, fun y ny => ?_⟩
    have s4 : Same H3 (upd H3 y (.lst [])) := (Same.refl H3).put ny
    have hz4 := s4 _ _ hz
    have hg4 := s4 _ _ hg3
    have hy4 : (upd H3 y (.lst [])) y = some (.lst []) := upd_same
    refine ⟨.list ((js.map fun j => ((j + 1 : Nat) : Int)).map PyData.int), .list [], .lst (.inl (.inl hz4)) (dp_ints _), .lst (.inl (.inl hy4)) .nil, shape_ints _, shape_ints [], _, rfl, ?_⟩
    rw [eqv_nil_ints]
    cases js with
    | nil =>
      refine goF rfl ?_
      refine ⟨_, rfl, g, _, 0, .str (S [l[0]]), rfl, rfl, .inl (.inl hg4), atI_nat (j := 0) ?_, q [l[0]] _ (by simp) (by simp) (fun x hx => by rw [List.mem_singleton.mp hx]; exact List.getElem_mem hp) (s13.same s4) (F3.same s4)⟩
      unfold ones
      rw [List.getElem?_map, List.getElem?_eq_getElem hp]
      rfl
    | cons j js =>
      refine goT rfl ?_
      refine ⟨_, rfl, _, rfl, z, _, 0, .int ((j + 1 : Nat) : Int), rfl, rfl, .inl (.inl hz4), atI_nat (j := 0) rfl, _, rfl, S v, rfl, okv, ?_⟩
      rw [cutS_to]
      have hv1 : 1 ≤ v.length := by
        have : (j :: js).length ≤ v.length := hjs
        rw [List.length_cons] at this
        omega
      refine q (v.take (j + 1)) _ (fun e => ?_) (by rw [List.length_take]; omega) (fun x hx => hm x (mv x (List.mem_of_mem_take hx))) (s13.same s4) (F3.same s4)
      rcases List.take_eq_nil_iff.mp e with e | e
      · exact absurd e (Nat.succ_ne_zero _)
      · rw [e] at hv1
        exact absurd hv1 (by simp)
end
end K72
namespace K72
open PySem PySem.Spec PyProof.Rows L2
/-! ### a thing that nobody tracks and nobody writes: it stays as it is, but for its slots -/
def Held (b : Addr) (o : Obj) (s : Shared) : Prop := ∃ sl, s.heap.get? b = some { o with slots := sl }
theorem Held.un {b : Addr} {o : Obj} {s s' : Shared} {fs : List Addr} {H H' : Hp} (h : Held b o s) (u : Un fs [] H H' s.heap s'.heap) (n : H b = none) : Held b o s' := by
  obtain ⟨sl, e⟩ := h
  obtain ⟨sl', e'⟩ := u.any e n (by simp)
  exact ⟨sl', e'⟩
theorem Held.kept {b : Addr} {o : Obj} {s s' : Shared} (h : Held b o s) (k : ∀ b o, s.heap.get? b = some o → s'.heap.get? b = some o) : Held b o s' := by
  obtain ⟨sl, e⟩ := h
  exact ⟨sl, k _ _ e⟩
theorem Held.but {b a : Addr} {o : Obj} {s s' : Shared} (h : Held b o s) (k : Heap.SameBut a s.heap s'.heap) (n : b ≠ a) : Held b o s' := by
  obtain ⟨sl, e⟩ := h
  exact ⟨sl, (k.2 b n).trans e⟩
theorem Held.cell {c : Addr} {o : Obj} {v : Option Value} {s : Shared} (h : Held c o s) (e : o.data = .cell v) : s.heap.IsCell c v := by
  obtain ⟨sl, e'⟩ := h
  exact ⟨_, e', e⟩
theorem Held.ns {a : Addr} {o : Obj} {m : Str → Option Value} {s s' : Shared} (h : Held a o s) (n : s.heap.Ns a m) (h' : Held a o s') : s'.heap.Ns a m := by
  obtain ⟨sl, e⟩ := h
  obtain ⟨sl', e'⟩ := h'
  obtain ⟨o1, es, ep, h1, h2, h3⟩ := n
  rw [e] at h1
  cases h1
  exact ⟨_, es, ep, e', h2, h3⟩
theorem held_of {b : Addr} {o : Obj} {s : Shared} (h : s.heap.get? b = some o) : Held b o s := ⟨o.slots, h⟩
/-- b stands untracked wherever the walk is -/
def Loose (X : Cx) (b : Addr) : Prop := ∀ (pins : List (Addr × Obj)) (σ : L2.St) (H : Hp) (s : Shared), Inv X pins σ H s → H b = none
theorem loose_cell {X : Cx} {x : Str} {c : Addr} (h : X.env.cells.lookup x = some c) : Loose X c := fun _ _ _ _ I => I.freeC x c h
theorem loose_loc {X : Cx} : Loose X X.env.locals := fun _ _ _ _ I => I.free
/-- an expression, b held -/
structure PEh (X : Cx) (b : Addr) (o : Obj) (e : Expr) (t : TE) : Prop where
  run : ∀ (pins : List (Addr × Obj)) (s : Shared) (σ : L2.St) (H : Hp) (Q : VK), Inv X pins σ H s → Held b o s → t σ H Q →
    wpAny (model X.prog X.w) X.A (eval e X.env) (fun u s' => Held b o s' ∧ EP X pins σ Q u s') X.xe s
structure PAh (X : Cx) (b : Addr) (o : Obj) (es : List Expr) (t : TA) : Prop where
  run : ∀ (pos : Pos) (pins : List (Addr × Obj)) (s : Shared) (σ : L2.St) (H : Hp) (Q : List V → Hp → Prop), Inv X pins σ H s → Held b o s → t σ H Q →
    wpAny (model X.prog X.w) X.A (spliced (backTo pos (starEach es X.env))) (fun us s' => Held b o s' ∧ AP X pins σ Q us s') X.xe s
/-- a statement that ends in the next, b held -/
structure PSh (X : Cx) (b : Addr) (o : Obj) (st : Stmt) (t : TS) : Prop where
  run : ∀ (pins : List (Addr × Obj)) (s : Shared) (σ : L2.St) (H : Hp) (D : Ends), Inv X pins σ H s → Held b o s → t D σ H →
    wpAny (model X.prog X.w) X.A (exec st X.env) (fun f s' => f = .next ∧ Held b o s' ∧ ∃ σ' H', Inv X pins σ' H' s' ∧ D.nx σ' H') X.xe s
section
variable {X : Cx} {b : Addr} {o : Obj}
theorem peh_name {i : Nat} {x : Str} {pos : Pos} (hN : X.N[i]? = some x) (hv : Vis X.env.scope x) (hd : (x == ("__debug__" : Str)) = false := by decide) (hcd : (x == ("__classdict__" : Str)) = false := by decide) : PEh X b o (.Name x pos) (tVar i) := by
  refine ⟨fun pins s σ H Q I hh h => ?_⟩
  obtain ⟨v, hσ, q⟩ := h
  exact raw_name hN hv I hσ (fun u r => ⟨hh, v, H, I, r, q⟩) hd hcd
theorem pah_nil : PAh X b o [] tNil := ⟨fun _ _ _ _ H Q I hh h => Calls.spliced_nil ⟨hh, [], H, I, .nil, h⟩⟩
theorem pah_cons {e : Expr} {es : List Expr} {te : TE} {t : TA} (ha : PEh X b o e te) (hr : PAh X b o es t) (hs : starEach (e :: es) X.env = (false, eval e X.env) :: starEach es X.env := by rfl) : PAh X b o (e :: es) (tCons te t) := by
  refine ⟨fun pos pins s σ H Q I hh h => ?_⟩
  rw [hs]
  show wpAny _ _ (spliced ((false, eval e X.env) :: backTo pos (starEach es X.env))) _ _ s
  refine Calls.spliced_cons (thn (ha.run pins s σ H _ I hh h) fun u s1 ⟨hh1, x, H1, I1, r1, q1⟩ => ?_)
  exact thn (hr.run pos pins s1 σ H1 _ I1 hh1 q1) fun us s2 ⟨hh2, xs, H2, I2, r2, q2⟩ => ⟨hh2, x :: xs, H2, I2, .cons r1 r2, q2⟩
theorem pch {k j : Nat} {x : Str} {sp : Sp} {p pos : Pos} {e : Expr} {es : List Expr} {t : TA} (lb : Loose X b) (c : Cl X.prog X.w X.K X.mg X.base k x sp) (hr : Room j X.A) (hk : k ≤ j) (ha : PAh X b o (e :: es) t) (hg : Gl X x := by rfl) (hdb : (x == ("__debug__" : Str)) = false := by decide)
    (he : starEach (e :: es) X.env = (false, eval e X.env) :: starEach es X.env := by rfl) (hpl : (backTo pos (starEach es X.env)).any (·.1) = false := by rfl) : PEh X b o (.Call (.Name x p) (e :: es) [] pos) (tCall sp [] E0 t) := by
  obtain ⟨f, fd, ps, F, hm, kp, bd⟩ := c.ex
  refine ⟨fun pins s σ H Q I hh h => ?_⟩
  refine wpAny_Call_Name_kw (ld_glob I hg hm ?_ hdb)
  refine PySem.W.callWith_K (h₀ := X.base) I.ok.mod.kin kp (thn (ha.run pos pins s σ H _ I hh h) fun us s1 ⟨hh1, vs, H1, I1, r, q⟩ => ⟨I1.kIn, ?_⟩) he hpl
  have q : sp (vs ++ []) H1 Q E0 := q
  rw [List.append_nil] at q
  have hl : us.length = ps.length := by rw [← r.length]; exact F.len _ _ _ _ q
  have bb := bd s1 us I1.kIn (by rw [List.append_nil]; exact hl)
  rw [List.append_nil] at bb
  show wpAny _ _ (call (.ref f) us) _ _ _
  refine wpAny_call (codeAny_mono (F.run X.A X.stack s1 H1 ⟨us, []⟩ us vs Q E0 (hr.mono hk) I1.env0 bb r q) fun r' s' hq => ?_)
  cases r' with
  | error e => exact False.elim hq
  | ok fl =>
    cases fl with
    | ret u =>
      have hq' : CE X.stack X.prog X.w H1 s1 Q u s' := hq
      obtain ⟨v, H', os, bare, un, hok, rr, qq⟩ := hq'
      exact ⟨hh1.un un (lb pins σ H1 s1 I1), I1.after ⟨v, H', os, bare, un, hok, rr, qq⟩⟩
    | next => exact False.elim hq
    | brk => exact False.elim hq
    | cont => exact False.elim hq
theorem peh_tup {es : List Expr} {t : TA} {x1} {pos : Pos} (h : PAh X b o es t) : PEh X b o (.Tuple es x1 pos) (tTup t) := by
  refine ⟨fun pins s σ H Q I hh hq => ?_⟩
  refine wpAny_Tuple_spliced (thn (h.run pos pins s σ H _ I hh hq) fun us s1 ⟨hh1, xs, H1, I1, r, z, q⟩ => ⟨by rw [← r.length]; exact z, ?_⟩)
  have hf : H1 s1.heap.objs.size = none := I1.hok.fresh (Nat.le_refl _)
  refine ⟨hh1.kept (fun b u e => Heap.get?_push_of_some _ e), .ref s1.heap.objs.size, upd H1 s1.heap.objs.size (.tup xs), I1.laid (t' := s1.toks) (fun b u e => Heap.get?_push_of_some _ e) (Nat.le_refl _) ?_, rfl, q _ hf⟩
  exact ⟨z, us, r, ⟨_, Heap.get?_push_size _ rfl, rfl, _, rfl⟩⟩
/-- name = e, the name not the held one's -/
theorem psh_set {i : Nat} {x : Str} {e : Expr} {te : TE} {pos pos' : Pos} (hN : X.N.Nodup) (hi : X.N[i]? = some x) (hx : Loc X.env.scope x) (he : PEh X b o e te) (hbL : b ≠ X.env.locals) (hbx : X.env.cells.lookup x ≠ some b)
    (hs : swapsWith e (some (.Name x pos')) pos.line X.env = pure false := by rfl) (hf : X.fn x = true ∨ X.env.scope.names.lookup x = some .local := by first | exact .inl rfl | exact .inr rfl | assumption) :
    PSh X b o (.Assign [.Name x pos'] e pos) (tAsg te (gName i)) := by
  refine ⟨fun pins s σ H D I hh h => ?_⟩
  refine wpAny_Assign_Name (thn (he.run pins s σ H _ I hh h) fun v s1 ⟨hh1, y, H1, I1, r1, q1⟩ => ?_) hs
  refine store_ok2 I1 hN hi hx r1 (fun s2 I2 ⟨a, sb, ha⟩ => ⟨rfl, hh1.but sb ?_, _, H1, I2, q1⟩) hf
  rcases ha with rfl | ha
  · exact hbL
  · rintro rfl
    exact hbx ha
end
/-! ### a def that asks for an argument's token -/
/-- the i-th argument is a text that was made before -/
def TokAt (i : Nat) (us : List Value) (n : Nat) : Prop := ∃ x t, us[i]? = some (.str x t) ∧ t ≠ 0 ∧ t < n
theorem TokAt.mono {i : Nat} {us : List Value} {n m : Nat} (h : n ≤ m) : TokAt i us n → TokAt i us m
  | ⟨x, t, h1, h2, h3⟩ => ⟨x, t, h1, h2, Nat.lt_of_lt_of_le h3 h⟩
structure FnT (P : Program) (w : World) (K : PySem.W.Frag) (mg : Str → Option Value) (base : Heap) (k : Nat) (f : Addr) (fd : FuncData) (ps : List Str) (i : Nat) (Z : Value → Nat → Prop) (sp : Sp) : Prop where
  len : ∀ vs H Q E, sp vs H Q E → vs.length = ps.length
  run : ∀ (A : Around) (outer : List Env) (s : Shared) (H : Hp) (args : Args) (us : List Value) (vs : List V) (Q : VK) (E : XK), Room k A → Env0 P w K mg base A outer s H → BindsTo s fd args (ps.zip us) → Vals vs us → TokAt i us s.toks → sp vs H Q E →
    codeAny (model P w) A (.call (.ref f) args) (fun r s' => CR CX0 outer P w H s Q E r s' ∧ ∀ u, r = .ok (.ret u) → Z u s'.toks) s
structure ClT (P : Program) (w : World) (K : PySem.W.Frag) (mg : Str → Option Value) (base : Heap) (k : Nat) (x : Str) (i : Nat) (Z : Value → Nat → Prop) (sp : Sp) : Prop where
  ex : ∃ (f : Addr) (fd : FuncData) (ps : List Str), FnT P w K mg base k f fd ps i Z sp ∧ mg x = some (.ref f) ∧ PySem.W.keepIn K (.ref f) = true ∧ Binds K fd ps []
theorem Df.clT {P : Program} {w : World} {K : PySem.W.Frag} {mg : Str → Option Value} {base : Heap} {x : Str} {j : Nat} {f : Addr} {fd : FuncData} {ps : List Str} {k i : Nat} {Z : Value → Nat → Prop} {sp : Sp} (D : Df K mg x j f fd) (F : FnT P w K mg base k f fd ps i Z sp)
    (b : Binds K fd ps []) : ClT P w K mg base k x i Z sp := ⟨f, fd, ps, F, D.mgf, D.fn.kp, b⟩
/-- THE RULE: such a def by its body, from the state at its entry -/
theorem fnT {P : Program} {w : World} {K : PySem.W.Frag} {mg : Str → Option Value} {base : Heap} {x qual : Str} {st : Stmt} {f : Addr} {fd : FuncData} {N ps : List Str} {k i : Nat} {Z : Value → Nat → Prop} {sp : Sp} (F : Fun K x qual st f fd) (S : FnScope N ps (defScope st)) (len : ∀ vs H Q E, sp vs H Q E → vs.length = ps.length)
    (hbody : ∀ (cdv : Value) (A : Around) (outer : List Env) (s : Shared) (H : Hp) (us : List Value) (vs : List V) (Q : VK) (E : XK) (s1 : Shared), Room k (A.deeper (envOfC qual (defScope st) s.heap.objs.size f cdv)) → sp vs H Q E → Vals vs us → TokAt i us s1.toks →
      Inv (cxOf CX0 P w K mg base N qual (defScope st) f cdv A outer s H E) [] (L2.start N vs) H s1 →
      InCallC s s.heap.objs.size (bindL (envOfC qual (defScope st) s.heap.objs.size f cdv).kindOf (ps.zip us) fun _ => none) (cellsFrom (s.heap.objs.size + 1) (defScope st).names []) (bindC (envOfC qual (defScope st) s.heap.objs.size f cdv).kindOf (ps.zip us) fun _ => none) s1 →
      wpAny (model P w) (A.deeper (envOfC qual (defScope st) s.heap.objs.size f cdv)) (execs (defBody st) (envOfC qual (defScope st) s.heap.objs.size f cdv))
        (fun fl s' => SP (cxOf CX0 P w K mg base N qual (defScope st) f cdv A outer s H E) [] { nx := fun _ H' => Q .non H', rt := Q } fl s' ∧ ∃ u, fl = .ret u ∧ Z u s'.toks) (cxOf CX0 P w K mg base N qual (defScope st) f cdv A outer s H E).xe s1) : FnT P w K mg base (k + 1) f fd ps i Z sp := by
  obtain ⟨oc, od, kV, doc, pm, an, cdv, ct, osl, rfl, lk, hcd⟩ := F.ex
  refine ⟨len, fun A outer s H args us vs Q E hr e0 hb r ht hsp => ?_⟩
  have hl := len _ _ _ _ hsp
  have KX : K.In s.heap := e0.mod.kin.keeps fun b o e => (e0.bs b o e).1
  have lim : s.heap.NoLimit := e0.mod.nolimit.keeps fun b o e => (e0.bs b o e).1
  have hkind : ∀ y ∈ ps.zip us, (defScope st).names.lookup y.1 = some .local ∨ ((defScope st).names.lookup y.1 = some .cell ∧ ((cellsFrom (s.heap.objs.size + 1) (defScope st).names []).lookup y.1).isSome = true) := fun ⟨n, v⟩ hy => by
    rcases S.par n (List.of_mem_zip hy).1 with q | q
    · exact .inl q
    · exact .inr ⟨q, PySem.W.cellsFrom_some _ _ _ (.inl q)⟩
  refine codeAny_call_function hr.depth (KX _ _ lk) rfl S.co S.gen rfl (PySem.W.codeRec_of KX hcd) (hb _ _ _ _ ?_)
  refine wpAny_with_toks (Nat.le_refl _) (wpAny_newFunctionEnv_cells S.kind hkind fun env he s1 xx => ?_)
  subst he
  intro hk
  refine ⟨lim.keeps xx.toInCall.keep, codeAny_func ?_⟩
  have I : Inv (cxOf CX0 P w K mg base N qual (defScope st) f cdv A outer s H E) [] (L2.start N vs) H s1 := inv_start S hr.hd e0 hl r xx
  refine wpAny_mono (hbody cdv A outer s H us vs Q E s1 (hr.deeper _) hsp r (ht.mono hk) I xx) (fun fl s' hs => ?_) fun e s' hs => wpAny_mono hs (fun _ _ z => ⟨z, fun u e => nomatch e⟩) fun _ _ z => ⟨z, fun u e => nomatch e⟩
  obtain ⟨hs, u, rfl, hz⟩ := hs
  obtain ⟨v, σ', H', J, rv, q⟩ := hs
  refine ⟨⟨v, H', J.os, J.bare, J.base, J.hok, rv, q⟩, fun u' e => ?_⟩
  cases e
  exact hz
/-- nothing more is told of what it gives -/
def anyZ : Value → Nat → Prop := fun _ _ => True
/-- a text that was made before -/
def tokZ : Value → Nat → Prop := fun u n => ∃ x t, u = .str x t ∧ t ≠ 0 ∧ t < n
end K72
namespace K72
open PySem PySem.Spec PyProof.Rows L2
/-- an expression, b held, so many tokens out -/
structure PEt (X : Cx) (b : Addr) (o : Obj) (n : Nat) (e : Expr) (t : TE) : Prop where
  run : ∀ (pins : List (Addr × Obj)) (s : Shared) (σ : L2.St) (H : Hp) (Q : VK), Inv X pins σ H s → Held b o s → n ≤ s.toks → t σ H Q →
    wpAny (model X.prog X.w) X.A (eval e X.env) (fun u s' => (Held b o s' ∧ n ≤ s'.toks) ∧ EP X pins σ Q u s') X.xe s
structure PSt (X : Cx) (b : Addr) (o : Obj) (n : Nat) (st : Stmt) (t : TS) : Prop where
  run : ∀ (pins : List (Addr × Obj)) (s : Shared) (σ : L2.St) (H : Hp) (D : Ends), Inv X pins σ H s → Held b o s → n ≤ s.toks → t D σ H →
    wpAny (model X.prog X.w) X.A (exec st X.env) (fun f s' => f = .next ∧ (Held b o s' ∧ n ≤ s'.toks) ∧ ∃ σ' H', Inv X pins σ' H' s' ∧ D.nx σ' H') X.xe s
structure PSst (X : Cx) (b : Addr) (o : Obj) (n : Nat) (st : List Stmt) (t : TS) : Prop where
  run : ∀ (pins : List (Addr × Obj)) (s : Shared) (σ : L2.St) (H : Hp) (D : Ends), Inv X pins σ H s → Held b o s → n ≤ s.toks → t D σ H →
    wpAny (model X.prog X.w) X.A (execs st X.env) (SP X pins D) X.xe s
/-- a name whose value is known to the token -/
structure HeldName (X : Cx) (b : Addr) (o : Obj) (i : Nat) (x : Str) (u : Value) : Prop where
  run : ∀ (pins : List (Addr × Obj)) (s : Shared) (σ : L2.St) (H : Hp) (v : V), Inv X pins σ H s → Held b o s → σ[i]? = some (some v) →
    RelV v u ∧ ∀ (Q E : Value → Shared → Prop) (pos : Pos), Q u s → wpAny (model X.prog X.w) X.A (eval (.Name x pos) X.env) Q E s
section
variable {X : Cx} {b : Addr} {o : Obj} {n : Nat}
theorem PEh.t {e : Expr} {t : TE} (h : PEh X b o e t) : PEt X b o n e t := ⟨fun pins s σ H Q I hh hn q =>
  wpAny_mono (PySem.wpAny_toks_of hn (h.run pins s σ H Q I hh q)) (fun _ _ z => ⟨⟨z.2.1, z.1⟩, z.2.2⟩) fun _ _ z => z.2⟩
theorem PSh.t {st : Stmt} {t : TS} (h : PSh X b o st t) : PSt X b o n st t := ⟨fun pins s σ H D I hh hn q =>
  wpAny_mono (PySem.wpAny_toks_of hn (h.run pins s σ H D I hh q)) (fun _ _ z => ⟨z.2.1, ⟨z.2.2.1, z.1⟩, z.2.2.2⟩) fun _ _ z => z.2⟩
theorem psst_of {st : List Stmt} {t : TS} (h : PSs X st t) : PSst X b o n st t := ⟨fun pins s σ H D I _ _ q => h.run pins s σ H D I q⟩
theorem psst_cons {st : Stmt} {rest : List Stmt} {t u : TS} (h1 : PSt X b o n st t) (h2 : PSst X b o n rest u) : PSst X b o n (st :: rest) (tSeq t u) := by
  refine ⟨fun pins s σ H D I hh hn h => ?_⟩
  refine wpAny_execs_cons (thn (h1.run pins s σ H { D with nx := u D } I hh hn h) fun f s1 q => ?_)
  obtain ⟨rfl, ⟨hh1, hn1⟩, σ1, H1, I1, q1⟩ := q
  exact h2.run pins s1 σ1 H1 D I1 hh1 hn1 q1
/-- name = e -/
theorem pst_setT {i : Nat} {x : Str} {e : Expr} {te : TE} {pos pos' : Pos} (hN : X.N.Nodup) (hi : X.N[i]? = some x) (hx : Loc X.env.scope x) (he : PEt X b o n e te) (hbL : b ≠ X.env.locals) (hbx : X.env.cells.lookup x ≠ some b)
    (hs : swapsWith e (some (.Name x pos')) pos.line X.env = pure false := by rfl) (hf : X.fn x = true ∨ X.env.scope.names.lookup x = some .local := by first | exact .inl rfl | exact .inr rfl | assumption) :
    PSt X b o n (.Assign [.Name x pos'] e pos) (tAsg te (gName i)) := by
  refine ⟨fun pins s σ H D I hh hn h => ?_⟩
  refine wpAny_Assign_Name (thn (he.run pins s σ H _ I hh hn h) fun v s1 ⟨⟨hh1, hn1⟩, y, H1, I1, r1, q1⟩ => ?_) hs
  refine wpAny_mono (PySem.wpAny_toks_of hn1 (store_ok2 I1 hN hi hx r1 (Q := fun _ s2 => Held b o s2 ∧ ∃ σ' H', Inv X pins σ' H' s2 ∧ D.nx σ' H') (fun s2 I2 ⟨a, sb, ha⟩ => ⟨hh1.but sb ?_, _, H1, I2, q1⟩) hf)) (fun _ s2 z => ⟨rfl, ⟨z.2.1, z.1⟩, z.2.2⟩) fun _ _ z => z.2
  rcases ha with rfl | ha
  · exact hbL
  · rintro rfl
    exact hbx ha
theorem heldCell {i : Nat} {x : Str} {u : Value} (hN : X.N[i]? = some x) (hk : X.env.kindOf x = some .cell) (hc : X.env.cells.lookup x = some b) (ho : o.data = .cell (some u)) (hd : (x == ("__debug__" : Str)) = false := by decide) : HeldName X b o i x u := by
  refine ⟨fun pins s σ H v I hh hσ => ?_⟩
  have hcell := hh.cell ho
  refine ⟨?_, fun Q E pos q => wpAny_Name (wpAny_loadName_cell I.ok.kind hk hc hcell q) hd⟩
  obtain ⟨m, hn, hl⟩ := I.loc
  obtain ⟨u', r, l⟩ := hl i x v hN hσ (.inr (.inl hk))
  rcases l with ⟨hk', _⟩ | ⟨_, c', hc', hcell'⟩
  · rw [hk] at hk'; cases hk'
  · rw [hc] at hc'
    cases hc'
    obtain ⟨o1, h1, h2⟩ := hcell
    obtain ⟨o2, h3, h4⟩ := hcell'
    rw [h1] at h3
    cases h3
    rw [h2] at h4
    cases h4
    exact r
theorem heldLocal {i : Nat} {x : Str} {u : Value} {es : Array DictEntry} {ep : Nat} (hN : X.N[i]? = some x) (hk : X.env.kindOf x = some .local) (hb : b = X.env.locals) (ho : o.data = .dict es ep) (hs : StrKeys es) (hu : nsFind es x = some u) (hd : (x == ("__debug__" : Str)) = false := by decide) : HeldName X b o i x u := by
  refine ⟨fun pins s σ H v I hh hσ => ?_⟩
  subst hb
  have hns : s.heap.Ns X.env.locals (nsFind es) := by
    obtain ⟨sl, e⟩ := hh
    exact ⟨_, es, ep, e, ho, hs, fun _ => rfl⟩
  refine ⟨?_, fun Q E pos q => wpAny_Name (wpAny_loadName_local I.ok.kind hk hns hu q) hd⟩
  obtain ⟨m, hn, hl⟩ := I.loc
  obtain ⟨u', r, l⟩ := hl i x v hN hσ (.inl hk)
  rcases l with ⟨_, hm⟩ | ⟨hk', _⟩
  · obtain ⟨o1, es1, ep1, h1, h2, _, h3⟩ := hn
    obtain ⟨sl, e⟩ := hh
    rw [e] at h1
    cases h1
    have h2' : o.data = .dict es1 ep1 := h2
    rw [ho] at h2'
    cases h2'
    rw [← h3 x, hu] at hm
    cases hm
    exact r
  · rcases hk' with hk' | hk' <;> (rw [hk] at hk'; cases hk')
/-- the call itself, of the values -/
theorem runT {pins : List (Addr × Obj)} {σ : L2.St} {H : Hp} {s : Shared} {k j i : Nat} {f : Addr} {fd : FuncData} {ps : List Str} {Z : Value → Nat → Prop} {sp : Sp} {us : List Value} {vs : List V} {Q : VK} (lb : Loose X b) (F : FnT X.prog X.w X.K X.mg X.base k f fd ps i Z sp) (bd : Binds X.K fd ps [])
    (hr : Room j X.A) (hk : k ≤ j) (I : Inv X pins σ H s) (hh : Held b o s) (hn : n ≤ s.toks) (r : Vals vs us) (ht : TokAt i us s.toks) (q : sp vs H Q E0) :
    wpAny (model X.prog X.w) X.A (call (.ref f) us) (fun u s' => (Held b o s' ∧ n ≤ s'.toks) ∧ Z u s'.toks ∧ EP X pins σ Q u s') X.xe s := by
  have hl : us.length = ps.length := by rw [← r.length]; exact F.len _ _ _ _ q
  have bb := bd s us I.kIn (by rw [List.append_nil]; exact hl)
  rw [List.append_nil] at bb
  refine wpAny_mono (PySem.wpAny_toks_of hn (wpAny_call (codeAny_mono (F.run X.A X.stack s H ⟨us, []⟩ us vs Q E0 (hr.mono hk) I.env0 bb r ht q) fun r' s' hq => ?_))) (fun u s' (z : n ≤ s'.toks ∧ (Held b o s' ∧ Z u s'.toks ∧ EP X pins σ Q u s')) => ⟨⟨z.2.1, z.1⟩, z.2.2⟩) fun _ _ z => z.2
  obtain ⟨hq, hZ⟩ := hq
  cases r' with
  | error e => exact False.elim hq
  | ok fl =>
    cases fl with
    | ret u =>
      have hq' : CE X.stack X.prog X.w H s Q u s' := hq
      obtain ⟨v, H', os, bare, un, hok, rr, qq⟩ := hq'
      exact ⟨hh.un un (lb pins σ H s I), hZ u rfl, I.after ⟨v, H', os, bare, un, hok, rr, qq⟩⟩
    | next => exact False.elim hq
    | brk => exact False.elim hq
    | cont => exact False.elim hq
/-- f(a, x), x known to the token -/
theorem pct2 {k j ia ix : Nat} {fx a x : Str} {Z : Value → Nat → Prop} {sp : Sp} {pf p1 p2 pos : Pos} {z : Str} {tk : Tok} (lb : Loose X b) (c : ClT X.prog X.w X.K X.mg X.base k fx 1 Z sp) (hr : Room j X.A) (hk : k ≤ j) (hN : X.N[ia]? = some a) (hv : Vis X.env.scope a)
    (hx : HeldName X b o ix x (.str z tk)) (h0 : tk ≠ 0) (hn : tk < n) (hg : Gl X fx := by rfl) (hdb : (fx == ("__debug__" : Str)) = false := by decide) (hda : (a == ("__debug__" : Str)) = false := by decide) (hca : (a == ("__classdict__" : Str)) = false := by decide)
    (he : starEach [.Name a p1, .Name x p2] X.env = (false, eval (.Name a p1) X.env) :: starEach [.Name x p2] X.env := by rfl) (he2 : starEach [.Name x p2] X.env = [(false, eval (.Name x p2) X.env)] := by rfl)
    (hpl : (backTo pos (starEach [.Name x p2] X.env)).any (·.1) = false := by rfl) :
    PEt X b o n (.Call (.Name fx pf) [.Name a p1, .Name x p2] [] pos) (tCall sp [] E0 (tCons (tVar ia) (tCons (tVar ix) tNil))) := by
  obtain ⟨f, fd, ps, F, hm, kp, bd⟩ := c.ex
  refine ⟨fun pins s σ H Q I hh hns h => ?_⟩
  obtain ⟨va, ha, vx, hvx, q⟩ := h
  obtain ⟨rx, rd⟩ := hx.run pins s σ H vx I hh hvx
  refine wpAny_Call_Name_kw (ld_glob I hg hm ?_ hdb)
  refine PySem.W.callWith_K (h₀ := X.base) I.ok.mod.kin kp ?_ he hpl
  rw [he, he2]
  show wpAny _ _ (spliced ((false, eval (.Name a p1) X.env) :: backTo pos [(false, eval (.Name x p2) X.env)])) _ _ s
  refine Calls.spliced_cons (raw_name hN hv I ha (fun ua ra => ?_) hda hca)
  show wpAny _ _ (spliced ((false, eval (.Name x p2) X.env) :: backTo pos [])) _ _ s
  refine Calls.spliced_cons (rd _ _ _ (Calls.spliced_nil ⟨I.kIn, ?_⟩))
  exact thn (runT lb F bd hr hk I hh hns (.cons ra (.cons rx .nil)) ⟨z, tk, rfl, h0, Nat.lt_of_lt_of_le hn hns⟩ q) fun _ _ z => ⟨z.1, z.2.2⟩
/-- f(a, c, x) -/
theorem pct3 {k j ia ic ix : Nat} {fx a c x : Str} {Z : Value → Nat → Prop} {sp : Sp} {pf p1 p2 p3 pos : Pos} {z : Str} {tk : Tok} (lb : Loose X b) (cl : ClT X.prog X.w X.K X.mg X.base k fx 2 Z sp) (hr : Room j X.A) (hk : k ≤ j) (hN : X.N[ia]? = some a) (hv : Vis X.env.scope a) (hN2 : X.N[ic]? = some c) (hv2 : Vis X.env.scope c)
    (hx : HeldName X b o ix x (.str z tk)) (h0 : tk ≠ 0) (hn : tk < n) (hg : Gl X fx := by rfl) (hdb : (fx == ("__debug__" : Str)) = false := by decide) (hda : (a == ("__debug__" : Str)) = false := by decide) (hca : (a == ("__classdict__" : Str)) = false := by decide)
    (hdc : (c == ("__debug__" : Str)) = false := by decide) (hcc : (c == ("__classdict__" : Str)) = false := by decide)
    (he : starEach [.Name a p1, .Name c p2, .Name x p3] X.env = (false, eval (.Name a p1) X.env) :: starEach [.Name c p2, .Name x p3] X.env := by rfl)
    (he2 : starEach [.Name c p2, .Name x p3] X.env = [(false, eval (.Name c p2) X.env), (false, eval (.Name x p3) X.env)] := by rfl)
    (hpl : (backTo pos (starEach [.Name c p2, .Name x p3] X.env)).any (·.1) = false := by rfl) :
    PEt X b o n (.Call (.Name fx pf) [.Name a p1, .Name c p2, .Name x p3] [] pos) (tCall sp [] E0 (tCons (tVar ia) (tCons (tVar ic) (tCons (tVar ix) tNil)))) := by
  obtain ⟨f, fd, ps, F, hm, kp, bd⟩ := cl.ex
  refine ⟨fun pins s σ H Q I hh hns h => ?_⟩
  obtain ⟨va, ha, vc, hc, vx, hvx, q⟩ := h
  obtain ⟨rx, rd⟩ := hx.run pins s σ H vx I hh hvx
  refine wpAny_Call_Name_kw (ld_glob I hg hm ?_ hdb)
  refine PySem.W.callWith_K (h₀ := X.base) I.ok.mod.kin kp ?_ he hpl
  rw [he, he2]
  show wpAny _ _ (spliced ((false, eval (.Name a p1) X.env) :: backTo pos [(false, eval (.Name c p2) X.env), (false, eval (.Name x p3) X.env)])) _ _ s
  refine Calls.spliced_cons (raw_name hN hv I ha (fun ua ra => ?_) hda hca)
  show wpAny _ _ (spliced ((false, eval (.Name c p2) X.env) :: backTo pos [(false, eval (.Name x p3) X.env)])) _ _ s
  refine Calls.spliced_cons (raw_name hN2 hv2 I hc (fun uc rc => ?_) hdc hcc)
  show wpAny _ _ (spliced ((false, eval (.Name x p3) X.env) :: backTo pos [])) _ _ s
  refine Calls.spliced_cons (rd _ _ _ (Calls.spliced_nil ⟨I.kIn, ?_⟩))
  exact thn (runT lb F bd hr hk I hh hns (.cons ra (.cons rc (.cons rx .nil))) ⟨z, tk, rfl, h0, Nat.lt_of_lt_of_le hn hns⟩ q) fun _ _ z => ⟨z.1, z.2.2⟩
end
end K72
namespace K72
open PySem PySem.Spec PyProof.Rows L2
theorem strike_S (l : List Nat) (c : Nat) : Txt.replace (S l) (S [c]) (("" : String) : Str) = S (l.filter fun x => x != c) := by
  rw [lit_nil]
  exact TL.ext_tl (replace_strikes (S l) c)
theorem strike2 (l : List Nat) (a : Nat) : (l.filter fun x => x != a).filter (fun x => x != bk a) = without bk l a := by
  unfold without
  rw [List.filter_filter]
  congr 1
  funext x
  by_cases h1 : x = a <;> by_cases h2 : x = bk a <;> simp [h1, h2]
theorem ne_nil1 (a : Nat) : ((S [a]) == (("" : String) : Str)) = false := by
  rw [lit_nil]
  refine beq_eq_false_iff_ne.mpr fun e => ?_
  have := S_inj e
  simp at this
theorem found_S (l : List Nat) (c : Nat) : (!(Builtin.Str.occurrences (S l) (S [c]) 0 (S l).length 1).isEmpty) = decide (c ∈ l) := PySem.StrLaws.found_one (S l) c
/-- statements that end in a value -/
theorem ends_ret {X : Cx} {st : List Stmt} {t : TS} {pins : List (Addr × Obj)} {s : Shared} {σ : L2.St} {H : Hp} {D : Ends} (h : PSs X st t) (I : L2.Inv X pins σ H s) (q : t { nx := fun _ _ => False, rt := D.rt } σ H) :
    wpAny (model X.prog X.w) X.A (execs st X.env) (fun fl s' => SP X pins D fl s' ∧ ∃ u, fl = .ret u ∧ anyZ u s'.toks) X.xe s := by
  refine thn (h.run pins s σ H _ I q) fun fl s' z => ?_
  cases fl with
  | ret u => exact ⟨z, u, rfl, trivial⟩
  | next => obtain ⟨_, _, _, z⟩ := z; exact z.elim
  | brk => obtain ⟨_, _, _, z⟩ := z; exact z.elim
  | cont => obtain ⟨_, _, _, z⟩ := z; exact z.elim
section
variable {P : Program} {w : World} {K : PySem.W.Frag} {mg : Str → Option Value} {base : Heap} {f : Addr} {fd : FuncData} {k : Nat}
/-- the parameters' values at the entry, where they are locals -/
theorem start_locals {N ps : List Str} {qual : Str} {scope : Scope} {cd : Value} {s s1 : Shared} {us : List Value} (S : FnScope N ps scope)
    (x : InCallC s s.heap.objs.size (bindL (envOfC qual scope s.heap.objs.size f cd).kindOf (ps.zip us) fun _ => none) (cellsFrom (s.heap.objs.size + 1) scope.names []) (bindC (envOfC qual scope s.heap.objs.size f cd).kindOf (ps.zip us) fun _ => none) s1) :
    ∃ o es ep, Held (envOfC qual scope s.heap.objs.size f cd).locals o s1 ∧ o.data = .dict es ep ∧ StrKeys es ∧ ∀ (i : Nat) (y : Str) (u : Value), ps[i]? = some y → us[i]? = some u → (envOfC qual scope s.heap.objs.size f cd).kindOf y = some .local → nsFind es y = some u := by
  obtain ⟨o, es, ep, h1, h2, h3, h4⟩ := x.toInCall.ns
  refine ⟨o, es, ep, held_of h1, h2, h3, fun i y u e1 e2 hk => ?_⟩
  rw [h4]
  exact bindL_get (by rw [← S.pre]; exact S.nd.sublist (List.take_sublist _ _)) e1 e2 hk
/-- .. where one is a cell -/
theorem start_cell {N ps : List Str} {qual : Str} {scope : Scope} {cd : Value} {s s1 : Shared} {us : List Value} (S : FnScope N ps scope)
    (x : InCallC s s.heap.objs.size (bindL (envOfC qual scope s.heap.objs.size f cd).kindOf (ps.zip us) fun _ => none) (cellsFrom (s.heap.objs.size + 1) scope.names []) (bindC (envOfC qual scope s.heap.objs.size f cd).kindOf (ps.zip us) fun _ => none) s1)
    {i : Nat} {y : Str} {u : Value} (e1 : ps[i]? = some y) (e2 : us[i]? = some u) (hk : scope.names.lookup y = some .cell) :
    ∃ c o, (envOfC qual scope s.heap.objs.size f cd).cells.lookup y = some c ∧ Held c o s1 ∧ o.data = .cell (some u) ∧ c ≠ (envOfC qual scope s.heap.objs.size f cd).locals := by
  obtain ⟨c, hc⟩ := cell_has (n := s.heap.objs.size + 1) hk
  have q := x.cell y c hc
  rw [bindC_get (by rw [← S.pre]; exact S.nd.sublist (List.take_sublist _ _)) e1 e2 (by show scope.names.lookup y ≠ _; rw [hk]; decide)] at q
  obtain ⟨o, h1, h2⟩ := q
  exact ⟨c, o, hc, held_of h1, h2, Nat.ne_of_gt (x.above y c (PySem.mem_of_lookup hc))⟩
/-! ### back_of, of a small letter: what it gives is new -/
def spBackT : Sp := fun vs H Q _ => ∃ c, Lt 6 c ∧ 97 ≤ c ∧ vs = [.str (S [c])] ∧ Q (.str (S [bk c])) H
theorem c_backT (F : Df K mg "back_of" 8 f fd) (T : Tx mg) : ClT P w K mg base (k + 1) "back_of" 0 tokZ spBackT := by
  refine F.clT (ps := ["letter"]) (fnT F.fn sc8 (fun vs H Q E h => ?_) (fun cdv A outer s H us vs Q E s1 hr h r ht I xx => ?_)) (F.fn.binds fun _ _ _ _ _ _ us hl => match us, hl with | [_], _ => rfl)
  · obtain ⟨c, _, _, rfl, _⟩ := h
    rfl
  · obtain ⟨c, hc, hs, rfl, q⟩ := h
    obtain ⟨tk, hsm⟩ := T.small
    obtain ⟨u0, rfl, t0, rfl⟩ := vals1 r
    obtain ⟨x, t, e, h0, hn⟩ := ht
    obtain ⟨o, es, ep, hh, hd, hks, hget⟩ := start_locals sc8 xx
    have hx : HeldName (cxOf CX0 P w K mg base ["letter"] "back_of" (defScope (topS 8)) f cdv A outer s H E) _ o 0 "letter" (.str (S [c]) t0) := heldLocal rfl rfl rfl hd hks (hget 0 "letter" _ rfl rfl rfl)
    refine wpAny_execs_cons (wpAny_Return_some (wpAny_IfExp (wpAny_isTrue_Compare1 ((hx.run _ _ _ _ _ I hh rfl).2 _ _ _ (ld_glob I rfl hsm ?_)))))
    refine PyProof.Rows.in_str ?_
    rw [found_S, in_small hc, decide_eq_true hs]
    refine wpAny_truthy_bool ?_
    show wpAny _ _ (eval _ _) _ _ _
    refine PySem.Call_method0 rfl rfl ((hx.run _ _ _ _ _ I hh rfl).2 _ _ _ ?_)
    refine ⟨"str", _, PySem.F.plainAttrs_str, PySem.F.slot_str_upper, PySem.F.type_str_upper, typeIs_str _ _ _, (fun _ e => nomatch e), Calls.callWith_builtin rfl (PySem.evalArgs_none (PySem.SC.upper (PyProof.Rows.short24 ?_) ?_))⟩
    · rw [up_of hc, S_len]; simp
    · rw [up_of hc, bk_small hc hs]
      exact ⟨⟨.str (S [bk c]), _, H, I.tok _, ⟨_, rfl⟩, q⟩, _, rfl, S [bk c], s1.toks, rfl, Nat.ne_of_gt (Nat.lt_of_le_of_lt (Nat.zero_le t) hn), Nat.lt_succ_self _⟩
/-! ### cut -/
theorem sc14 : FnScope ["surface", "letter", "left"] ["surface", "letter"] (defScope (topS 14)) := ⟨rfl, rfl, rfl, by decide +kernel, rfl, by decide +kernel, by decide +kernel⟩
def spCut : Sp := fun vs H Q _ => ∃ (n : Nat) (l : List Nat) (a : Nat), Surf n l ∧ 2 ≤ n ∧ a ∈ l ∧ 97 ≤ a ∧ vs = [.str (S l), .str (S [a])] ∧ ∀ H', Same H H' → Q (.str (S (cutRow l a))) H'
theorem c_cut (F : Df K mg "cut" 14 f fd) (T : Tx mg) (C1 : ClT P w K mg base k "back_of" 0 tokZ spBackT) (C2 : Cl P w K mg base k "number_of" spNum) (C3 : Cl P w K mg base k "lowered" spLow) : ClT P w K mg base (k + 1) "cut" 1 anyZ spCut := by
  refine F.clT (ps := ["surface", "letter"]) (fnT F.fn sc14 (fun vs H Q E h => ?_) (fun cdv A outer s H us vs Q E s1 hr h r ht I xx => ?_)) (F.fn.binds fun _ _ _ _ _ _ us hl => match us, hl with | [_, _], _ => rfl)
  · obtain ⟨n, l, a, _, _, _, _, rfl, _⟩ := h
    rfl
  · obtain ⟨n, l, a, U, h2, ha, has, rfl, q⟩ := h
    have hL := U.lt ha
    have hlen := U.len12
    obtain ⟨tks, hsm⟩ := T.small
    obtain ⟨u0, us', rfl, r0, r'⟩ : ∃ u0 us', us = u0 :: us' ∧ RelV (.str (S l)) u0 ∧ Vals [.str (S [a])] us' := by
      cases r with
      | cons p q => exact ⟨_, _, rfl, p, q⟩
    obtain ⟨u1, rfl, t1, rfl⟩ := vals1 r'
    obtain ⟨t0, rfl⟩ := r0
    obtain ⟨x, t, e, h0, hn⟩ := ht
    have e' : Value.str (S [a]) t1 = Value.str x t := Option.some.inj e
    injection e' with e1 e2
    subst e2
    obtain ⟨o, es, ep, hh, hd, hks, hget⟩ := start_locals sc14 xx
    have hS : HeldName (cxOf CX0 P w K mg base ["surface", "letter", "left"] "cut" (defScope (topS 14)) f cdv A outer s H E) _ o 0 "surface" (.str (S l) t0) := heldLocal rfl rfl rfl hd hks (hget 0 "surface" _ rfl rfl rfl)
    have hX : HeldName (cxOf CX0 P w K mg base ["surface", "letter", "left"] "cut" (defScope (topS 14)) f cdv A outer s H E) _ o 1 "letter" (.str (S [a]) t1) := heldLocal rfl rfl rfl hd hks (hget 1 "letter" _ rfl rfl rfl)
    have okl : ¬ ((S l).length : Int) ≥ 2 ^ 63 := by rw [S_len]; omega
    have ok1 : ¬ ((S [a]).length : Int) ≥ 2 ^ 63 := by rw [S_len]; simp
    have rdX : ∀ (j : Nat) (Q' E' : Value → Shared → Prop) (pos : Pos), Q' (.str (S [a]) t1) { s1 with toks := j } → wpAny (model P w) (A.deeper (envOfC "cut" (defScope (topS 14)) s.heap.objs.size f cdv)) (eval (.Name "letter" pos) (envOfC "cut" (defScope (topS 14)) s.heap.objs.size f cdv)) Q' E' { s1 with toks := j } :=
      fun j Q' E' pos q' => (hX.run [] { s1 with toks := j } _ H _ (I.tok j) hh rfl).2 Q' E' pos q'
    have rdS : ∀ (j : Nat) (Q' E' : Value → Shared → Prop) (pos : Pos), Q' (.str (S l) t0) { s1 with toks := j } → wpAny (model P w) (A.deeper (envOfC "cut" (defScope (topS 14)) s.heap.objs.size f cdv)) (eval (.Name "surface" pos) (envOfC "cut" (defScope (topS 14)) s.heap.objs.size f cdv)) Q' E' { s1 with toks := j } :=
      fun j Q' E' pos q' => (hS.run [] { s1 with toks := j } _ H _ (I.tok j) hh rfl).2 Q' E' pos q'
    have rdM : ∀ (j : Nat) (Q' E' : Value → Shared → Prop) (pos : Pos), Q' (.str (S smallS) tks) { s1 with toks := j } → wpAny (model P w) (A.deeper (envOfC "cut" (defScope (topS 14)) s.heap.objs.size f cdv)) (eval (.Name "SMALL" pos) (envOfC "cut" (defScope (topS 14)) s.heap.objs.size f cdv)) Q' E' { s1 with toks := j } :=
      fun j Q' E' pos q' => ld_glob (I.tok j) rfl hsm q'
    have rdL : ∀ (j : Nat) (Q' E' : Value → Shared → Prop) (pos : Pos), Q' (.builtin "len") { s1 with toks := j } → wpAny (model P w) (A.deeper (envOfC "cut" (defScope (topS 14)) s.heap.objs.size f cdv)) (eval (.Name "len" pos) (envOfC "cut" (defScope (topS 14)) s.heap.objs.size f cdv)) Q' E' { s1 with toks := j } :=
      fun j Q' E' pos q' => ld_blt (I.tok j) rfl T.len PySem.boot_len q'
    refine wpAny_execs_cons (wpAny_mono (PySem.wpAny_toks (wpAny_If (Q := fun fl s' => fl = .next ∧ ∃ j, s' = { s1 with toks := j }) ?_)) (fun fl s2 hq => ?_) fun _ _ z => z.2)
    · -- the test
      refine isTrue_or (wpAny_isTrue_Compare1 (Call_ (rdL _ _ _ _ (callWith_builtin1 (args_cons (rdX _ _ _ _ (args_nil (len_str ok1 ?_))))))))
      refine wpAny_Constant_int (PySem.P.ne_int ?_)
      have c1 : (((S [a]).length : Int) != 1) = false := by rw [S_len]; rfl
      rw [c1]
      refine wpAny_truthy_bool ?_
      refine isTrue_or (wpAny_isTrue_Compare1 (rdX _ _ _ _ (rdM _ _ _ _ (PyProof.Rows.notIn_str ?_))))
      rw [found_S, in_small hL, decide_eq_true has]
      refine wpAny_truthy_bool ?_
      refine isTrue_or (wpAny_isTrue_Compare1 (rdX _ _ _ _ (rdS _ _ _ _ (PyProof.Rows.notIn_str ?_))))
      rw [found_S, decide_eq_true ha]
      refine wpAny_truthy_bool ?_
      refine isTrue_or (wpAny_isTrue_Compare1 (Call_ (rdL _ _ _ _ (callWith_builtin1 (args_cons (rdS _ _ _ _ (args_nil (len_str okl ?_))))))))
      refine wpAny_Constant_int (PySem.P.eq_int ?_)
      have c2 : (((S l).length : Int) == 2) = false := by
        have := U.len
        rw [S_len]
        refine beq_eq_false_iff_ne.mpr ?_
        omega
      rw [c2]
      refine wpAny_truthy_bool ?_
      refine isTrue_or_nil ?_
      exact wpAny_execs_nil ⟨rfl, _, rfl⟩
    obtain ⟨hk, rfl, j, rfl⟩ := hq
    have hn2 : t1 < j := Nat.lt_of_lt_of_le hn hk
    have hb1 : (S l).length + ((S l).length + 1) * ((("" : String) : Str)).length ≤ 16777216 := by
      rw [lit_nil, S_len, S_len]
      show _ + _ * 0 ≤ _
      omega
    refine wpAny_execs_cons (wpAny_Assign_Name (PySem.Call_method2 rfl rfl rfl (PySem.Call_method2 rfl rfl rfl (rdS _ _ _ _ ?_))))
    refine ⟨"str", _, PySem.F.plainAttrs_str, PySem.F.slot_str_replace, PySem.F.type_str_replace, typeIs_str _ _ _, (fun _ e => nomatch e), Calls.callWith_builtin rfl (Calls.evalArgs_plain (Calls.spliced_cons (rdX _ _ _ _ (Calls.spliced_cons (Calls.Constant_str (Calls.spliced_nil ?_))))))⟩
    have j0 : (j : Tok) ≠ 0 := Nat.ne_of_gt (Nat.lt_of_le_of_lt (Nat.zero_le t1) hn2)
    refine PySem.wpAny_with_toks (n := j + 1) (Nat.le_refl _) (PySem.SC.replace h0 j0 (Nat.ne_of_lt hn2) (ne_nil1 a) hb1 fun t' k2 (hk2 : j + 1 ≤ k2) => ?_)
    rw [strike_S]
    refine ⟨"str", _, PySem.F.plainAttrs_str, PySem.F.slot_str_replace, PySem.F.type_str_replace, typeIs_str _ _ _, (fun _ e => nomatch e), Calls.callWith_builtin rfl (Calls.evalArgs_plain (Calls.spliced_cons ?_))⟩
    obtain ⟨fb, fdb, psb, Fb, hmb, kpb, bdb⟩ := C1.ex
    have hn3 : t1 < k2 := Nat.lt_of_lt_of_le hn2 (Nat.le_of_succ_le hk2)
    refine wpAny_Call_Name_kw (ld_glob (I.tok k2) rfl hmb ?_)
    refine PySem.W.callWith_K (h₀ := base) (I.tok k2).ok.mod.kin kpb (Calls.spliced_cons (rdX _ _ _ _ (Calls.spliced_nil ⟨(I.tok k2).kIn, ?_⟩))) rfl rfl
    refine thn (runT (X := cxOf CX0 P w K mg base ["surface", "letter", "left"] "cut" (defScope (topS 14)) f cdv A outer s H E) (b := (envOfC "cut" (defScope (topS 14)) s.heap.objs.size f cdv).locals) (o := o) (n := 0) (Q := fun v H' => v = .str (S [bk a]) ∧ H' = H) loose_loc Fb bdb hr (Nat.le_refl _) (I.tok k2) hh (Nat.zero_le _) (vs := [.str (S [a])]) (.cons ⟨t1, rfl⟩ .nil) ⟨_, t1, rfl, h0, hn3⟩ ⟨a, hL, has, rfl, rfl, rfl⟩) fun u s2 z => ?_
    obtain ⟨_, ⟨x2, t2, rfl, h02, hn4⟩, v, H', I2, r2, rfl, rfl⟩ := z
    obtain ⟨t2', e2⟩ := r2
    injection e2 with e2 e3
    subst e2
    refine Calls.spliced_cons (Calls.Constant_str (Calls.spliced_nil ?_))
    have j2 : (s2.toks : Tok) ≠ 0 := Nat.ne_of_gt (Nat.lt_of_le_of_lt (Nat.zero_le t2) hn4)
    have hb2 : (S (l.filter fun x => x != a)).length + ((S (l.filter fun x => x != a)).length + 1) * ((("" : String) : Str)).length ≤ 16777216 := by
      have := List.length_filter_le (fun x => x != a) l
      rw [lit_nil, S_len, S_len]
      show _ + _ * 0 ≤ _
      omega
    refine PySem.SC.replace h02 j2 (Nat.ne_of_lt hn4) (ne_nil1 (bk a)) hb2 fun t3 k3 => ?_
    rw [strike_S, strike2]
    refine store_ok (v := V.str (S (without bk l a))) (I2.tok k3) sc14.nd (i := 2) rfl (.inl rfl) ⟨t3, rfl⟩ (fun s3 I3 => ?_) (.inl rfl)
    refine ends_ret (pss_one (ps_ret (pc C3 hr (Nat.le_refl _) (pa_cons (pc C2 hr (Nat.le_refl _) (pa_cons (pv 1) pa_nil)) (pa_cons (pv 2) pa_nil))))) I3 ?_
    have hwl : (without bk l a).length ≤ l.length := List.length_filter_le _ _
    refine ⟨_, rfl, a, hL, rfl, _, rfl, num a, without bk l a, num_lt (Nat.le_refl _) hL, fun c hc => U.lt (mem_without.mp hc).1, by omega, rfl, ?_⟩
    exact q H' (Same.refl H')
end
end K72
namespace K72
open PySem PySem.Spec PyProof.Rows L2
def rInS : R2 := fun x y H Q => ∃ (c : Nat) (z : Str), x = .str ⟨#[c]⟩ ∧ y = .str z ∧ Q (.bl (decide (c ∈ z.cps.toList))) H
def rUp : V → List V → Hp → VK → Prop := fun x xs H Q => ∃ a : Str, x = .str a ∧ xs = [] ∧ a.length ≤ 5592405 ∧ Q (.str (Txt.upper a)) H
theorem find_S {l : List Nat} {c : Nat} (h : c ∈ l) : Txt.find (S l) (S [c]) = (l.idxOf c : Nat) := by
  obtain ⟨rest, e⟩ := occ_idx h
  unfold Txt.find
  rw [e]
theorem eqv_one (i j : Int) : PyData.eqv (.list ([i].map PyData.int)) (.list ([j].map PyData.int)) = (i == j) := by
  simp [PyData.eqv, PyData.eqvAll]
def intsN (ks : List Nat) : List V := (ks.map fun k => ((k : Nat) : Int)).map V.int
theorem intsN_snoc (ks : List Nat) (k : Nat) : intsN (ks ++ [k]) = intsN ks ++ [V.int (k : Nat)] := by
  unfold intsN
  rw [List.map_append, List.map_append]
  rfl
theorem intsN_len (ks : List Nat) : (intsN ks).length = ks.length := by
  unfold intsN
  rw [List.length_map, List.length_map]
theorem places_le (C : List (List Nat)) (x n : Nat) : (places C x n).length ≤ n := by
  unfold places
  refine Nat.le_trans (List.length_filter_le _ _) ?_
  rw [List.length_range]
  exact Nat.le_refl _
theorem words_len (C : List (List Nat)) : (words C).length = C.length := by
  unfold words
  rw [List.length_map]
theorem words_at {C : List (List Nat)} {i : Nat} (h : i < C.length) : atI (words C) (i : Int) = some (.str (S (C.getD i []))) := by
  refine atI_nat ?_
  unfold words
  rw [List.getElem?_map, List.getD_eq_getElem?_getD, List.getElem?_eq_getElem h]
  rfl
section
variable {P : Program} {w : World} {K : PySem.W.Frag} {mg : Str → Option Value} {base : Heap} {f : Addr} {fd : FuncData} {k : Nat}
/-! ### _law_holes_right -/
abbrev N46 : List Str := ["_law_row", "_law_letter", "_law_before", "_law_after", "_law_place", "_law_other", "_law_due", "_law_ends", "_law_first", "_law_k"]
theorem sc46 : FnScope N46 ["_law_row", "_law_letter"] (defScope (topS 46)) := ⟨rfl, rfl, rfl, by decide +kernel, rfl, by decide +kernel, by decide +kernel⟩
def spHR : Sp := fun vs H Q _ => ∃ (n : Nat) (l : List Nat) (a : Nat), Surf n l ∧ 2 ≤ n ∧ a ∈ l ∧ 97 ≤ a ∧ vs = [.str (S l), .str (S [a])] ∧ ∀ H', Same H H' → Q (.bl true) H'
theorem c_hr (F : Df K mg "_law_holes_right" 46 f fd) (T : Tx mg) (C1 : ClT P w K mg base k "cut" 1 anyZ spCut) (C2 : Cl P w K mg base k "holes" spHoles) (C3 : Cl P w K mg base k "handles" spHandles) (C4 : Cl P w K mg base k "glued" spGlued) : ClT P w K mg base (k + 1) "_law_holes_right" 1 anyZ spHR := by
  refine F.clT (ps := ["_law_row", "_law_letter"]) (fnT F.fn sc46 (fun vs H Q E h => ?_) (fun cdv A outer s H us vs Q E s1 hr h r ht I xx => ?_)) (F.fn.binds fun _ _ _ _ _ _ us hl => match us, hl with | [_, _], _ => rfl)
  · obtain ⟨n, l, a, _, _, _, _, rfl, _⟩ := h
    rfl
  · obtain ⟨n, l, a, U, h2, ha, has, rfl, q⟩ := h
    obtain ⟨u0, us', rfl, r0, r'⟩ : ∃ u0 us', us = u0 :: us' ∧ RelV (.str (S l)) u0 ∧ Vals [.str (S [a])] us' := by
      cases r with
      | cons p q => exact ⟨_, _, rfl, p, q⟩
    obtain ⟨u1, rfl, t1, rfl⟩ := vals1 r'
    obtain ⟨x, t, e, h0, hn⟩ := ht
    have e' : Value.str (S [a]) t1 = Value.str x t := Option.some.inj e
    injection e' with e1 e2
    subst e2
    obtain ⟨c, o, hc, hh, hd, hcl⟩ := start_cell sc46 xx (i := 1) (y := "_law_letter") (u := .str (S [a]) t1) rfl rfl rfl
    have hX : HeldName (cxOf CX0 P w K mg base N46 "_law_holes_right" (defScope (topS 46)) f cdv A outer s H E) c o 1 "_law_letter" (.str (S [a]) t1) := heldCell rfl rfl hc hd
    have hbef : (cxOf CX0 P w K mg base N46 "_law_holes_right" (defScope (topS 46)) f cdv A outer s H E).env.cells.lookup (("_law_before" : String) : Str) ≠ some c := fun e => by
      have := I.ok.inj "_law_before" "_law_letter" c e hc
      exact absurd this (by decide +kernel)
    have haft : (cxOf CX0 P w K mg base N46 "_law_holes_right" (defScope (topS 46)) f cdv A outer s H E).env.cells.lookup (("_law_after" : String) : Str) ≠ some c := fun e => by
      have := I.ok.inj "_law_after" "_law_letter" c e hc
      exact absurd this (by decide +kernel)
    have body : ∃ t, PSst (cxOf CX0 P w K mg base N46 "_law_holes_right" (defScope (topS 46)) f cdv A outer s H E) c o (t1 + 1) (defBody (topS 46)) t ∧ t { nx := fun _ _ => False, rt := Q } (L2.start N46 [.str (S l), .str (S [a])]) H := by
      refine ⟨_, psst_cons (psh_set (i := 2) sc46.nd rfl (.inr rfl) (pch (loose_cell hc) C2 hr (Nat.le_refl _) (pah_cons (peh_name (i := 0) rfl (.inl rfl)) pah_nil)) hcl hbef).t
        (psst_cons (pst_setT (i := 3) sc46.nd rfl (.inl rfl) (pct2 (ia := 0) (ix := 1) (loose_cell hc) C1 hr (Nat.le_refl _) rfl (.inl rfl) hX h0 (Nat.lt_succ_self _)) hcl haft)
        (psst_of (PSs.nox (pss_cons (ps_setLc (i := 4) (own := [("_law_k", 9)]) (g := gName 9) (tt := tTest (tOp rInS (tVar 1) (tOp (rIxL K) (tVar 2) (tVar 9)))) rfl sc46.nd rfl rfl (sw_true rfl rfl rfl (by decide +kernel)) (pi_range1 rfl T.range (pa_cons (pe_callB call_len_seq (by rfl) T.len PySem.boot_len (pa_cons (pv 2) pa_nil)) pa_nil)) (blkOk_by (own := [("_law_k", 9)]) (N := N46) (sc := defScope (topS 46)) (by decide +kernel))
            (fun _ _ _ _ _ => pg_name (i := 9) sc46.nd rfl (Or.inl rfl)) (fun _ _ _ _ _ => pts_one (pt_cmpR op_in_sign (pv 1) (pe_ix ix_list (pv 2) (pv 9) (fun _ _ => rfl)) (by rfl))) (fun _ _ _ _ _ => pv 9))
          (pss_cons (ps_setLc (i := 5) (own := [("_law_k", 9)]) (g := gName 9) (tt := tTest (tOp rInS (tM0 rUp (tVar 1)) (tOp (rIxL K) (tVar 2) (tVar 9)))) rfl sc46.nd rfl rfl (sw_true rfl rfl rfl (by decide +kernel)) (pi_range1 rfl T.range (pa_cons (pe_callB call_len_seq (by rfl) T.len PySem.boot_len (pa_cons (pv 2) pa_nil)) pa_nil)) (blkOk_by (own := [("_law_k", 9)]) (N := N46) (sc := defScope (topS 46)) (by decide +kernel))
            (fun _ _ _ _ _ => pg_name (i := 9) sc46.nd rfl (Or.inl rfl)) (fun _ _ _ _ _ => pts_one (pt_cmpR op_in_sign (pe_upper (pv 1)) (pe_ix ix_list (pv 2) (pv 9) (fun _ _ => rfl)) (by rfl))) (fun _ _ _ _ _ => pv 9))
          (pss_cons (ps_if (PW.pt (pw_or (pt_cmpR op_ne (pe_callB call_len_seq (by rfl) T.len PySem.boot_len (pa_cons (pv 4) pa_nil)) pe_int (nomark _)) (pw_or1 (pt_cmpR op_ne (pe_callB call_len_seq (by rfl) T.len PySem.boot_len (pa_cons (pv 5) pa_nil)) pe_int (nomark _))))) (pss_one (ps_ret pe_bl)) pss_nil)
          (pss_cons (ps_set (i := 6) sc46.nd rfl (.inl rfl) (pe_op op_add (pe_callB call_len_seq (by rfl) T.len PySem.boot_len (pa_cons (pv 2) pa_nil)) (pe_ix ix_list (pe_lst (pa_cons (pe_un un_neg pe_int) (pa_cons pe_int pa_nil))) (pe_callTy call_int1 (by rfl) T.int (by decide +kernel) (pa_cons (pe_cmpR (op_eqD hr.units) (pv 4) (pv 5) (nomark _)) pa_nil)) (fun _ _ => rfl))))
          (pss_cons (ps_if (PW.pt (pw_or (pt_cmpR op_ne (pe_callB call_len_seq (by rfl) T.len PySem.boot_len (pa_cons (pc C2 hr (Nat.le_refl _) (pa_cons (pv 3) pa_nil)) pa_nil)) (pv 6) (nomark _))
              (pw_or1 (pt_cmpR op_ne (pe_op op_mul pe_int (pc C3 hr (Nat.le_refl _) (pa_cons (pv 3) pa_nil))) (pe_op op_sub (pe_op op_add (pe_op op_fdiv (pe_callB call_len_str (by rfl) T.len PySem.boot_len (pa_cons (pv 3) pa_nil)) pe_int) pe_int) (pv 6)) (nomark _))))) (pss_one (ps_ret pe_bl)) pss_nil)
          (pss_cons (ps_set (i := 7) sc46.nd rfl (.inl rfl) (pe_lst (pa_cons (pe_bm PySem.F.plainAttrs_str PySem.F.slot_str_find PySem.F.type_str_find mt_find (pv 0) (pa_cons (pv 1) pa_nil)) (pa_cons (pe_bm PySem.F.plainAttrs_str PySem.F.slot_str_find PySem.F.type_str_find mt_find (pv 0) (pa_cons (pe_upper (pv 1)) pa_nil)) pa_nil))))
          (pss_cons (ps_set (i := 8) sc46.nd rfl (.inl rfl) (pe_op op_sub (pe_ix ix_list (pv 7) pe_int (fun _ _ => rfl)) (pe_callTy call_int1 (by rfl) T.int (by decide +kernel) (pa_cons (pe_cmpR op_lt (pe_ix ix_list (pv 7) pe_int (fun _ _ => rfl)) (pe_ix ix_list (pv 7) pe_int (fun _ _ => rfl)) (nomark _)) pa_nil))))
          (pss_one (ps_ret (pe_cmpR op_eq (pe_callB call_len_seq (by rfl) T.len PySem.boot_len (pa_cons (pc C2 hr (Nat.le_refl _) (pa_cons (pc C4 hr (Nat.le_refl _) (pa_cons (pv 3) (pa_cons (pv 8) (pa_cons (pe_ix ix_list (pv 7) pe_int (fun _ _ => rfl)) pa_nil)))) pa_nil)) pa_nil)) (pe_callB call_len_seq (by rfl) T.len PySem.boot_len (pa_cons (pv 2) pa_nil)) (nomark _)))))))))))))), ?_⟩
      refine ⟨_, rfl, n, l, U, rfl, fun C p H1 k1 np hp d hC12 hw => ?_⟩
      refine ⟨_, rfl, _, rfl, n, l, a, U, h2, ha, has, rfl, fun H2 k2 => ?_⟩
      have hp2 := k2 _ _ hp
      have hL := U.lt ha
      have hb := U.bk ha
      obtain ⟨i, j, pi, pj, hlaw⟩ := holes_law U h2 ha d
      -- place
      refine ⟨_, rfl, p, words C, rfl, .inl (.inl (.inl hp2)), _, rfl, by rw [words_len]; omega, by rw [words_len]; omega, fun D nD => ?_⟩
      rw [Int.toNat_natCast, words_len]
      refine lc_range (lo := 0) (n := C.length) (fun m H' => Same H2 H' ∧ H' D = some (.lst (intsN (places C a m)))) ⟨(Same.refl H2).put nD, upd_same⟩ (fun m H' hm pv => ?_) fun H3 pv => ?_
      · obtain ⟨sm, hD⟩ := pv
        rw [Int.zero_add]
        refine ⟨rfl, _, rfl, _, rfl, _, rfl, p, _, _, _, rfl, rfl, .inl (.inl (sm _ _ hp2)), words_at hm, a, S (C.getD m []), rfl, rfl, _, rfl, ?_⟩
        rw [tl_S]
        have hle := places_le C a m
        refine ite2 (fun hin => ?_) (fun hin => ?_)
        · have e := places_succ C a m
          rw [if_pos (of_decide_eq_true hin)] at e
          refine ⟨_, rfl, _, hD, by rw [intsN_len, sizeLine_eq]; omega, sm.put nD, ?_⟩
          rw [upd_same, e, intsN_snoc]
        · have e := places_succ C a m
          rw [if_neg fun z => hin (decide_eq_true z)] at e
          rw [e]
          exact ⟨sm, hD⟩
      obtain ⟨k3, hD⟩ := pv
      have hp3 := k3 _ _ hp2
      -- other
      refine ⟨_, rfl, p, words C, rfl, .inl (.inl (.inl hp3)), _, rfl, by rw [words_len]; omega, by rw [words_len]; omega, fun G nG => ?_⟩
      rw [Int.toNat_natCast, words_len]
      refine lc_range (lo := 0) (n := C.length) (fun m H' => Same H3 H' ∧ H' G = some (.lst (intsN (places C (bk a) m)))) ⟨(Same.refl H3).put nG, upd_same⟩ (fun m H' hm pv => ?_) fun H4 pv => ?_
      · obtain ⟨sm, hG⟩ := pv
        rw [Int.zero_add]
        refine ⟨rfl, _, rfl, ⟨_, rfl⟩, _, rfl, rfl, by rw [S_len]; simp, ?_⟩
        rw [up_of hL, bk_small hL has]
        refine ⟨_, rfl, _, rfl, p, _, _, _, rfl, rfl, .inl (.inl (sm _ _ hp3)), words_at hm, bk a, S (C.getD m []), rfl, rfl, _, rfl, ?_⟩
        rw [tl_S]
        have hle := places_le C (bk a) m
        refine ite2 (fun hin => ?_) (fun hin => ?_)
        · have e := places_succ C (bk a) m
          rw [if_pos (of_decide_eq_true hin)] at e
          refine ⟨_, rfl, _, hG, by rw [intsN_len, sizeLine_eq]; omega, sm.put nG, ?_⟩
          rw [upd_same, e, intsN_snoc]
        · have e := places_succ C (bk a) m
          rw [if_neg fun z => hin (decide_eq_true z)] at e
          rw [e]
          exact ⟨sm, hG⟩
      obtain ⟨k4, hG⟩ := pv
      have hp4 := k4 _ _ hp3
      have hD4 := k4 _ _ hD
      rw [pi] at hD4
      rw [pj] at hG
      refine ⟨_, rfl, D, _, rfl, .inl (.inl (.inl hD4)), rfl, _, rfl, goF rfl ?_⟩
      refine ⟨_, rfl, G, _, rfl, .inl (.inl (.inl hG)), rfl, _, rfl, goF rfl ?_⟩
      -- due
      refine ⟨_, rfl, p, words C, rfl, .inl (.inl (.inl hp4)), _, rfl, by rw [sizeLine_eq]; simp, fun M nM => ?_⟩
      have k5 : Same H4 (upd H4 M (.lst [V.int (-1), V.int 1])) := (Same.refl H4).put nM
      have hM5 : (upd H4 M (.lst [V.int (-1), V.int 1])) M = some (.lst [V.int (-1), V.int 1]) := upd_same
      have hD5 := k5 _ _ hD4
      have hG5 := k5 _ _ hG
      have hp5 := k5 _ _ hp4
      show tCB _ _ _ (upd H4 M (.lst [V.int (-1), V.int 1])) _
      generalize upd H4 M (.lst [V.int (-1), V.int 1]) = H5 at k5 hM5 hD5 hG5 hp5
      have hix : atI [V.int (-1), V.int 1] (if (PyData.eqv (.list ([((i : Nat) : Int)].map PyData.int)) (.list ([((j : Nat) : Int)].map PyData.int))) = true then 1 else 0) = some (V.int (if i = j then 1 else -1)) := by
        rw [eqv_one]
        by_cases e : i = j
        · rw [if_pos (by simp [e]), if_pos e]
          exact atI_nat (j := 1) rfl
        · rw [if_neg (by simp; omega), if_neg e]
          exact atI_nat (j := 0) rfl
      refine ⟨_, rfl, _, rfl, .list ([((i : Nat) : Int)].map PyData.int), .list ([((j : Nat) : Int)].map PyData.int), .lst (.inl (.inl hD5)) (dp_ints _), .lst (.inl (.inl hG5)) (dp_ints _), shape_ints _, shape_ints _, .inr ⟨_, rfl, M, _, _, _, rfl, rfl, .inl (.inl hM5), hix, _, _, rfl, rfl, ?_⟩⟩
      have k15 : Same H H5 := k1.trans (k2.trans (k3.trans (k4.trans k5)))
      have Uc := U.cut h2 ha
      have hn6 := U.le
      have lenC : (cutRow l a).length = 2 * (n - 1) := Uc.len
      have okc : (S (cutRow l a)).length ≤ sizeLine := line_S (n := 12) (by omega) (by decide)
      -- the test of the holes behind the cut
      refine ⟨_, rfl, n - 1, cutRow l a, Uc, rfl, fun C2 p2 H6 k6 np2 hq2 d2 hC2 _ => ⟨p2, words C2, rfl, .inl (.inl (.inl hq2)), _, rfl, rfl, _, rfl, goF ?_ ?_⟩⟩
      · obtain ⟨e2, _⟩ := hlaw d2
        rw [decide_eq_true]
        · rfl
        · rw [words_len, words_len, e2]
      refine ⟨_, rfl, n - 1, cutRow l a, Uc, rfl, fun C3 H7 k7 d3 => ⟨_, _, rfl, rfl, .inl ⟨by decide, by decide⟩, _, rfl, _, rfl, okc, _, _, rfl, rfl, ⟨by decide, by decide⟩, _, _, rfl, rfl, _, rfl, _, _, rfl, rfl, rfl, _, rfl, goF ?_ ?_⟩⟩
      · obtain ⟨e3, e4⟩ := hlaw d3
        refine congrArg Bool.not (decide_eq_true ?_)
        show V.int (2 * ((1 + ((n - 1 : Nat) : Int) - (C3.length : Int)) / 2)) = V.int (((S (cutRow l a)).length : Int) / 2 + 1 - (((words C).length : Int) + (if i = j then 1 else -1)))
        rw [words_len, S_len, lenC, ← e3]
        refine congrArg V.int ?_
        omega
      -- ends
      refine ⟨_, rfl, rfl, _, rfl, _, _, rfl, rfl, _, rfl, rfl, _, rfl, ⟨_, rfl⟩, _, rfl, rfl, by rw [S_len]; simp, ?_⟩
      rw [up_of hL, bk_small hL has]
      refine ⟨_, _, rfl, rfl, by rw [sizeLine_eq]; simp, fun e ne => ?_⟩
      rw [find_S ha, find_S hb]
      have k8 : Same H7 (upd H7 e (.lst [V.int (l.idxOf a : Nat), V.int (l.idxOf (bk a) : Nat)])) := (Same.refl H7).put ne
      have he8 : (upd H7 e (.lst [V.int (l.idxOf a : Nat), V.int (l.idxOf (bk a) : Nat)])) e = some (.lst [V.int (l.idxOf a : Nat), V.int (l.idxOf (bk a) : Nat)]) := upd_same
      generalize upd H7 e (.lst [V.int (l.idxOf a : Nat), V.int (l.idxOf (bk a) : Nat)]) = H8 at k8 he8
      have a0 : atI [V.int (l.idxOf a : Nat), V.int (l.idxOf (bk a) : Nat)] 0 = some (V.int (l.idxOf a : Nat)) := atI_nat (j := 0) rfl
      have a1 : atI [V.int (l.idxOf a : Nat), V.int (l.idxOf (bk a) : Nat)] 1 = some (V.int (l.idxOf (bk a) : Nat)) := atI_nat (j := 1) rfl
      refine ⟨_, rfl, e, _, 0, _, rfl, rfl, .inl (.inl he8), a0, _, rfl, e, _, 1, _, rfl, rfl, .inl (.inl he8), a1, _, rfl, e, _, 0, _, rfl, rfl, .inl (.inl he8), a0, _, _, rfl, rfl, .inr ⟨_, rfl, _, _, rfl, rfl, ?_⟩⟩
      have ia := idx_lt ha
      have ib := idx_lt hb
      have hlen := U.len
      have hne : l.idxOf a ≠ l.idxOf (bk a) := fun q => bk_ne U.le ((U.mem a).mp ha) (idx_inj ha hb q).symm
      have efirst : ((l.idxOf a : Nat) : Int) - (if decide (((l.idxOf (bk a) : Nat) : Int) < ((l.idxOf a : Nat) : Int)) = true then 1 else 0) = ((l.idxOf a - (if l.idxOf (bk a) < l.idxOf a then 1 else 0) : Nat) : Int) := by
        by_cases c1 : l.idxOf (bk a) < l.idxOf a
        · rw [if_pos (decide_eq_true (by omega)), if_pos c1]
          omega
        · rw [if_neg (by rw [decide_eq_true_iff]; omega), if_neg c1]
          omega
      show gName 8 (V.int (((l.idxOf a : Nat) : Int) - (if decide (((l.idxOf (bk a) : Nat) : Int) < ((l.idxOf a : Nat) : Int)) = true then 1 else 0))) _ _ _
      rw [efirst]
      have bL : bk (97 + (n - 1)) = 65 + (n - 1) := by unfold bk; rw [if_pos (by omega)]; omega
      have eglue := U.glue (L := 97 + (n - 1)) ha
      rw [bL] at eglue
      refine ⟨_, rfl, _, rfl, _, rfl, e, _, 1, _, rfl, rfl, .inl (.inl he8), a1, cutRow l a, n - 1, _, _, lenC, by omega, ?_, by omega, rfl, ?_⟩
      · by_cases c1 : l.idxOf (bk a) < l.idxOf a
        · rw [if_pos c1]; omega
        · rw [if_neg c1]; omega
      rw [eglue]
      refine ⟨n, _, U.glue_surf ha, rfl, fun C4 p4 H9 k9 np4 hp9 d4 _ _ => ?_⟩
      have k69 : Same H5 H9 := k6.trans (k7.trans (k8.trans k9))
      refine ⟨p4, words C4, rfl, .inl (.inl (.inl hp9)), _, rfl, p, words C, rfl, .inl (.inl (.inl (k69 _ _ hp5))), rfl, ?_⟩
      have e9 : C4.length = C.length := by
        have := d4.unique (U.glue_dec ha has d)
        rw [List.length_map] at this
        exact this
      have e10 : decide (V.int (((words C4).length : Nat) : Int) = V.int (((words C).length : Nat) : Int)) = true := decide_eq_true (by rw [words_len, words_len, e9])
      rw [e10]
      exact q H9 (k15.trans k69)
    obtain ⟨t, hp, hq⟩ := body
    refine thn (hp.run [] s1 _ H _ I hh (by exact hn) hq) fun fl s' z => ?_
    cases fl with
    | ret u => exact ⟨z, u, rfl, trivial⟩
    | next => obtain ⟨_, _, _, z⟩ := z; exact z.elim
    | brk => obtain ⟨_, _, _, z⟩ := z; exact z.elim
    | cont => obtain ⟨_, _, _, z⟩ := z; exact z.elim
end
end K72
namespace K72
open PySem PySem.Spec PyProof.Rows L2
def tSigns (ir ix iy : Nat) : TS := fun D σ H => ∃ (l : List Nat) (a : Nat), σ[ir]? = some (some (.str (S l))) ∧ σ[ix]? = some (some (.str (S [a]))) ∧ (∀ c ∈ l, Lt 6 c) ∧ l.length ≤ 1000 ∧
  ∀ p, H p = none → D.nx (σ.set iy (some (.ref p))) (upd H p (.lst (ones (l.filter fun c => decide (num c + 97 ≠ a)))))
theorem vals_snoc {vs : List V} {us : List Value} {v : V} {u : Value} : Vals vs us → RelV v u → Vals (vs ++ [v]) (us ++ [u])
  | .nil, r => .cons r .nil
  | .cons h t, r => .cons h (vals_snoc t r)
theorem filter_snoc {p : Nat → Bool} {l : List Nat} {i c : Nat} (h : l[i]? = some c) : ((l.take (i + 1)).filter p) = if p c = true then (l.take i).filter p ++ [c] else (l.take i).filter p := by
  rw [take_snoc h, List.filter_append]
  by_cases hp : p c = true
  · rw [if_pos hp, List.filter_cons_of_pos hp]
    rfl
  · rw [if_neg hp, List.filter_cons_of_neg hp]
    simp
theorem pst_signs {X : Cx} {b : Addr} {o : Obj} {n : Nat} {ir ix iy : Nat} {row x y g : Str} {scope : Scope} {tk : Tok} {a0 : Str} {p1 p2 p3 p4 p5 p6 p7 p8 py pos spos : Pos} (hcalm : X.calm = true) (hN : X.N.Nodup) (hNr : X.N[ir]? = some row) (hvr : Vis X.env.scope row) (hNx : X.N[ix]? = some x) (hNy : X.N[iy]? = some y)
    (hyl : X.env.scope.names.lookup y = some .local) (hk : X.env.kindOf x = some .cell) (hc : X.env.cells.lookup x = some b) (ho : o.data = .cell (some (.str a0 tk))) (hbL : b ≠ X.env.locals)
    (hsw : swapsWith (.ListComp (.Name g p1) [⟨.Name g p2, .Name row p3, [.Compare (.Call (.Attribute (.Name g p4) "lower" p5) [] [] p6) [.NotEq] [.Name x p7] p8], 0⟩] scope pos) (some (.Name y py)) spos.line X.env = pure true)
    (hfree : ∀ z ∈ scope.names, z.2 = .free → ∃ c, X.env.cells.lookup z.1 = some c) (hcell : ∀ z ∈ scope.names, z.2 ≠ .cell) (hkind : scope.kind = .function) (hnames : ∀ z ∈ scope.names, z.2 = .local → scope.names.lookup z.1 = some .local)
    (hgl : ∀ cl C, (compEnvC scope cl C X.env).kindOf g = some .local) (hxc : ∀ cl C, (compEnvC scope cl C X.env).kindOf x = some .cell) (hcl : (cloFrom X.env.cells scope.names []).lookup x = some b)
    (hdr : (row == ("__debug__" : Str)) = false) (hcr : (row == ("__classdict__" : Str)) = false) (hdx : (x == ("__debug__" : Str)) = false) (hdg : (g == ("__debug__" : Str)) = false) (hline : (p5.endLine == p6.line) = true)
    (hbase : ∀ cl C, attributeBase (.Name g p4) "lower" (compEnvC scope cl C X.env) (eval (.Name g p4) (compEnvC scope cl C X.env)) = eval (.Name g p4) (compEnvC scope cl C X.env)) (hys : X.env.cells.lookup y = none) :
    PSt X b o n (.Assign [.Name y py] (.ListComp (.Name g p1) [⟨.Name g p2, .Name row p3, [.Compare (.Call (.Attribute (.Name g p4) "lower" p5) [] [] p6) [.NotEq] [.Name x p7] p8], 0⟩] scope pos) spos) (tSigns ir ix iy) := by
  refine ⟨fun pins s σ H D I hh hn h => ?_⟩
  obtain ⟨l, a, h1, h2, hl, hlen, q⟩ := h
  have hcb := hh.cell ho
  obtain ⟨rx, _⟩ := (heldCell (X := X) hNx hk hc ho hdx).run pins s σ H _ I hh h2
  obtain ⟨tk', e0⟩ := rx
  injection e0 with e0 e0'
  subst e0
  have hsz : (S l).cps.size = l.length := by simp [S]
  refine wpAny_mono (PySem.wpAny_toks_of hn (Assign_ListComp_goes (Q := fun f s' => f = .next ∧ Held b o s' ∧ ∃ σ' H', L2.Inv X pins σ' H' s' ∧ D.nx σ' H') hsw (closure_ok hfree) hcell hkind hnames (raw_name hNr hvr I h1 (fun ur rr => ?_) hdr hcr))) (fun _ _ z => ⟨z.2.1, ⟨z.2.2.1, z.1⟩, z.2.2.2⟩) fun _ _ z => z.2
  obtain ⟨t0, rfl⟩ := rr
  refine wpAny_pyIter_strU ?_
  have hI : ({ s with heap := s.heap.push { cls := .type (strIterType (S l)), data := .fields #[.str (S l) t0, .int 0 0] } } : Shared).heap.objs.size = s.heap.objs.size + 1 := Heap.size_push ..
  refine ⟨s.heap.objs.size, [s.heap.objs.size], [s.heap.objs.size], (S l).cps.size, _, _, rfl, Goes.text (I.ok.hd hcalm) _ (S l) t0, by rw [hsz, sizeLine_eq]; omega, ⟨_, Heap.get?_push_size _ rfl, rfl, rfl⟩, fun b' hb' => ?_, fun L C s3 B => ?_⟩
  · rw [List.mem_singleton.mp hb', hI]
    exact Nat.lt_succ_self _
  have hL1 : s.heap.objs.size + 1 ≤ L := by rw [← hI]; exact B.newD
  have hC1 : s.heap.objs.size + 1 ≤ C := by rw [← hI]; exact B.newC
  have hLC := B.ne
  have below : ∀ {b' : Addr} {ob : Obj}, s.heap.get? b' = some ob → b' ≠ L ∧ b' ≠ C ∧ b' ≠ s.heap.objs.size := fun {b' ob} e => by
    have := Heap.lt_size e
    refine ⟨fun z => ?_, fun z => ?_, fun z => ?_⟩
    · rw [z] at this; exact absurd (Nat.lt_of_lt_of_le this (Nat.le_of_succ_le hL1)) (Nat.lt_irrefl _)
    · rw [z] at this; exact absurd (Nat.lt_of_lt_of_le this (Nat.le_of_succ_le hC1)) (Nat.lt_irrefl _)
    · rw [z] at this; exact absurd this (Nat.lt_irrefl _)
  have hbC : b ≠ C := by
    obtain ⟨sl, e⟩ := hh
    exact (below e).2.1
  have hIC : s.heap.objs.size ≠ C := fun z => by rw [← z] at hC1; exact absurd hC1 (Nat.not_succ_le_self _)
  refine ⟨fun i ys s' => (∃ h' tk, s' = { s with heap := h', toks := tk } ∧ (∀ b o, s.heap.get? b = some o → h'.get? b = some o) ∧ ∃ m, h'.Ns C m) ∧ Vals (ones ((l.take i).filter fun c => decide (num c + 97 ≠ a))) ys, ?_, ?_, ?_, ?_⟩
  · obtain ⟨h3, tk3, rfl⟩ := B.only
    exact ⟨⟨h3, tk3, rfl, fun b' ob e => B.old b' ob (Heap.get?_push_of_some _ e), _, B.names⟩, .nil⟩
  · rintro i ys s1 h' tk1 ⟨⟨h3, tk3, rfl, k3, m, hm⟩, hv⟩ keep _
    refine ⟨⟨h', tk1, rfl, fun b' ob e => ?_, m, ?_⟩, hv⟩
    · obtain ⟨n1, n2, n3⟩ := below e
      refine keep b' ob ?_ (k3 b' ob e)
      simp only [List.mem_cons, List.not_mem_nil, or_false, not_or]
      exact ⟨n1, n3⟩
    · obtain ⟨oC, es, ep, hoC, r⟩ := hm
      refine ⟨oC, es, ep, keep C oC ?_ hoC, r⟩
      simp only [List.mem_cons, List.not_mem_nil, or_false, not_or]
      exact ⟨Ne.symm hLC, Ne.symm hIC⟩
  · rintro i v ys s1 hi ⟨c, t, hcx, rfl⟩ hst ⟨⟨h3, tk3, rfl, k3, m, hm⟩, hv⟩ hpl
    have hc' : l[i]? = some c := by
      rw [← hcx, ← Array.getElem?_toList]
      rfl
    have hLt := hl c (List.mem_of_getElem? hc')
    refine wpAny_assign_Name (wpAny_storeName_local (hgl _ C) hm (fun h4 hn4 hs4 => ?_) (by rw [show (compEnvC scope (cloFrom X.env.cells scope.names []) C X.env).scope.kind = .function from hkind]; rfl))
    have k4 : ∀ b' ob, s.heap.get? b' = some ob → h4.get? b' = some ob := fun b' ob e => (hs4.2 b' (below e).2.1).trans (k3 b' ob e)
    have hcell4 : h4.IsCell b (some (.str (S [a]) tk)) := by
      obtain ⟨ob, e1, e2⟩ := hcb
      exact ⟨ob, k4 _ _ e1, e2⟩
    have hst4 : h4.IsStrIter s.heap.objs.size (strIterType (S l)) (S l) t0 (i + 1) := by
      obtain ⟨ob, e1, e2⟩ := hst
      exact ⟨ob, (hs4.2 _ hIC).trans e1, e2⟩
    have hpl4 : h4.PlainList L ys.toArray := by
      obtain ⟨n5, e5⟩ := hpl
      exact ⟨n5, (hs4.2 _ hLC).trans e5⟩
    have sign : ∀ (j : Nat) (Q' E' : Value → Shared → Prop) (pos : Pos), Q' (.str (S [c]) t) { s with heap := h4, toks := j } → wpAny (model X.prog X.w) X.A (eval (.Name g pos) (compEnvC scope (cloFrom X.env.cells scope.names []) C X.env)) Q' E' { s with heap := h4, toks := j } :=
      fun j Q' E' pos q' => wpAny_Name (wpAny_loadName_local hkind (hgl _ C) hn4 (if_pos rfl) q') hdg
    refine wpAny_tests_one (wpAny_isTrue_Compare1 (PySem.Call_method0 (hbase _ C) hline (sign _ _ _ _ ⟨"str", _, PySem.F.plainAttrs_str, PySem.F.slot_str_lower, PySem.F.type_str_lower, typeIs_str _ _ _, (fun _ e => nomatch e), Calls.callWith_builtin rfl (PySem.evalArgs_none (PySem.SC.lower (PyProof.Rows.short24 ?_) ?_))⟩)))
    · rw [low_of hLt, S_len]; simp
    rw [low_of hLt]
    refine wpAny_Name (wpAny_loadName_cell hkind (hxc _ C) hcl hcell4 (PyProof.Rows.ne_str ?_)) hdx
    have ec : ((S [num c + 97]) != (S [a])) = decide (num c + 97 ≠ a) := by
      rw [Bool.eq_iff_iff, bne_iff_ne, decide_eq_true_iff]
      refine not_congr ⟨fun e => ?_, fun e => by rw [e]⟩
      have := S_inj e
      simpa using this
    rw [ec]
    refine wpAny_truthy_bool ?_
    have ef := filter_snoc (p := fun c => decide (num c + 97 ≠ a)) hc'
    cases hp : decide (num c + 97 ≠ a) with
    | true =>
      rw [if_pos hp] at ef
      refine iteT ?_
      refine sign _ _ _ _ ⟨⟨⟨h4, _, rfl, k4, _, hn4⟩, ?_⟩, hst4, hpl4⟩
      rw [ef]
      unfold ones
      rw [List.map_append]
      exact vals_snoc hv ⟨t, rfl⟩
    | false =>
      rw [if_neg (by rw [hp]; exact Bool.false_ne_true)] at ef
      refine iteF ?_
      refine ⟨⟨⟨h4, _, rfl, k4, _, hn4⟩, ?_⟩, hst4, hpl4⟩
      rw [ef]
      exact hv
  · rintro ys s1 ⟨⟨h3, tk3, rfl, k3, m, hm⟩, hv⟩ ⟨nL, hpl⟩
    rw [hsz, List.take_of_length_le (Nat.le_refl _)] at hv
    have hn0 : H L = none := I.hok.fresh (Nat.le_of_succ_le hL1)
    have hlv := hv.length
    have I3 : L2.Inv X pins σ (upd H L (.lst (ones (l.filter fun c => decide (num c + 97 ≠ a))))) { s with heap := h3, toks := tk3 } := by
      refine I.laid k3 (Nat.le_of_succ_le hL1) ⟨?_, ys, nL, hv, hpl⟩
      unfold ones
      rw [List.length_map, sizeLine_eq]
      have := List.length_filter_le (fun c => decide (num c + 97 ≠ a)) l
      omega
    show wpAny _ _ (assign (.Name y py) X.env (.ref L)) _ _ _
    refine wpAny_assign_Name (store_ok2 (v := V.ref L) I3 hN hNy (.inl hyl) rfl (fun s4 I4 ⟨aL, sb, ha⟩ => ?_) (.inr hyl))
    have haL : aL = X.env.locals := by
      rcases ha with z | z
      · exact z
      · rw [hys] at z; cases z
    have hCL : C ≠ X.env.locals := by
      have := I.lt
      intro z
      rw [z] at hC1
      exact absurd (Nat.lt_of_lt_of_le this (Nat.le_of_succ_le hC1)) (Nat.lt_irrefl _)
    have hHC : (upd H L (.lst (ones (l.filter fun c => decide (num c + 97 ≠ a))))) C = none := by
      rw [upd_ne (Ne.symm hLC)]
      exact I.hok.fresh (Nat.le_of_succ_le hC1)
    have hf : FpOk X pins (upd H L (.lst (ones (l.filter fun c => decide (num c + 97 ≠ a))))) C := I.fpOk (Nat.le_of_succ_le hC1) hHC
    obtain ⟨f0, f1, f2, f3, f4, f5⟩ := hf
    refine ⟨m, hm.sameBut sb (by rw [haL]; exact hCL), fun h5 sb5 => ⟨rfl, ?_, _, _, I4.turned (t' := s4.toks) (fun b' ob hb' e => (sb5.2 b' hb').trans e) f0 f1 f3 f4 f5, q L hn0⟩⟩
    have hh4 : Held b o s4 := (hh.kept (s' := { s with heap := h3, toks := tk3 }) k3).but sb (by rw [haL]; exact hbL)
    exact hh4.but (s' := { s4 with heap := h5 }) sb5 hbC
end K72
namespace K72
open PySem PySem.Spec PyProof.Rows L2
theorem signs_eq {n : Nat} {l : List Nat} (U : Surf n l) {a : Nat} (ha : a ∈ l) (has : 97 ≤ a) : (l.filter fun c => decide (num c + 97 ≠ a)) = without bk l a := by
  unfold without
  refine List.filter_congr fun c hc => ?_
  have hL := U.lt ha
  have hc6 := U.lt hc
  refine decide_eq_decide.mpr ?_
  rcases lt6 hL with h | h | h | h | h | h | h | h | h | h | h | h <;> subst h <;> (try omega) <;> (rcases lt6 hc6 with h | h | h | h | h | h | h | h | h | h | h | h <;> subst h <;> decide)
theorem dp_strs {K : PySem.W.Frag} {H : Hp} : ∀ xs : List Str, DpAll K H (xs.map V.str) (xs.map PyData.str)
  | [] => .nil
  | x :: xs => .cons (.str x) (dp_strs xs)
theorem eqv_strs : ∀ xs : List Str, PyData.eqvAll (xs.map PyData.str) (xs.map PyData.str) = true
  | [] => by simp [PyData.eqvAll]
  | x :: xs => by
    rw [List.map_cons, PyData.eqvAll, eqv_strs xs]
    simp [PyData.eqv]
theorem shape_strs : ∀ (xs : List Str), (∀ x ∈ xs, PyData.strOk x = true) → SeqAt.shaped (.list (xs.map PyData.str)) = true := by
  intro xs h
  have h1 : PyData.canLayAll0 (xs.map PyData.str) = true := by
    induction xs with
    | nil => simp [PyData.canLayAll0]
    | cons x xs ih =>
      rw [List.map_cons, PyData.canLayAll0, ih fun y hy => h y (List.mem_cons_of_mem _ hy)]
      simp [PyData.canLay0, h x (by simp)]
  have h2 : PyData.depthAll (xs.map PyData.str) = 0 := by
    clear h h1
    induction xs with
    | nil => simp [PyData.depthAll]
    | cons x xs ih =>
      rw [List.map_cons, PyData.depthAll, ih]
      simp [PyData.depth]
  unfold SeqAt.shaped
  rw [PyData.canLay0, h1, PyData.depth, h2]
  decide
theorem ok_S {u : List Nat} (h : ∀ c ∈ u, Lt 6 c) : PyData.strOk (S u) = true := by
  unfold PyData.strOk S
  rw [← Array.all_toList]
  refine List.all_eq_true.mpr fun c hc => decide_eq_true ?_
  have := h c hc
  unfold Lt Sm Bg at this
  omega
theorem bkW_mem {u : List Nat} {c : Nat} : c ∈ bkW u ↔ ∃ x ∈ u, bk x = c := by
  unfold bkW
  rw [List.mem_map]
  constructor
  · rintro ⟨x, hx, e⟩; exact ⟨x, List.mem_reverse.mp hx, e⟩
  · rintro ⟨x, hx, e⟩; exact ⟨x, List.mem_reverse.mpr hx, e⟩
section
variable {P : Program} {w : World} {K : PySem.W.Frag} {mg : Str → Option Value} {base : Heap} {f : Addr} {fd : FuncData} {k : Nat}
/-! ### _law_ways_right -/
abbrev N47 : List Str := ["_law_feed_here", "_law_row", "_law_letter", "_law_signs", "_law_ways", "_law_after", "_law_gone", "_law_i", "_law_j", "_law_sign", "_law_way_here"]
theorem sc47 : FnScope N47 ["_law_feed_here", "_law_row", "_law_letter"] (defScope (topS 47)) := ⟨rfl, rfl, rfl, by decide +kernel, rfl, by decide +kernel, by decide +kernel⟩
def spWR : Sp := fun vs H Q _ => ∃ (d fc : Addr) (n : Nat) (l : List Nat) (a : Nat), FeedAt H d fc ∧ Surf n l ∧ 2 ≤ n ∧ a ∈ l ∧ 97 ≤ a ∧ vs = [.ref d, .str (S l), .str (S [a])] ∧ ∀ H', SameBut d H H' → FeedAt H' d fc → Q (.bl true) H'
def tWords (K : PySem.W.Frag) : TE := tCall spCutWord [] E0 (tCons (tVar 2) (tCons (tVar 10) tNil))
theorem c_wr (F : Df K mg "_law_ways_right" 47 f fd) (T : Tx mg) (C1 : ClT P w K mg base k "cut" 1 anyZ spCut) (C2 : Cl P w K mg base k "_law_way" spWay) (C3 : Cl P w K mg base k "cut_word" spCutWord) (C4 : Cl P w K mg base k "back" spBack) (C5 : Cl P w K mg base k "_law_back" spLBack) (C6 : Cl P w K mg base k "links" spLinks) :
    ClT P w K mg base (k + 1) "_law_ways_right" 2 anyZ spWR := by
  refine F.clT (ps := ["_law_feed_here", "_law_row", "_law_letter"]) (fnT F.fn sc47 (fun vs H Q E h => ?_) (fun cdv A outer s H us vs Q E s1 hr h r ht I xx => ?_)) (F.fn.binds fun _ _ _ _ _ _ us hl => match us, hl with | [_, _, _], _ => rfl)
  · obtain ⟨d, fc, n, l, a, _, _, _, _, _, rfl, _⟩ := h
    rfl
  · obtain ⟨d, fc, n, l, a, hF, U, h2, ha, has, rfl, q⟩ := h
    obtain ⟨u0, u1, us', rfl, r'⟩ : ∃ u0 u1 us', us = u0 :: u1 :: us' ∧ Vals [.str (S [a])] us' := by
      cases r with
      | cons p q =>
        cases q with
        | cons p q => exact ⟨_, _, _, rfl, q⟩
    obtain ⟨u2, rfl, t1, rfl⟩ := vals1 r'
    obtain ⟨x, t, e, h0, hn⟩ := ht
    have e' : Value.str (S [a]) t1 = Value.str x t := Option.some.inj e
    injection e' with e1 e2
    subst e2
    obtain ⟨c, o, hc, hh, hd, hcl⟩ := start_cell sc47 xx (i := 2) (y := "_law_letter") (u := .str (S [a]) t1) rfl rfl rfl
    have hX : HeldName (cxOf CX0 P w K mg base N47 "_law_ways_right" (defScope (topS 47)) f cdv A outer s H E) c o 2 "_law_letter" (.str (S [a]) t1) := heldCell rfl rfl hc hd
    have hnoc : ∀ {y : Str}, y ≠ (("_law_letter" : String) : Str) → (cxOf CX0 P w K mg base N47 "_law_ways_right" (defScope (topS 47)) f cdv A outer s H E).env.cells.lookup y ≠ some c := fun {y} hy e => hy (I.ok.inj y "_law_letter" c e hc)
    have body : ∃ t, PSst (cxOf CX0 P w K mg base N47 "_law_ways_right" (defScope (topS 47)) f cdv A outer s H E) c o (t1 + 1) (defBody (topS 47)) t ∧ t { nx := fun _ _ => False, rt := Q } (L2.start N47 [.ref d, .str (S l), .str (S [a])]) H := by
      refine ⟨_, psst_cons (pst_signs (ir := 1) (ix := 2) (iy := 3) (tk := t1) (a0 := S [a]) rfl sc47.nd rfl (.inl rfl) rfl rfl rfl rfl hc hd hcl (sw_true rfl rfl rfl (by decide +kernel)) ?hfree (by decide +kernel) rfl (by decide +kernel) (fun _ _ => rfl) (fun _ _ => rfl) ?hcl (by decide) (by decide) (by decide) (by decide) rfl (fun _ _ => rfl) ?hys)
        (psst_cons (psh_set (i := 4) sc47.nd rfl (.inl rfl) (peh_tup (pah_cons (pch (loose_cell hc) C2 hr (Nat.le_refl _) (pah_cons (peh_name (i := 0) rfl (.inl rfl)) (pah_cons (peh_name (i := 3) rfl (.inl rfl)) pah_nil))) (pah_cons (pch (loose_cell hc) C2 hr (Nat.le_refl _) (pah_cons (peh_name (i := 0) rfl (.inl rfl)) (pah_cons (peh_name (i := 3) rfl (.inl rfl)) pah_nil))) pah_nil))) hcl (hnoc (by decide +kernel))).t
        (psst_cons (pst_setT (i := 5) sc47.nd rfl (.inl rfl) (pct2 (ia := 1) (ix := 2) (loose_cell hc) C1 hr (Nat.le_refl _) rfl (.inl rfl) hX h0 (Nat.lt_succ_self _)) hcl (hnoc (by decide +kernel)))
        (psst_of (PSs.nox (pss_cons (ps_set (i := 6) sc47.nd rfl (.inl rfl) (pe_callTy call_tuple_of (by rfl) T.tuple boot_tytup (pa_cons (pe_lc (own := [("_law_way_here", 10)]) (g := gName 10) (tt := tYes) (te := tWords K) rfl sc47.nd (pi_tup (pv 4)) (blkOk_by (own := [("_law_way_here", 10)]) (N := N47) (sc := defScope (topS 47)) (by decide +kernel))
            (fun _ _ _ _ _ => pg_name (i := 10) sc47.nd rfl (Or.inl rfl)) (fun _ _ _ _ _ => pts_nil) (fun _ _ _ _ _ => pc C3 hr (Nat.le_refl _) (pa_cons (pv 2) (pa_cons (pv 10) pa_nil)))) pa_nil)))
          (pss_cons (ps_if (pt_cmpR (op_neD hr.units) (pe_lc (own := [("_law_way_here", 10)]) (g := gName 10) (tt := tYes) rfl sc47.nd (pi_tup (pv 4)) (blkOk_by (own := [("_law_way_here", 10)]) (N := N47) (sc := defScope (topS 47)) (by decide +kernel))
              (fun _ _ _ _ _ => pg_name (i := 10) sc47.nd rfl (Or.inl rfl)) (fun _ _ _ _ _ => pts_nil) (fun _ _ _ _ _ => pc C3 hr (Nat.le_refl _) (pa_cons (pv 2) (pa_cons (pc C4 hr (Nat.le_refl _) (pa_cons (pv 10) pa_nil)) pa_nil))))
            (pe_lc (own := [("_law_way_here", 10)]) (g := gName 10) (tt := tYes) rfl sc47.nd (pi_tup (pv 6)) (blkOk_by (own := [("_law_way_here", 10)]) (N := N47) (sc := defScope (topS 47)) (by decide +kernel))
              (fun _ _ _ _ _ => pg_name (i := 10) sc47.nd rfl (Or.inl rfl)) (fun _ _ _ _ _ => pts_nil) (fun _ _ _ _ _ => pc C5 hr (Nat.le_refl _) (pa_cons (pv 10) pa_nil))) (nomark _)) (pss_one (ps_ret pe_bl)) pss_nil)
          (pss_cons (ps_for PassesOwn.never rfl (pi_list (pe_lst (pa_cons (pe_tup (pa_cons pe_int (pa_cons pe_int pa_nil))) (pa_cons (pe_tup (pa_cons pe_int (pa_cons pe_int pa_nil))) (pa_cons (pe_tup (pa_cons pe_int (pa_cons pe_int pa_nil))) pa_nil))))) (pg_tup rfl (pgs_cons (pg_name (i := 7) sc47.nd rfl (.inl rfl)) (pgs_cons (pg_name (i := 8) sc47.nd rfl (.inl rfl)) pgs_nil)))
            (pss_one (ps_if (pt_cmpR op_ne (pe_callB call_len_seq (by rfl) T.len PySem.boot_len (pa_cons (pc C6 hr (Nat.le_refl _) (pa_cons (pv 1) (pa_cons (pv 4) (pa_cons (pv 7) (pa_cons (pv 8) pa_nil))))) pa_nil))
              (pe_callB call_len_seq (by rfl) T.len PySem.boot_len (pa_cons (pc C6 hr (Nat.le_refl _) (pa_cons (pv 5) (pa_cons (pv 6) (pa_cons (pv 7) (pa_cons (pv 8) pa_nil))))) pa_nil)) (nomark _)) (pss_one (ps_ret pe_bl)) pss_nil)))
          (pss_one (ps_ret pe_bl))))))))), ?_⟩
      case hfree =>
        have hall : ∀ z ∈ ([(Str.ofString ".0", NameKind.local), (Str.ofString "_law_sign", NameKind.local), (Str.ofString "_law_letter", NameKind.free)] : List (Str × NameKind)), z.2 = .free → z.1 = (("_law_letter" : String) : Str) := by decide +kernel
        intro z hz hf
        exact ⟨c, by rw [hall z hz hf]; exact hc⟩
      case hcl =>
        show some (((envOfC "_law_ways_right" (defScope (topS 47)) s.heap.objs.size f cdv).cells.lookup (("_law_letter" : String) : Str)).getD 0) = some c
        rw [hc]
        rfl
      case hys => rfl
      have hL := U.lt ha
      have hlen12 := U.len12
      have hlen := U.len
      have hwl := U.bands.length_without ha
      have hwm : ∀ {c}, c ∈ without bk l a → c ∈ l ∧ c ≠ a ∧ c ≠ bk a := fun {c} h => mem_without.mp h
      refine ⟨l, a, rfl, rfl, fun c hc => U.lt hc, by omega, fun g ng => ?_⟩
      rw [signs_eq U ha has]
      have k1 : Same H (upd H g (.lst (ones (without bk l a)))) := (Same.refl H).put ng
      have hg1 : (upd H g (.lst (ones (without bk l a)))) g = some (.lst (ones (without bk l a))) := upd_same
      generalize upd H g (.lst (ones (without bk l a))) = H1 at k1 hg1
      have F1 := hF.same k1
      have gd : g ≠ d := by
        obtain ⟨cs, i, l', t, hd, _⟩ := hF
        exact (ne_of_none hd ng).symm
      have hne : without bk l a ≠ [] := fun e => by
        rw [e] at hwl
        have : ([] : List Nat).length = 0 := rfl
        omega
      -- the ways
      refine ⟨_, rfl, _, rfl, d, fc, g, without bk l a, F1, hg1, hne, by omega, fun c hc => U.lt (hwm hc).1, rfl, fun x1 H2 nx1 lx1 mx1 s2 F2 => ?_⟩
      have hg2 := s2 _ _ gd hg1
      refine ⟨_, rfl, _, rfl, d, fc, g, without bk l a, F2, hg2, hne, by omega, fun c hc => U.lt (hwm hc).1, rfl, fun x2 H3 nx2 lx2 mx2 s3 F3 => ⟨by rw [sizeLine_eq]; simp, fun W nW => ?_⟩⟩
      have k4 : Same H3 (upd H3 W (.tup [.str (S x1), .str (S x2)])) := (Same.refl H3).put nW
      have hW4 : WaysAt (upd H3 W (.tup [.str (S x1), .str (S x2)])) W [x1, x2] := upd_same
      have F4 := F3.same k4
      have s14 : SameBut d H (upd H3 W (.tup [.str (S x1), .str (S x2)])) := SameBut.same (fun b ob hb e => s3 b ob hb (s2 b ob hb (k1 b ob e))) k4
      generalize upd H3 W (.tup [.str (S x1), .str (S x2)]) = H4 at k4 hW4 F4 s14
      have WW : Ways (without bk l a) [x1, x2] := by
        refine ⟨fun u hu c hc => ?_, fun u hu => ?_⟩
        · rcases List.mem_cons.mp hu with rfl | hu
          · exact mx1 c hc
          · rw [List.mem_singleton.mp hu] at hc
            exact mx2 c hc
        · rcases List.mem_cons.mp hu with rfl | hu
          · exact nx1
          · rw [List.mem_singleton.mp hu]
            exact nx2
      have W8 : ∀ u ∈ [x1, x2], u.length ≤ 8 := fun u hu => by
        rcases List.mem_cons.mp hu with rfl | hu
        · exact lx1
        · rw [List.mem_singleton.mp hu]
          exact lx2
      have WL : ∀ u ∈ [x1, x2], ∀ c ∈ u, Lt 6 c := fun u hu c hc => U.lt (hwm (WW.mem u hu c hc)).1
      have WI : WaysIn l [x1, x2] := ⟨⟨fun u hu c hc => (hwm (WW.mem u hu c hc)).1, WW.ne⟩, fun u hu => Nat.le_trans (W8 u hu) (by omega), by simp⟩
      have Uc := U.cut h2 ha
      have WIc : WaysIn (cutRow l a) ([x1, x2].map (List.map (low (num a)))) := by
        refine ⟨⟨fun u hu c hc => ?_, fun u hu => ?_⟩, fun u hu => ?_, by simp⟩
        · obtain ⟨v, hv, rfl⟩ := List.mem_map.mp hu
          obtain ⟨y, hy, rfl⟩ := List.mem_map.mp hc
          exact List.mem_map.mpr ⟨y, WW.mem v hv y hy, rfl⟩
        · obtain ⟨v, hv, rfl⟩ := List.mem_map.mp hu
          intro e
          exact WW.ne v hv (List.map_eq_nil_iff.mp e)
        · obtain ⟨v, hv, rfl⟩ := List.mem_map.mp hu
          rw [List.length_map]
          exact Nat.le_trans (W8 v hv) (by omega)
      have WLc : ∀ u ∈ [x1, x2], ∀ c ∈ u.map (low (num a)), Lt 6 c := fun u hu c hc => Uc.lt (WIc.ways.mem _ (List.mem_map.mpr ⟨u, hu, rfl⟩) c hc)
      -- the row behind the cut
      refine ⟨_, rfl, _, rfl, n, l, a, U, h2, ha, has, rfl, fun H5 k5 => ?_⟩
      have hW5 := k5 _ _ hW4
      have F5 := F4.same k5
      -- the ways behind the cut
      refine ⟨_, rfl, W, rfl, ⟨_, tupOf hW5⟩, fun D nD => ?_⟩
      refine lc_tup (xs := [x1, x2].map fun u => V.str (S u)) (fun i H' => Same H5 H' ∧ H' D = some (.lst (([x1, x2].take i).map fun u => V.str (S (u.map (low (num a))))))) ⟨(Same.refl H5).put nD, upd_same⟩ (fun i H' _ p => tupOf (p.1 _ _ hW5)) (fun i x H' hx p => ?_) fun H6 p => ?_
      · obtain ⟨sm, hD⟩ := p
        rw [List.getElem?_map] at hx
        obtain ⟨u, hu, rfl⟩ := Option.map_eq_some_iff.mp hx
        have hum := List.mem_of_getElem? hu
        refine ⟨rfl, _, rfl, _, rfl, a, u, hL, WL u hum, by have := W8 u hum; omega, fun z => (hwm (WW.mem u hum a z)).2.1 rfl, fun z => (hwm (WW.mem u hum _ z)).2.2 rfl, rfl, ?_⟩
        have hlt := (List.getElem?_eq_some_iff.mp hu).1
        refine ⟨_, hD, ?_, sm.put nD, ?_⟩
        · rw [List.length_map, List.length_take, sizeLine_eq]
          have : [x1, x2].length = 2 := rfl
          omega
        · rw [upd_same, take_snoc hu, List.map_append]
          rfl
      obtain ⟨k6, hD⟩ := p
      refine ⟨D, _, rfl, .inl ⟨.inl (.inl hD), fun G nG => ?_⟩⟩
      have k7 : Same H6 (upd H6 G (.tup (([x1, x2].take ([x1, x2].map fun u => V.str (S u)).length).map fun u => V.str (S (u.map (low (num a))))))) := (Same.refl H6).put nG
      have hG7 : WaysAt (upd H6 G (.tup (([x1, x2].take ([x1, x2].map fun u => V.str (S u)).length).map fun u => V.str (S (u.map (low (num a))))))) G ([x1, x2].map (List.map (low (num a)))) := upd_same
      generalize upd H6 G (.tup (([x1, x2].take ([x1, x2].map fun u => V.str (S u)).length).map fun u => V.str (S (u.map (low (num a)))))) = H7 at k7 hG7
      have hW7 := k7 _ _ (k6 _ _ hW5)
      have hF7 := F5.same (k6.trans k7)
      have s17 : SameBut d H H7 := s14.same (k5.trans (k6.trans k7))
      -- cutting and turning about
      refine ⟨_, rfl, W, rfl, ⟨_, tupOf hW7⟩, fun A1 nA1 => ?_⟩
      refine lc_tup (xs := [x1, x2].map fun u => V.str (S u)) (fun i H' => Same H7 H' ∧ H' A1 = some (.lst ((([x1, x2].take i).map fun u => S ((bkW u).map (low (num a)))).map V.str))) ⟨(Same.refl H7).put nA1, upd_same⟩ (fun i H' _ p => tupOf (p.1 _ _ hW7)) (fun i x H' hx p => ?_) fun H8 p => ?_
      · obtain ⟨sm, hD⟩ := p
        rw [List.getElem?_map] at hx
        obtain ⟨u, hu, rfl⟩ := Option.map_eq_some_iff.mp hx
        have hum := List.mem_of_getElem? hu
        have u8 := W8 u hum
        have bl : (bkW u).length = u.length := bkW_len u
        have bm : ∀ z ∈ bkW u, z ∈ l ∧ z ≠ a ∧ z ≠ bk a := fun z hz => by
          obtain ⟨y, hy, rfl⟩ := bkW_mem.mp hz
          obtain ⟨h1, h2, h3⟩ := hwm (WW.mem u hum y hy)
          refine ⟨U.bk h1, fun e => h3 ?_, fun e => h2 (U.bands.inj h1 ha e)⟩
          rw [← e, bk_bk (Nat.le_refl _) (U.lt h1)]
        refine ⟨rfl, _, rfl, _, rfl, u, WL u hum, by omega, rfl, fun H9 s9 => ?_⟩
        refine ⟨a, bkW u, hL, fun z hz => U.lt (bm z hz).1, by omega, fun z => (bm a z).2.1 rfl, fun z => (bm _ z).2.2 rfl, rfl, ?_⟩
        have hlt := (List.getElem?_eq_some_iff.mp hu).1
        refine ⟨_, s9 _ _ hD, ?_, (sm.trans s9).put nA1, ?_⟩
        · rw [List.length_map, List.length_map, List.length_take, sizeLine_eq]
          have : [x1, x2].length = 2 := rfl
          omega
        · rw [upd_same, take_snoc hu, List.map_append, List.map_append]
          rfl
      obtain ⟨k8, hA1⟩ := p
      have hG8 := k8 _ _ hG7
      refine ⟨_, rfl, G, rfl, ⟨_, tupOf hG8⟩, fun A2 nA2 => ?_⟩
      refine lc_tup (xs := ([x1, x2].map (List.map (low (num a)))).map fun u => V.str (S u)) (fun i H' => Same H8 H' ∧ H' A2 = some (.lst ((([x1, x2].take i).map fun u => S (bkW (u.map (low (num a))))).map V.str))) ⟨(Same.refl H8).put nA2, upd_same⟩ (fun i H' _ p => tupOf (p.1 _ _ hG8)) (fun i x H' hx p => ?_) fun H9 p => ?_
      · obtain ⟨sm, hD⟩ := p
        rw [List.map_map, List.getElem?_map] at hx
        obtain ⟨u, hu, rfl⟩ := Option.map_eq_some_iff.mp hx
        have hum := List.mem_of_getElem? hu
        have u8 := W8 u hum
        refine ⟨rfl, _, rfl, u.map (low (num a)), WLc u hum, by rw [List.length_map]; omega, rfl, ?_⟩
        have hlt := (List.getElem?_eq_some_iff.mp hu).1
        refine ⟨_, hD, ?_, sm.put nA2, ?_⟩
        · rw [List.length_map, List.length_map, List.length_take, sizeLine_eq]
          have : [x1, x2].length = 2 := rfl
          omega
        · rw [upd_same, take_snoc hu, List.map_append, List.map_append]
          rfl
      obtain ⟨k9, hA2⟩ := p
      have hA1' := k9 _ _ hA1
      have e12 : (([x1, x2].take (([x1, x2].map (List.map (low (num a)))).map fun u => V.str (S u)).length).map fun u => S (bkW (u.map (low (num a))))) = ([x1, x2].take ([x1, x2].map fun u => V.str (S u)).length).map fun u => S ((bkW u).map (low (num a))) := by
        show [S (bkW (x1.map (low (num a)))), S (bkW (x2.map (low (num a))))] = [S ((bkW x1).map (low (num a))), S ((bkW x2).map (low (num a)))]
        rw [back_cut (Nat.le_refl 6) (WL x1 (by simp)), back_cut (Nat.le_refl 6) (WL x2 (by simp))]
      rw [e12] at hA2
      have hok : ∀ x ∈ ([x1, x2].take ([x1, x2].map fun u => V.str (S u)).length).map fun u => S ((bkW u).map (low (num a))), PyData.strOk x = true := fun x hx => by
        rw [← e12] at hx
        obtain ⟨u, hu, rfl⟩ := List.mem_map.mp hx
        have hum := List.mem_of_mem_take hu
        refine ok_S fun z hz => ?_
        obtain ⟨y, hy, rfl⟩ := bkW_mem.mp hz
        exact bk_lt (Nat.le_refl _) (WLc u hum y hy)
      have eqt : PyData.eqv (.list ((([x1, x2].take ([x1, x2].map fun u => V.str (S u)).length).map fun u => S ((bkW u).map (low (num a)))).map PyData.str)) (.list ((([x1, x2].take ([x1, x2].map fun u => V.str (S u)).length).map fun u => S ((bkW u).map (low (num a)))).map PyData.str)) = true := by
        rw [PyData.eqv]
        exact eqv_strs _
      refine ⟨_, _, .lst (.inl (.inl hA1')) (dp_strs _), .lst (.inl (.inl hA2)) (dp_strs _), shape_strs _ hok, shape_strs _ hok, _, rfl, ?_⟩
      rw [eqt]
      refine goF rfl ?_
      have k79 : Same H7 H9 := k8.trans k9
      have hW9 := k79 _ _ hW7
      have hG9 := k79 _ _ hG7
      -- the links
      refine ⟨by rw [sizeLine_eq]; simp, fun t1' n1 => ⟨by rw [sizeLine_eq]; simp, fun t2' n2 => ⟨by rw [sizeLine_eq]; simp, fun t3' n3 => ?_⟩⟩⟩
      have m1 := (Same.refl H9).put (o := .tup [.int 0, .int 0]) n1
      have m2 := (Same.refl (upd H9 t1' (.tup [.int 0, .int 0]))).put (o := .tup [.int 0, .int 1]) n2
      have m3 := (Same.refl (upd (upd H9 t1' (.tup [.int 0, .int 0])) t2' (.tup [.int 0, .int 1]))).put (o := .tup [.int 1, .int 1]) n3
      have c3 : (upd (upd (upd H9 t1' (.tup [.int 0, .int 0])) t2' (.tup [.int 0, .int 1])) t3' (.tup [.int 1, .int 1])) t3' = some (.tup [.int 1, .int 1]) := upd_same
      have c2 := m3 t2' _ upd_same
      have c1 := m3 t1' _ (m2 t1' _ upd_same)
      have m13 := m1.trans (m2.trans m3)
      refine ⟨by rw [sizeLine_eq]; simp, fun L nL => ?_⟩
      have m4 := (Same.refl (upd (upd (upd H9 t1' (.tup [.int 0, .int 0])) t2' (.tup [.int 0, .int 1])) t3' (.tup [.int 1, .int 1]))).put (o := .lst [.ref t1', .ref t2', .ref t3']) nL
      have c1 := m4 _ _ c1
      have c2 := m4 _ _ c2
      have c3 := m4 _ _ c3
      have cL : (upd (upd (upd (upd H9 t1' (.tup [.int 0, .int 0])) t2' (.tup [.int 0, .int 1])) t3' (.tup [.int 1, .int 1])) L (.lst [.ref t1', .ref t2', .ref t3'])) L = some (.lst [.ref t1', .ref t2', .ref t3']) := upd_same
      have m14 := m13.trans m4
      show ∃ a_1, V.ref L = V.ref a_1 ∧ _
      generalize upd (upd (upd (upd H9 t1' (.tup [.int 0, .int 0])) t2' (.tup [.int 0, .int 1])) t3' (.tup [.int 1, .int 1])) L (.lst [.ref t1', .ref t2', .ref t3']) = Hd at c1 c2 c3 cL m14
      refine ⟨L, rfl, ⟨_, .inl (.inl cL)⟩, ?_⟩
      have s1d : SameBut d H Hd := s17.same (k79.trans m14)
      have Fd := hF7.same (k79.trans m14)
      refine for_list (xs := [.ref t1', .ref t2', .ref t3']) (fun i σ H' => ∃ x7 x8 : Option V, σ = [some (.ref d), some (.str (S l)), some (.str (S [a])), some (.ref g), some (.ref W), some (.str (S (cutRow l a))), some (.ref G), x7, x8, none, none] ∧ Same Hd H')
        ⟨none, none, rfl, Same.refl _⟩ (fun i σ H' _ p => by obtain ⟨_, _, _, sm⟩ := p; exact .inl (.inl (sm _ _ cL))) (fun i x σ H' hx p => ?_) fun σ H' p => ?_
      · obtain ⟨x7, x8, rfl, sm⟩ := p
        have hx' : ∃ (t' : Addr) (i' j' : Nat), x = .ref t' ∧ H' t' = some (.tup [.int (i' : Nat), .int (j' : Nat)]) ∧ i' < 2 ∧ j' < 2 := by
          match i, hx with
          | 0, hx => exact ⟨t1', 0, 0, (Option.some.inj hx).symm, sm _ _ c1, by omega, by omega⟩
          | 1, hx => exact ⟨t2', 0, 1, (Option.some.inj hx).symm, sm _ _ c2, by omega, by omega⟩
          | 2, hx => exact ⟨t3', 1, 1, (Option.some.inj hx).symm, sm _ _ c3, by omega, by omega⟩
          | i + 3, hx => exact nomatch hx
        obtain ⟨t', i', j', rfl, ht', hi', hj'⟩ := hx'
        refine ⟨t', _, rfl, tupOf ht', rfl, _, _, rfl, _, [], rfl, rfl, ?_⟩
        have hWd := sm _ _ (m14 _ _ hW9)
        have hGd := sm _ _ (m14 _ _ hG9)
        have i2 : i' < [x1, x2].length := hi'
        have j2 : j' < [x1, x2].length := hj'
        have i3 : i' < ([x1, x2].map (List.map (low (num a)))).length := hi'
        have j3 : j' < ([x1, x2].map (List.map (low (num a)))).length := hj'
        refine ⟨_, rfl, _, rfl, _, rfl, _, rfl, n, l, [x1, x2], W, i', j', U, WI, i2, j2, hWd, rfl, fun Ha r1 y1 sa hr1 hl1 => ?_⟩
        refine ⟨r1, y1, rfl, .inl (.inl (.inl hr1)), _, rfl, _, rfl, _, rfl, _, rfl, n - 1, cutRow l a, [x1, x2].map (List.map (low (num a))), G, i', j', Uc, WIc, i3, j3, sa _ _ hGd, rfl, fun Hb r2 y2 sb hr2 hl2 => ?_⟩
        refine ⟨r2, y2, rfl, .inl (.inl (.inl hr2)), rfl, _, rfl, goF ?_ ?_⟩
        · rw [decide_eq_true]
          · rfl
          · rw [hl1, hl2, links_cut U ha WW i2 j2]
        · exact ⟨_, _, rfl, sm.trans (sa.trans sb)⟩
      · obtain ⟨x7, x8, rfl, sm⟩ := p
        exact q H' (s1d.same sm) (Fd.same sm)
    obtain ⟨t, hp, hq⟩ := body
    refine thn (hp.run [] s1 _ H _ I hh (by exact hn) hq) fun fl s' z => ?_
    cases fl with
    | ret u => exact ⟨z, u, rfl, trivial⟩
    | next => obtain ⟨_, _, _, z⟩ := z; exact z.elim
    | brk => obtain ⟨_, _, _, z⟩ := z; exact z.elim
    | cont => obtain ⟨_, _, _, z⟩ := z; exact z.elim
end
end K72
namespace K72
open PySem PySem.Spec PyProof.Rows L2
/-- a store to a local, with what then stands there -/
theorem store_held {X : Cx} {pins : List (Addr × Obj)} {σ : L2.St} {H : Hp} {s : Shared} {M : Model} {A : Around} {E : Value → Shared → Prop} {i : Nat} {x : Str} {v : V} {u : Value} {Q : Unit → Shared → Prop} (I : L2.Inv X pins σ H s) (hN : X.N.Nodup) (hi : X.N[i]? = some x) (hk : X.env.scope.names.lookup x = some .local) (r : RelV v u)
    (h : ∀ (h' : Heap) (o : Obj) (es : Array DictEntry) (ep : Nat), L2.Inv X pins (σ.set i (some v)) H { s with heap := h', toks := s.toks + 1 } → Heap.SameBut X.env.locals s.heap h' → Held X.env.locals o { s with heap := h', toks := s.toks + 1 } → o.data = .dict es ep → StrKeys es → nsFind es x = some u → Q () { s with heap := h', toks := s.toks + 1 }) :
    wpAny M A (storeName X.env x u) Q E s := by
  obtain ⟨m, hn, hl⟩ := id I.loc
  have hiσ : i < σ.length := by rw [I.len]; exact (List.getElem?_eq_some_iff.mp hi).1
  refine wpAny_storeName_local hk hn (fun h' hn' hs => ?_) (by rw [I.ok.kind]; rfl)
  have low : ∀ {b : Addr} {ob : Obj}, X.s_0.heap.get? b = some ob → b ≠ X.env.locals := fun {b ob} e => Nat.ne_of_lt (Nat.lt_of_lt_of_le (Heap.lt_size e) I.ok.above)
  obtain ⟨oL, esL, epL, hoL, hdL, hkL, hfL⟩ := id hn'
  have J : L2.Inv X pins (σ.set i (some v)) H { s with heap := h', toks := s.toks + 1 } :=
    { ok := I.ok, os := I.os, bare := I.bare, free := I.free, freeC := I.freeC
      len := by simpa using I.len
      base := ⟨fun b ob e n hb hx => (hs.2 b (low e)).trans (I.base.keep b ob e n hb hx), fun b ob e n hb hx => let ⟨sl, e1⟩ := I.base.slot b ob e n hb hx; ⟨sl, (hs.2 b (low e)).trans e1⟩, I.base.free,
        fun b ob e hx => let ⟨o', e1⟩ := I.base.there b ob e hx; ⟨o', (hs.2 b (low e)).trans e1⟩, I.base.tups, I.base.frzs, I.base.tbls⟩
      cell := fun y c e => let ⟨w', z⟩ := I.cell y c e; ⟨w', z.sameBut hs (I.cne y c e)⟩
      pin := fun p hp => let ⟨e, n, ne, nf, d⟩ := I.pin p hp; ⟨(hs.2 p.1 ne).trans e, n, ne, nf, d⟩
      hok := fun b ob e => (I.hok b ob e).stay (fun c w' hc q => (hs.2 c (fun z => by
        have hfree := I.free
        rw [← z] at hfree
        rcases hc with rfl | hc
        · rw [hfree] at e; cases e
        · rw [hfree] at hc; cases hc)).trans q) (fun _ q => q) fun _ _ q => q
      loc := ⟨_, hn', fun j y v' e1 e2 e3 => by
        by_cases hj : j = i
        · subst hj
          rw [hi] at e1
          cases e1
          rw [List.getElem?_set_self hiσ] at e2
          cases e2
          exact ⟨u, r, .inl ⟨hk, if_pos rfl⟩⟩
        · rw [List.getElem?_set_ne (Ne.symm hj)] at e2
          obtain ⟨u', r', q⟩ := hl j y v' e1 e2 e3
          refine ⟨u', r', ?_⟩
          rcases q with ⟨kk, e⟩ | ⟨kk, c, e, z⟩
          · refine .inl ⟨kk, ?_⟩
            have : y ≠ x := fun e => hj (nodup_ix hN e1 (e ▸ hi))
            show (if y = x then some u else m y) = some u'
            rw [if_neg this]
            exact e
          · exact .inr ⟨kk, c, e, z.sameBut hs (I.cne y c e)⟩⟩ }
  exact h h' oL esL epL J hs (held_of hoL) hdL hkL (by rw [hfL]; exact if_pos rfl)
/-- the loop over a surface's letters -/
def tLetters : TS := fun D σ H => ∃ (d fc : Addr) (n : Nat) (l : List Nat) (x0 x2 x4 : Option V), σ = [x0, some (.ref d), x2, some (.str (S l)), x4] ∧ FeedAt H d fc ∧ Surf n l ∧ 2 ≤ n ∧
  ∀ (x4' : Option V) (H' : Hp), SameBut d H H' → FeedAt H' d fc → D.nx [x0, some (.ref d), x2, some (.str (S l)), x4'] H'
theorem ps_letters {X : Cx} {k j : Nat} {rb : List Stmt} {k0 k1 : Nat} {c0 c1 p1 p2 p3 p4 p5 p6 q1 q2 q3 q4 q5 r1 r2 r3 r4 r5 r6 r7 r8 pt pos : Pos} (hp : PassesOwn (model X.prog X.w) X.A X.env X.xe) (hcalm : X.calm = true) (nd : X.N.Nodup) (n1 : X.N[1]? = some (("_law_feed_here" : String) : Str)) (n3 : X.N[3]? = some (("_law_row" : String) : Str)) (n4 : X.N[4]? = some (("_law_letter" : String) : Str))
    (l1 : X.env.scope.names.lookup (("_law_feed_here" : String) : Str) = some .local) (l3 : X.env.scope.names.lookup (("_law_row" : String) : Str) = some .local) (l4 : X.env.scope.names.lookup (("_law_letter" : String) : Str) = some .local)
    (T : Tx X.mg) (gl : Gl X "len") (g1 : Gl X "_law_holes_right") (g2 : Gl X "_law_ways_right") (C1 : ClT X.prog X.w X.K X.mg X.base k "_law_holes_right" 1 anyZ spHR) (C2 : ClT X.prog X.w X.K X.mg X.base k "_law_ways_right" 2 anyZ spWR) (hr : Room j X.A) (hk : k ≤ j) :
    PS X (.For (.Name "_law_letter" pt) (.Subscript (.Constant (.str "abcdef") k0 c0) (.Slice none (some (.BinOp (.Call (.Name "len" p1) [.Name "_law_row" p2] [] p3) .FloorDiv (.Constant (.int 2) k1 c1) p4)) none p5) p6)
      [.If (.BoolOp .Or [.UnaryOp .Not (.Call (.Name "_law_holes_right" q1) [.Name "_law_row" q2, .Name "_law_letter" q3] [] q4) q5, .UnaryOp .Not (.Call (.Name "_law_ways_right" r1) [.Name "_law_feed_here" r2, .Name "_law_row" r3, .Name "_law_letter" r4] [] r5) r6] r7) rb [] r8] [] pos) tLetters := by
  refine ⟨fun pins s σ H D I h => ?_⟩
  obtain ⟨d, fc, n, l, x0, x2, x4, rfl, hF, U, h2, q⟩ := h
  have hlen := U.len
  have hn6 := U.le
  have okl : (S l).length ≤ sizeLine := line_S (n := 12) U.len12 (by decide)
  refine wpAny_For ?_
  refine wpAny_mono (Q := fun v s1 => ∃ t, v = .str (S (smallS.take n)) t ∧ 1 ≤ s1.toks ∧ L2.Inv X pins [x0, some (.ref d), x2, some (.str (S l)), x4] H s1) (E := X.xe) ?_ (fun v s1 hv => ?_) fun _ _ z => z
  · -- 'abcdef'[:len(row) // 2]
    refine Subscript_ (Calls.Constant_str (PySem.wpAny_with_toks (n := s.toks + 1) (Nat.le_refl _) ?_))
    refine wpAny_mono (E := X.xe) ?_ (fun _ _ h => h) (fun _ _ z _ => z)
    have I0 : L2.Inv X pins [x0, some (.ref d), x2, some (.str (S l)), x4] H { s with toks := s.toks + 1 } := I.tok _
    have hu : PO X (some (.BinOp (.Call (.Name "len" p1) [.Name "_law_row" p2] [] p3) .FloorDiv (.Constant (.int 2) k1 c1) p4)) (tPart (tOp (rI CDiv fun i j => V.int (i / j)) (tCB (fun xs H Q => ∃ z : Str, xs = [.str z] ∧ z.length ≤ sizeLine ∧ Q (.int z.length) H) (tCons (tVar 3) tNil)) (tC (.int 2)))) :=
      po_some (pe_op op_fdiv (pe_callB call_len_str gl T.len PySem.boot_len (pa_cons (pv 3 n3 (.inl l3)) pa_nil)) pe_int)
    have en : ((S l).length : Int) / 2 = (n : Int) := by rw [S_len, hlen]; omega
    refine wpAny_Slice (thn ((po_none (X := X)).run pins _ _ H (fun o H2 => o = none ∧ H2 = H) I0 ⟨rfl, rfl⟩) fun vl s2 ⟨lo, H2, I2, pl, q2⟩ => ?_)
    obtain ⟨rfl, rfl⟩ := q2
    refine thn (hu.run pins s2 _ H2 (fun o H3 => o = some (n : Int) ∧ H3 = H2) I2 ⟨_, rfl, _, rfl, okl, _, _, rfl, rfl, ⟨by decide, by decide⟩, _, rfl, congrArg some en, rfl⟩) fun vu s3 ⟨u, H3, I3, pu, q3⟩ => ?_
    obtain ⟨rfl, rfl⟩ := q3
    rw [evalPart_none]
    refine wpAny_pure ?_
    intro hk1
    have I4 : L2.Inv X pins [x0, some (.ref d), x2, some (.str (S l)), x4] H3 { s3 with heap := s3.heap.push { cls := .type "slice", data := .fields #[vl, vu, .none] } } := I3.kept (t' := s3.toks) fun b ob q => Heap.get?_push_of_some _ q
    obtain ⟨Ty, id, hT, ht, hg⟩ := sl_str pins { s3 with heap := s3.heap.push { cls := .type "slice", data := .fields #[vl, vu, .none] } } _ H3 (.str (("abcdef" : String) : Str)) (.str (("abcdef" : String) : Str) s.toks) vl vu none (some (n : Int)) s3.heap.objs.size (fun v H' => v = .str (S (smallS.take n)) ∧ H' = H3) I4 ⟨_, rfl⟩ (Heap.IsSliceOf.new ..) pl pu
      ⟨_, rfl, by rw [lit_small, S_len, sizeLine_eq]; decide, by rw [lit_small, cutS_to], rfl⟩
    refine wpAny_mono (PySem.wpAny_toks_of (n := s.toks + 1) hk1 (tail_any (ops := [.ref s3.heap.objs.size, .str (("abcdef" : String) : Str) s.toks]) ht hT hg ?_)) (fun v s5 z => ?_) fun _ _ z => z.2
    · with_unfolding_all rfl
    obtain ⟨hk2, x, H', I5, r5, rfl, rfl⟩ := z
    obtain ⟨t, rfl⟩ := r5
    exact ⟨t, rfl, Nat.le_trans (Nat.le_add_left 1 _) hk2, I5⟩
  obtain ⟨t, rfl, hk1, I1⟩ := hv
  have hn : n = 2 ∨ n = 3 ∨ n = 4 ∨ n = 5 ∨ n = 6 := by omega
  have hasc : (S (smallS.take n)).cps.all (· < 128) = true := by
    rcases hn with h | h | h | h | h <;> subst h <;> decide +kernel
  have hsign : ∀ i, i < n → (S (smallS.take n)).cps[i]? = some (97 + i) := fun i hi => by
    have e : (S (smallS.take n)).cps[i]? = (smallS.take n)[i]? := by
      show (smallS.take n).toArray[i]? = _
      rw [List.getElem?_toArray]
    rw [e, List.getElem?_take_of_lt hi]
    have : i = 0 ∨ i = 1 ∨ i = 2 ∨ i = 3 ∨ i = 4 ∨ i = 5 := by omega
    rcases this with h | h | h | h | h | h <;> subst h <;> rfl
  have hend : (S (smallS.take n)).cps[n]? = none := by
    have e : (S (smallS.take n)).cps[n]? = (smallS.take n)[n]? := by
      show (smallS.take n).toArray[n]? = _
      rw [List.getElem?_toArray]
    rw [e]
    exact List.getElem?_eq_none (by rw [List.length_take]; omega)
  refine wpAny_pyIter_ascii hasc ?_
  have hH : H s1.heap.objs.size = none := I1.hok.fresh (Nat.le_refl _)
  obtain ⟨_, f1, f2, f3, f4, f5⟩ := I1.fpOk (Nat.le_refl _) hH
  generalize hit0 : s1.heap.objs.size = it at hH f1 f2 f3 f4 f5 ⊢
  have hget0 : (s1.heap.push (PySem.Froz.itObj (S (smallS.take n)) t 0)).get? it = some (PySem.Froz.itObj (S (smallS.take n)) t 0) := by
    rw [← hit0]
    exact Heap.get?_push_size _ rfl
  have I2 : L2.Inv X pins [x0, some (.ref d), x2, some (.str (S l)), x4] H { s1 with heap := s1.heap.push (PySem.Froz.itObj (S (smallS.take n)) t 0) } := I1.kept (t' := s1.toks) fun b ob e => Heap.get?_push_of_some _ e
  refine codeAny_forLoop_any (fun m s' => ∃ (i : Nat) (H' : Hp) (x4' : Option V), m = n - i ∧ i ≤ n ∧ L2.Inv X pins [x0, some (.ref d), x2, some (.str (S l)), x4'] H' s' ∧ s'.heap.get? it = some (PySem.Froz.itObj (S (smallS.take n)) t i) ∧ H' it = none ∧ 1 ≤ s'.toks ∧ SameBut d H H' ∧ FeedAt H' d fc) ?_ n
    ⟨0, H, x4, rfl, Nat.zero_le _, I2, hget0, hH, hk1, SameBut.refl, hF⟩
  rintro m s3 ⟨i, H3, x4', rfl, hi, I3, hit, hn3, hk3, sb3, F3⟩
  by_cases hlt : i < n
  · refine PySem.Froz.next_x hit (hsign i hlt) ?_
    have tokpos : (s3.toks : Tok) ≠ 0 := Nat.ne_of_gt hk3
    have hL : 97 + i ∈ l := (U.mem _).mpr (.inl ⟨by omega, by omega⟩)
    refine wpAny_of_eq rfl ?_
    have kt : ∀ b ob, b ≠ it → s3.heap.get? b = some ob → (s3.heap.update it (fun _ => PySem.Froz.itObj (S (smallS.take n)) t (i + 1))).get? b = some ob := fun b ob hb e => (Heap.get?_update_of_ne _ (Ne.symm hb) e)
    have I4 : L2.Inv X pins [x0, some (.ref d), x2, some (.str (S l)), x4'] H3 { s3 with heap := s3.heap.update it (fun _ => PySem.Froz.itObj (S (smallS.take n)) t (i + 1)), toks := s3.toks + 1 } := I3.turned kt hn3 f1 f3 f4 f5
    have hit4 : (s3.heap.update it (fun _ => PySem.Froz.itObj (S (smallS.take n)) t (i + 1))).get? it = some (PySem.Froz.itObj (S (smallS.take n)) t (i + 1)) := PySem.Froz.get_upd _ hit rfl
    refine wpAny_assign_Name (store_held (v := V.str (S [97 + i])) I4 nd n4 l4 ⟨s3.toks, rfl⟩ fun h' o es ep I5 sb5 hh5 hd5 hk5 hf5 => ?_)
    have hX : HeldName X X.env.locals o 4 (("_law_letter" : String) : Str) (.str (S [97 + i]) s3.toks) := heldLocal n4 l4 rfl hd5 hk5 hf5
    have hit5 : h'.get? it = some (PySem.Froz.itObj (S (smallS.take n)) t (i + 1)) := (sb5.2 it f1).trans hit4
    generalize hs5 : ({ s3 with heap := h', toks := s3.toks + 1 + 1 } : Shared) = s5
    have I5 : L2.Inv X pins [x0, some (.ref d), x2, some (.str (S l)), some (.str (S [97 + i]))] H3 s5 := by rw [← hs5]; exact I5
    have hh5 : Held X.env.locals o s5 := by rw [← hs5]; exact hh5
    have hit5 : s5.heap.get? it = some (PySem.Froz.itObj (S (smallS.take n)) t (i + 1)) := by rw [← hs5]; exact hit5
    have hk6 : s3.toks + 1 ≤ s5.toks := by rw [← hs5]; exact Nat.le_succ _
    have J5 := I5.pinned (fp := [it]) (fun b hb => by rw [List.mem_singleton.mp hb]; exact ⟨hn3, f1, f2, f3, f4, f5⟩) (fun b hb => by rw [List.mem_singleton.mp hb]; exact ⟨_, hit5, fun v e => nomatch e⟩)
    refine wpAny_passesOwn hp (wpAny_execs_cons (wpAny_If ?_))
    refine isTrue_or (isTrue_not (isTrue_plain (thn ((pct2 (n := s3.toks + 1) (ia := 3) (ix := 4) (k := k) (j := j) loose_loc C1 hr hk n3 (.inl l3) hX tokpos (Nat.lt_succ_self _) g1).run _ s5 _ H3 (fun v H' => v = .bl true ∧ Same H3 H') J5 hh5 hk6 ⟨_, rfl, _, rfl, n, l, 97 + i, U, h2, hL, by omega, rfl, fun H' sm => ⟨rfl, sm⟩⟩) fun u6 s6 z6 => ?_)))
    obtain ⟨⟨hh6, hk7⟩, v6, H6, J6, r6, rfl, sm6⟩ := z6
    cases r6
    refine wpAny_truthy_bool (goF rfl ?_)
    refine isTrue_or (isTrue_not (isTrue_plain (thn ((pct3 (n := s3.toks + 1) (ia := 1) (ic := 3) (ix := 4) (k := k) (j := j) loose_loc C2 hr hk n1 (.inl l1) n3 (.inl l3) hX tokpos (Nat.lt_succ_self _) g2).run _ s6 _ H6 (fun v H' => v = .bl true ∧ SameBut d H6 H' ∧ FeedAt H' d fc) J6 hh6 hk7 ⟨_, rfl, _, rfl, _, rfl, d, fc, n, l, 97 + i, F3.same sm6, U, h2, hL, by omega, rfl, fun H' sm F' => ⟨rfl, sm, F'⟩⟩) fun u7 s7 z7 => ?_)))
    obtain ⟨⟨hh7, hk8⟩, v7, H7, J7, r7, rfl, sb7, F7⟩ := z7
    cases r7
    refine wpAny_truthy_bool (goF rfl ?_)
    refine isTrue_or_nil (goF rfl ?_)
    refine wpAny_execs_nil (wpAny_execs_nil ?_)
    have pin := J7.pin (it, PySem.Froz.itObj (S (smallS.take n)) t (i + 1)) (List.mem_append_right _ (List.mem_append_right _ (mem_pinsAt (List.mem_singleton.mpr rfl) hit5)))
    exact ⟨n - (i + 1), by omega, i + 1, H7, _, rfl, hlt, J7.unpinned, pin.1, pin.2.1, Nat.le_trans (Nat.le_add_left 1 _) hk8, fun b ob hb e => sb7 b ob hb (sm6 b ob (sb3 b ob hb e)), F7⟩
  · obtain rfl : i = n := by omega
    refine PySem.Froz.end_x (I.ok.hd hcalm) hit hend ?_
    refine wpAny_execs_nil ?_
    have ke : ∀ b ob, b ≠ it → s3.heap.get? b = some ob → (PySem.Froz.endHeap s3.heap it i).get? b = some ob := fun b ob hb e => Heap.get?_push_of_some _ (Heap.get?_push_of_some _ (Heap.get?_update_of_ne _ (Ne.symm hb) e))
    exact ⟨_, H3, I3.turned (t' := s3.toks) ke hn3 f1 f3 f4 f5, q x4' H3 sb3 F3⟩
end K72
namespace K72
open PySem PySem.Spec PyProof.Rows L2
section
variable {P : Program} {w : World} {K : PySem.W.Frag} {mg : Str → Option Value} {base : Heap} {f : Addr} {fd : FuncData} {k : Nat}
/-! ### law -/
abbrev N48 : List Str := ["_law_script", "_law_feed_here", "_law_k", "_law_row", "_law_letter"]
theorem sc48 : FnScope N48 ["_law_script"] (defScope (topS 48)) := ⟨rfl, rfl, rfl, by decide +kernel, rfl, by decide +kernel, by decide +kernel⟩
def spLaw (K : PySem.W.Frag) : Sp := fun vs H Q _ => ∃ (a : Addr) (ns : List Int), SqL K H a (ns.map V.int) ∧ ns.length ≤ 63 ∧ vs = [.ref a] ∧ ∀ H', Q (.bl true) H'
theorem ok_law (F : Fun K "law" "law" (topS 48) f fd) (T : Tx mg) (C1 : ClT P w K mg base k "_law_holes_right" 1 anyZ spHR) (C2 : ClT P w K mg base k "_law_ways_right" 2 anyZ spWR) (C3 : Cl P w K mg base k "_law_feed" (spFeed K)) (C4 : Cl P w K mg base k "_law_surface" spSurface)
    (C5 : Cl P w K mg base k "_law_draw" spDraw) (C6 : Cl P w K mg base k "glued" spGlued) : FnOk P w K mg base CX0 (k + 1) f fd ["_law_script"] (spLaw K) := by
  refine F.ok sc48 (fun vs H Q E h => ?_) (fun cdv A outer s H vs Q E hr h => ?_)
  · obtain ⟨a, ns, _, _, rfl, _⟩ := h
    rfl
  · obtain ⟨a, ns, ha, hn, rfl, q⟩ := h
    refine ⟨_, pss_cons (ps_set (i := 1) sc48.nd rfl (.inl rfl) (pc C3 hr (Nat.le_refl _) (pa_cons (pv 0) pa_nil)))
      (pss_cons (ps_for PassesOwn.never rfl (pi_range1 rfl T.range (pa_cons pe_int pa_nil)) (pg_name (i := 2) sc48.nd rfl (.inl rfl))
        (pss_cons (ps_set (i := 3) sc48.nd rfl (.inl rfl) (pc C4 hr (Nat.le_refl _) (pa_cons (pv 1) (pa_cons (pe_op op_add pe_int (pc C5 hr (Nat.le_refl _) (pa_cons (pv 1) (pa_cons pe_int pa_nil)))) pa_nil))))
        (pss_cons (ps_set (i := 3) sc48.nd rfl (.inl rfl) (pc C6 hr (Nat.le_refl _) (pa_cons (pv 3) (pa_cons (pc C5 hr (Nat.le_refl _) (pa_cons (pv 1) (pa_cons (pe_op op_add (pe_callB call_len_str (by rfl) T.len PySem.boot_len (pa_cons (pv 3) pa_nil)) pe_int) pa_nil)))
            (pa_cons (pc C5 hr (Nat.le_refl _) (pa_cons (pv 1) (pa_cons (pe_op op_add (pe_callB call_len_str (by rfl) T.len PySem.boot_len (pa_cons (pv 3) pa_nil)) pe_int) pa_nil))) pa_nil)))))
        (pss_one (ps_letters PassesOwn.never rfl sc48.nd rfl rfl rfl rfl rfl rfl T rfl rfl rfl C1 C2 hr (Nat.le_refl _))))))
      (pss_one (ps_ret pe_bl))), ?_⟩
    refine ⟨_, rfl, a, ns, ha, hn, rfl, fun d fc H1 k1 nd nfc F1 => ?_⟩
    refine ⟨_, rfl, by decide, by decide, ?_⟩
    refine for_range (lo := 0) (n := 2) (fun i σ H' => ∃ x2 x3 x4 : Option V, σ = [some (.ref a), some (.ref d), x2, x3, x4] ∧ FeedAt H' d fc) ⟨none, none, none, rfl, F1⟩ (fun i σ H2 hi p => ?_) fun σ H' p => ?_
    · obtain ⟨x2, x3, x4, rfl, F2⟩ := p
      refine ⟨_, rfl, _, rfl, d, fc, 5, F2, by decide, by decide, rfl, fun r H3 hr3 s3 F3 => ?_⟩
      have e1 : (1 : Int) + ((r : Nat) : Int) = ((r + 1 : Nat) : Int) := by omega
      refine ⟨_, _, rfl, rfl, d, fc, r + 1, F3, by omega, by omega, congrArg (fun z => [V.ref d, V.int z]) e1, fun l H4 U s4 F4 => ?_⟩
      have hlen := U.len
      have okl : (S l).length ≤ sizeLine := line_S (n := 12) U.len12 (by decide)
      have e2 : ((S l).length : Int) + 1 = ((2 * (r + 1) + 1 : Nat) : Int) := by rw [S_len, hlen]; omega
      have e3 : ((S l).length : Int) + 2 = ((2 * (r + 1) + 2 : Nat) : Int) := by rw [S_len, hlen]; omega
      refine ⟨_, rfl, _, rfl, _, rfl, _, rfl, okl, _, _, rfl, rfl, d, fc, 2 * (r + 1) + 1, F4, by omega, by omega, congrArg (fun z => [V.ref d, V.int z]) e2, fun p H5 hp s5 F5 => ?_⟩
      refine ⟨_, rfl, _, rfl, _, rfl, okl, _, _, rfl, rfl, d, fc, 2 * (r + 1) + 2, F5, by omega, by omega, congrArg (fun z => [V.ref d, V.int z]) e3, fun q' H6 hq s6 F6 => ?_⟩
      refine ⟨l, r + 1, p, q', hlen, by omega, by omega, by omega, rfl, ?_⟩
      refine ⟨d, fc, r + 1 + 1, _, _, _, _, rfl, F6, U.more (by omega) p q', by omega, fun x4' H' _ F' => ⟨_, _, _, rfl, F'⟩⟩
    · obtain ⟨x2, x3, x4, rfl, F2⟩ := p
      exact q H'
end
end K72
namespace K72
open PySem PySem.Spec PyProof.Rows L2
theorem Cl.mono {P : Program} {w : World} {K : PySem.W.Frag} {mg : Str → Option Value} {base : Heap} {j k : Nat} {x : Str} {sp : Sp} (c : Cl P w K mg base j x sp) (h : j ≤ k) : Cl P w K mg base k x sp := by
  obtain ⟨f, fd, ps, F, a, b, d⟩ := c.ex
  exact ⟨f, fd, ps, F.mono h, a, b, d⟩
theorem ClT.mono {P : Program} {w : World} {K : PySem.W.Frag} {mg : Str → Option Value} {base : Heap} {j k i : Nat} {x : Str} {Z : Value → Nat → Prop} {sp : Sp} (c : ClT P w K mg base j x i Z sp) (h : j ≤ k) : ClT P w K mg base k x i Z sp := by
  obtain ⟨f, fd, ps, F, a, b, d⟩ := c.ex
  exact ⟨f, fd, ps, ⟨F.len, fun A outer s H args us vs Q E hr => F.run A outer s H args us vs Q E (hr.mono h)⟩, a, b, d⟩
/-! ### what the top has left; the law's own head -/
theorem all_mk {l : PySem.W.OpenLaw} {w : World} {K : PySem.W.Frag} {h : Heap} {mg : Str → Option Value} {fa : Addr} (X : K.In h) (G : h.Ns mainGlobals mg) (hfa : mg "law" = some (.ref fa))
    {f7 : Addr} {od7 an7 : Option Addr} {sl7 : Array (Option Value)} {oc7 kV7 dc7 pm7 cd7 ct7 : Value} (a7 : PySem.W.nsIn K mainGlobals "number_of" = some (some (.ref f7)))
    (l7 : K.lookup f7 = some ⟨oc7, od7, .func (PySem.W.fnOf "number_of" "number_of" (defArgs (topS 7)) (defBody (topS 7)) (defScope (topS 7)) .none kV7 dc7 pm7 an7 cd7 ct7), sl7⟩) (c7 : PySem.W.codeIn K cd7 "number_of" = true) (k7 : PySem.W.keepIn K (.ref f7) = true)
    {f8 : Addr} {od8 an8 : Option Addr} {sl8 : Array (Option Value)} {oc8 kV8 dc8 pm8 cd8 ct8 : Value} (a8 : PySem.W.nsIn K mainGlobals "back_of" = some (some (.ref f8)))
    (l8 : K.lookup f8 = some ⟨oc8, od8, .func (PySem.W.fnOf "back_of" "back_of" (defArgs (topS 8)) (defBody (topS 8)) (defScope (topS 8)) .none kV8 dc8 pm8 an8 cd8 ct8), sl8⟩) (c8 : PySem.W.codeIn K cd8 "back_of" = true) (k8 : PySem.W.keepIn K (.ref f8) = true)
    {f9 : Addr} {od9 an9 : Option Addr} {sl9 : Array (Option Value)} {oc9 kV9 dc9 pm9 cd9 ct9 : Value} (a9 : PySem.W.nsIn K mainGlobals "back" = some (some (.ref f9)))
    (l9 : K.lookup f9 = some ⟨oc9, od9, .func (PySem.W.fnOf "back" "back" (defArgs (topS 9)) (defBody (topS 9)) (defScope (topS 9)) .none kV9 dc9 pm9 an9 cd9 ct9), sl9⟩) (c9 : PySem.W.codeIn K cd9 "back" = true) (k9 : PySem.W.keepIn K (.ref f9) = true)
    {f12 : Addr} {od12 an12 : Option Addr} {sl12 : Array (Option Value)} {oc12 kV12 dc12 pm12 cd12 ct12 : Value} (a12 : PySem.W.nsIn K mainGlobals "lowered" = some (some (.ref f12)))
    (l12 : K.lookup f12 = some ⟨oc12, od12, .func (PySem.W.fnOf "lowered" "lowered" (defArgs (topS 12)) (defBody (topS 12)) (defScope (topS 12)) .none kV12 dc12 pm12 an12 cd12 ct12), sl12⟩) (c12 : PySem.W.codeIn K cd12 "lowered" = true) (k12 : PySem.W.keepIn K (.ref f12) = true)
    {f13 : Addr} {od13 an13 : Option Addr} {sl13 : Array (Option Value)} {oc13 kV13 dc13 pm13 cd13 ct13 : Value} (a13 : PySem.W.nsIn K mainGlobals "cut_word" = some (some (.ref f13)))
    (l13 : K.lookup f13 = some ⟨oc13, od13, .func (PySem.W.fnOf "cut_word" "cut_word" (defArgs (topS 13)) (defBody (topS 13)) (defScope (topS 13)) .none kV13 dc13 pm13 an13 cd13 ct13), sl13⟩) (c13 : PySem.W.codeIn K cd13 "cut_word" = true) (k13 : PySem.W.keepIn K (.ref f13) = true)
    {f14 : Addr} {od14 an14 : Option Addr} {sl14 : Array (Option Value)} {oc14 kV14 dc14 pm14 cd14 ct14 : Value} (a14 : PySem.W.nsIn K mainGlobals "cut" = some (some (.ref f14)))
    (l14 : K.lookup f14 = some ⟨oc14, od14, .func (PySem.W.fnOf "cut" "cut" (defArgs (topS 14)) (defBody (topS 14)) (defScope (topS 14)) .none kV14 dc14 pm14 an14 cd14 ct14), sl14⟩) (c14 : PySem.W.codeIn K cd14 "cut" = true) (k14 : PySem.W.keepIn K (.ref f14) = true)
    {f15 : Addr} {od15 an15 : Option Addr} {sl15 : Array (Option Value)} {oc15 kV15 dc15 pm15 cd15 ct15 : Value} (a15 : PySem.W.nsIn K mainGlobals "put_in" = some (some (.ref f15)))
    (l15 : K.lookup f15 = some ⟨oc15, od15, .func (PySem.W.fnOf "put_in" "put_in" (defArgs (topS 15)) (defBody (topS 15)) (defScope (topS 15)) .none kV15 dc15 pm15 an15 cd15 ct15), sl15⟩) (c15 : PySem.W.codeIn K cd15 "put_in" = true) (k15 : PySem.W.keepIn K (.ref f15) = true)
    {f16 : Addr} {od16 an16 : Option Addr} {sl16 : Array (Option Value)} {oc16 kV16 dc16 pm16 cd16 ct16 : Value} (a16 : PySem.W.nsIn K mainGlobals "glued" = some (some (.ref f16)))
    (l16 : K.lookup f16 = some ⟨oc16, od16, .func (PySem.W.fnOf "glued" "glued" (defArgs (topS 16)) (defBody (topS 16)) (defScope (topS 16)) .none kV16 dc16 pm16 an16 cd16 ct16), sl16⟩) (c16 : PySem.W.codeIn K cd16 "glued" = true) (k16 : PySem.W.keepIn K (.ref f16) = true)
    {f18 : Addr} {od18 an18 : Option Addr} {sl18 : Array (Option Value)} {oc18 kV18 dc18 pm18 cd18 ct18 : Value} (a18 : PySem.W.nsIn K mainGlobals "round_of" = some (some (.ref f18)))
    (l18 : K.lookup f18 = some ⟨oc18, od18, .func (PySem.W.fnOf "round_of" "round_of" (defArgs (topS 18)) (defBody (topS 18)) (defScope (topS 18)) .none kV18 dc18 pm18 an18 cd18 ct18), sl18⟩) (c18 : PySem.W.codeIn K cd18 "round_of" = true) (k18 : PySem.W.keepIn K (.ref f18) = true)
    {f19 : Addr} {od19 an19 : Option Addr} {sl19 : Array (Option Value)} {oc19 kV19 dc19 pm19 cd19 ct19 : Value} (a19 : PySem.W.nsIn K mainGlobals "holes" = some (some (.ref f19)))
    (l19 : K.lookup f19 = some ⟨oc19, od19, .func (PySem.W.fnOf "holes" "holes" (defArgs (topS 19)) (defBody (topS 19)) (defScope (topS 19)) .none kV19 dc19 pm19 an19 cd19 ct19), sl19⟩) (c19 : PySem.W.codeIn K cd19 "holes" = true) (k19 : PySem.W.keepIn K (.ref f19) = true)
    {f20 : Addr} {od20 an20 : Option Addr} {sl20 : Array (Option Value)} {oc20 kV20 dc20 pm20 cd20 ct20 : Value} (a20 : PySem.W.nsIn K mainGlobals "handles" = some (some (.ref f20)))
    (l20 : K.lookup f20 = some ⟨oc20, od20, .func (PySem.W.fnOf "handles" "handles" (defArgs (topS 20)) (defBody (topS 20)) (defScope (topS 20)) .none kV20 dc20 pm20 an20 cd20 ct20), sl20⟩) (c20 : PySem.W.codeIn K cd20 "handles" = true) (k20 : PySem.W.keepIn K (.ref f20) = true)
    {f22 : Addr} {od22 an22 : Option Addr} {sl22 : Array (Option Value)} {oc22 kV22 dc22 pm22 cd22 ct22 : Value} (a22 : PySem.W.nsIn K mainGlobals "moved" = some (some (.ref f22)))
    (l22 : K.lookup f22 = some ⟨oc22, od22, .func (PySem.W.fnOf "moved" "moved" (defArgs (topS 22)) (defBody (topS 22)) (defScope (topS 22)) .none kV22 dc22 pm22 an22 cd22 ct22), sl22⟩) (c22 : PySem.W.codeIn K cd22 "moved" = true) (k22 : PySem.W.keepIn K (.ref f22) = true)
    {f23 : Addr} {od23 an23 : Option Addr} {sl23 : Array (Option Value)} {oc23 kV23 dc23 pm23 cd23 ct23 : Value} (a23 : PySem.W.nsIn K mainGlobals "letter_at" = some (some (.ref f23)))
    (l23 : K.lookup f23 = some ⟨oc23, od23, .func (PySem.W.fnOf "letter_at" "letter_at" (defArgs (topS 23)) (defBody (topS 23)) (defScope (topS 23)) .none kV23 dc23 pm23 an23 cd23 ct23), sl23⟩) (c23 : PySem.W.codeIn K cd23 "letter_at" = true) (k23 : PySem.W.keepIn K (.ref f23) = true)
    {f24 : Addr} {od24 an24 : Option Addr} {sl24 : Array (Option Value)} {oc24 kV24 dc24 pm24 cd24 ct24 : Value} (a24 : PySem.W.nsIn K mainGlobals "is_strand" = some (some (.ref f24)))
    (l24 : K.lookup f24 = some ⟨oc24, od24, .func (PySem.W.fnOf "is_strand" "is_strand" (defArgs (topS 24)) (defBody (topS 24)) (defScope (topS 24)) .none kV24 dc24 pm24 an24 cd24 ct24), sl24⟩) (c24 : PySem.W.codeIn K cd24 "is_strand" = true) (k24 : PySem.W.keepIn K (.ref f24) = true)
    {f25 : Addr} {od25 an25 : Option Addr} {sl25 : Array (Option Value)} {oc25 kV25 dc25 pm25 cd25 ct25 : Value} (a25 : PySem.W.nsIn K mainGlobals "room_of" = some (some (.ref f25)))
    (l25 : K.lookup f25 = some ⟨oc25, od25, .func (PySem.W.fnOf "room_of" "room_of" (defArgs (topS 25)) (defBody (topS 25)) (defScope (topS 25)) .none kV25 dc25 pm25 an25 cd25 ct25), sl25⟩) (c25 : PySem.W.codeIn K cd25 "room_of" = true) (k25 : PySem.W.keepIn K (.ref f25) = true)
    {f27 : Addr} {od27 an27 : Option Addr} {sl27 : Array (Option Value)} {oc27 kV27 dc27 pm27 cd27 ct27 : Value} (a27 : PySem.W.nsIn K mainGlobals "comes_first" = some (some (.ref f27)))
    (l27 : K.lookup f27 = some ⟨oc27, od27, .func (PySem.W.fnOf "comes_first" "comes_first" (defArgs (topS 27)) (defBody (topS 27)) (defScope (topS 27)) .none kV27 dc27 pm27 an27 cd27 ct27), sl27⟩) (c27 : PySem.W.codeIn K cd27 "comes_first" = true) (k27 : PySem.W.keepIn K (.ref f27) = true)
    {f28 : Addr} {od28 an28 : Option Addr} {sl28 : Array (Option Value)} {oc28 kV28 dc28 pm28 cd28 ct28 : Value} (a28 : PySem.W.nsIn K mainGlobals "is_beside" = some (some (.ref f28)))
    (l28 : K.lookup f28 = some ⟨oc28, od28, .func (PySem.W.fnOf "is_beside" "is_beside" (defArgs (topS 28)) (defBody (topS 28)) (defScope (topS 28)) .none kV28 dc28 pm28 an28 cd28 ct28), sl28⟩) (c28 : PySem.W.codeIn K cd28 "is_beside" = true) (k28 : PySem.W.keepIn K (.ref f28) = true)
    {f29 : Addr} {od29 an29 : Option Addr} {sl29 : Array (Option Value)} {oc29 kV29 dc29 pm29 cd29 ct29 : Value} (a29 : PySem.W.nsIn K mainGlobals "is_along" = some (some (.ref f29)))
    (l29 : K.lookup f29 = some ⟨oc29, od29, .func (PySem.W.fnOf "is_along" "is_along" (defArgs (topS 29)) (defBody (topS 29)) (defScope (topS 29)) .none kV29 dc29 pm29 an29 cd29 ct29), sl29⟩) (c29 : PySem.W.codeIn K cd29 "is_along" = true) (k29 : PySem.W.keepIn K (.ref f29) = true)
    {f30 : Addr} {od30 an30 : Option Addr} {sl30 : Array (Option Value)} {oc30 kV30 dc30 pm30 cd30 ct30 : Value} (a30 : PySem.W.nsIn K mainGlobals "is_against" = some (some (.ref f30)))
    (l30 : K.lookup f30 = some ⟨oc30, od30, .func (PySem.W.fnOf "is_against" "is_against" (defArgs (topS 30)) (defBody (topS 30)) (defScope (topS 30)) .none kV30 dc30 pm30 an30 cd30 ct30), sl30⟩) (c30 : PySem.W.codeIn K cd30 "is_against" = true) (k30 : PySem.W.keepIn K (.ref f30) = true)
    {f31 : Addr} {od31 an31 : Option Addr} {sl31 : Array (Option Value)} {oc31 kV31 dc31 pm31 cd31 ct31 : Value} (a31 : PySem.W.nsIn K mainGlobals "is_long" = some (some (.ref f31)))
    (l31 : K.lookup f31 = some ⟨oc31, od31, .func (PySem.W.fnOf "is_long" "is_long" (defArgs (topS 31)) (defBody (topS 31)) (defScope (topS 31)) .none kV31 dc31 pm31 an31 cd31 ct31), sl31⟩) (c31 : PySem.W.codeIn K cd31 "is_long" = true) (k31 : PySem.W.keepIn K (.ref f31) = true)
    {f32 : Addr} {od32 an32 : Option Addr} {sl32 : Array (Option Value)} {oc32 kV32 dc32 pm32 cd32 ct32 : Value} (a32 : PySem.W.nsIn K mainGlobals "is_link" = some (some (.ref f32)))
    (l32 : K.lookup f32 = some ⟨oc32, od32, .func (PySem.W.fnOf "is_link" "is_link" (defArgs (topS 32)) (defBody (topS 32)) (defScope (topS 32)) .none kV32 dc32 pm32 an32 cd32 ct32), sl32⟩) (c32 : PySem.W.codeIn K cd32 "is_link" = true) (k32 : PySem.W.keepIn K (.ref f32) = true)
    {f34 : Addr} {od34 an34 : Option Addr} {sl34 : Array (Option Value)} {oc34 kV34 dc34 pm34 cd34 ct34 : Value} (a34 : PySem.W.nsIn K mainGlobals "run_along" = some (some (.ref f34)))
    (l34 : K.lookup f34 = some ⟨oc34, od34, .func (PySem.W.fnOf "run_along" "run_along" (defArgs (topS 34)) (defBody (topS 34)) (defScope (topS 34)) .none kV34 dc34 pm34 an34 cd34 ct34), sl34⟩) (c34 : PySem.W.codeIn K cd34 "run_along" = true) (k34 : PySem.W.keepIn K (.ref f34) = true)
    {f35 : Addr} {od35 an35 : Option Addr} {sl35 : Array (Option Value)} {oc35 kV35 dc35 pm35 cd35 ct35 : Value} (a35 : PySem.W.nsIn K mainGlobals "run_against" = some (some (.ref f35)))
    (l35 : K.lookup f35 = some ⟨oc35, od35, .func (PySem.W.fnOf "run_against" "run_against" (defArgs (topS 35)) (defBody (topS 35)) (defScope (topS 35)) .none kV35 dc35 pm35 an35 cd35 ct35), sl35⟩) (c35 : PySem.W.codeIn K cd35 "run_against" = true) (k35 : PySem.W.keepIn K (.ref f35) = true)
    {f36 : Addr} {od36 an36 : Option Addr} {sl36 : Array (Option Value)} {oc36 kV36 dc36 pm36 cd36 ct36 : Value} (a36 : PySem.W.nsIn K mainGlobals "links_of" = some (some (.ref f36)))
    (l36 : K.lookup f36 = some ⟨oc36, od36, .func (PySem.W.fnOf "links_of" "links_of" (defArgs (topS 36)) (defBody (topS 36)) (defScope (topS 36)) .none kV36 dc36 pm36 an36 cd36 ct36), sl36⟩) (c36 : PySem.W.codeIn K cd36 "links_of" = true) (k36 : PySem.W.keepIn K (.ref f36) = true)
    {f37 : Addr} {od37 an37 : Option Addr} {sl37 : Array (Option Value)} {oc37 kV37 dc37 pm37 cd37 ct37 : Value} (a37 : PySem.W.nsIn K mainGlobals "links" = some (some (.ref f37)))
    (l37 : K.lookup f37 = some ⟨oc37, od37, .func (PySem.W.fnOf "links" "links" (defArgs (topS 37)) (defBody (topS 37)) (defScope (topS 37)) .none kV37 dc37 pm37 an37 cd37 ct37), sl37⟩) (c37 : PySem.W.codeIn K cd37 "links" = true) (k37 : PySem.W.keepIn K (.ref f37) = true)
    {f39 : Addr} {od39 an39 : Option Addr} {sl39 : Array (Option Value)} {oc39 kV39 dc39 pm39 cd39 ct39 : Value} (a39 : PySem.W.nsIn K mainGlobals "_law_feed" = some (some (.ref f39)))
    (l39 : K.lookup f39 = some ⟨oc39, od39, .func (PySem.W.fnOf "_law_feed" "_law_feed" (defArgs (topS 39)) (defBody (topS 39)) (defScope (topS 39)) .none kV39 dc39 pm39 an39 cd39 ct39), sl39⟩) (c39 : PySem.W.codeIn K cd39 "_law_feed" = true) (k39 : PySem.W.keepIn K (.ref f39) = true)
    {f40 : Addr} {od40 an40 : Option Addr} {sl40 : Array (Option Value)} {oc40 kV40 dc40 pm40 cd40 ct40 : Value} (a40 : PySem.W.nsIn K mainGlobals "_law_draw" = some (some (.ref f40)))
    (l40 : K.lookup f40 = some ⟨oc40, od40, .func (PySem.W.fnOf "_law_draw" "_law_draw" (defArgs (topS 40)) (defBody (topS 40)) (defScope (topS 40)) .none kV40 dc40 pm40 an40 cd40 ct40), sl40⟩) (c40 : PySem.W.codeIn K cd40 "_law_draw" = true) (k40 : PySem.W.keepIn K (.ref f40) = true)
    {f41 : Addr} {od41 an41 : Option Addr} {sl41 : Array (Option Value)} {oc41 kV41 dc41 pm41 cd41 ct41 : Value} (a41 : PySem.W.nsIn K mainGlobals "_law_back" = some (some (.ref f41)))
    (l41 : K.lookup f41 = some ⟨oc41, od41, .func (PySem.W.fnOf "_law_back" "_law_back" (defArgs (topS 41)) (defBody (topS 41)) (defScope (topS 41)) .none kV41 dc41 pm41 an41 cd41 ct41), sl41⟩) (c41 : PySem.W.codeIn K cd41 "_law_back" = true) (k41 : PySem.W.keepIn K (.ref f41) = true)
    {f42 : Addr} {od42 an42 : Option Addr} {sl42 : Array (Option Value)} {oc42 kV42 dc42 pm42 cd42 ct42 : Value} (a42 : PySem.W.nsIn K mainGlobals "_law_reduced" = some (some (.ref f42)))
    (l42 : K.lookup f42 = some ⟨oc42, od42, .func (PySem.W.fnOf "_law_reduced" "_law_reduced" (defArgs (topS 42)) (defBody (topS 42)) (defScope (topS 42)) .none kV42 dc42 pm42 an42 cd42 ct42), sl42⟩) (c42 : PySem.W.codeIn K cd42 "_law_reduced" = true) (k42 : PySem.W.keepIn K (.ref f42) = true)
    {f43 : Addr} {od43 an43 : Option Addr} {sl43 : Array (Option Value)} {oc43 kV43 dc43 pm43 cd43 ct43 : Value} (a43 : PySem.W.nsIn K mainGlobals "_law_middle" = some (some (.ref f43)))
    (l43 : K.lookup f43 = some ⟨oc43, od43, .func (PySem.W.fnOf "_law_middle" "_law_middle" (defArgs (topS 43)) (defBody (topS 43)) (defScope (topS 43)) .none kV43 dc43 pm43 an43 cd43 ct43), sl43⟩) (c43 : PySem.W.codeIn K cd43 "_law_middle" = true) (k43 : PySem.W.keepIn K (.ref f43) = true)
    {f44 : Addr} {od44 an44 : Option Addr} {sl44 : Array (Option Value)} {oc44 kV44 dc44 pm44 cd44 ct44 : Value} (a44 : PySem.W.nsIn K mainGlobals "_law_surface" = some (some (.ref f44)))
    (l44 : K.lookup f44 = some ⟨oc44, od44, .func (PySem.W.fnOf "_law_surface" "_law_surface" (defArgs (topS 44)) (defBody (topS 44)) (defScope (topS 44)) .none kV44 dc44 pm44 an44 cd44 ct44), sl44⟩) (c44 : PySem.W.codeIn K cd44 "_law_surface" = true) (k44 : PySem.W.keepIn K (.ref f44) = true)
    {f45 : Addr} {od45 an45 : Option Addr} {sl45 : Array (Option Value)} {oc45 kV45 dc45 pm45 cd45 ct45 : Value} (a45 : PySem.W.nsIn K mainGlobals "_law_way" = some (some (.ref f45)))
    (l45 : K.lookup f45 = some ⟨oc45, od45, .func (PySem.W.fnOf "_law_way" "_law_way" (defArgs (topS 45)) (defBody (topS 45)) (defScope (topS 45)) .none kV45 dc45 pm45 an45 cd45 ct45), sl45⟩) (c45 : PySem.W.codeIn K cd45 "_law_way" = true) (k45 : PySem.W.keepIn K (.ref f45) = true)
    {f46 : Addr} {od46 an46 : Option Addr} {sl46 : Array (Option Value)} {oc46 kV46 dc46 pm46 cd46 ct46 : Value} (a46 : PySem.W.nsIn K mainGlobals "_law_holes_right" = some (some (.ref f46)))
    (l46 : K.lookup f46 = some ⟨oc46, od46, .func (PySem.W.fnOf "_law_holes_right" "_law_holes_right" (defArgs (topS 46)) (defBody (topS 46)) (defScope (topS 46)) .none kV46 dc46 pm46 an46 cd46 ct46), sl46⟩) (c46 : PySem.W.codeIn K cd46 "_law_holes_right" = true) (k46 : PySem.W.keepIn K (.ref f46) = true)
    {f47 : Addr} {od47 an47 : Option Addr} {sl47 : Array (Option Value)} {oc47 kV47 dc47 pm47 cd47 ct47 : Value} (a47 : PySem.W.nsIn K mainGlobals "_law_ways_right" = some (some (.ref f47)))
    (l47 : K.lookup f47 = some ⟨oc47, od47, .func (PySem.W.fnOf "_law_ways_right" "_law_ways_right" (defArgs (topS 47)) (defBody (topS 47)) (defScope (topS 47)) .none kV47 dc47 pm47 an47 cd47 ct47), sl47⟩) (c47 : PySem.W.codeIn K cd47 "_law_ways_right" = true) (k47 : PySem.W.keepIn K (.ref f47) = true)
    {f48 : Addr} {od48 an48 : Option Addr} {sl48 : Array (Option Value)} {oc48 kV48 dc48 pm48 cd48 ct48 : Value} (a48 : PySem.W.nsIn K mainGlobals "law" = some (some (.ref f48)))
    (l48 : K.lookup f48 = some ⟨oc48, od48, .func (PySem.W.fnOf "law" "law" (defArgs (topS 48)) (defBody (topS 48)) (defScope (topS 48)) .none kV48 dc48 pm48 an48 cd48 ct48), sl48⟩) (c48 : PySem.W.codeIn K cd48 "law" = true) (k48 : PySem.W.keepIn K (.ref f48) = true)
    {tS tB tM : Tok} (aS : PySem.W.nsIn K mainGlobals "SMALL" = some (some (.str (Str.ofString "abcdef") tS))) (aB : PySem.W.nsIn K mainGlobals "BIG" = some (some (.str (Str.ofString "ABCDEF") tB))) (aM : PySem.W.nsIn K mainGlobals "MOST_ENDS" = some (some (.int 12 tM)))
    (zlen : PySem.W.nsIn K mainGlobals "len" = some none) (zint : PySem.W.nsIn K mainGlobals "int" = some none) (zrange : PySem.W.nsIn K mainGlobals "range" = some none) (zisinstance : PySem.W.nsIn K mainGlobals "isinstance" = some none) (ztuple : PySem.W.nsIn K mainGlobals "tuple" = some none) (zstr : PySem.W.nsIn K mainGlobals "str" = some none) (zbool : PySem.W.nsIn K mainGlobals "bool" = some none) (zall : PySem.W.nsIn K mainGlobals "all" = some none) (zset : PySem.W.nsIn K mainGlobals "set" = some none) (zsorted : PySem.W.nsIn K mainGlobals "sorted" = some none) (zlist : PySem.W.nsIn K mainGlobals "list" = some none) :
    ∃ fd : FuncData, (∀ (s : Shared) (v : Value), BindsTo s fd ⟨[v], []⟩ [("_law_script", v)]) ∧ ∀ base : Heap, K.In base → base.Ns mainGlobals mg → FnOk l.prog w K mg base CX0 8 fa fd ["_law_script"] (spLaw K) := by
  have e := hfa.symm.trans (PySem.W.mg_of X G a48)
  cases e
  have F7 := fun_mk (st := topS 7) l7 c7 k7
  have F8 := fun_mk (st := topS 8) l8 c8 k8
  have F9 := fun_mk (st := topS 9) l9 c9 k9
  have F12 := fun_mk (st := topS 12) l12 c12 k12
  have F13 := fun_mk (st := topS 13) l13 c13 k13
  have F14 := fun_mk (st := topS 14) l14 c14 k14
  have F15 := fun_mk (st := topS 15) l15 c15 k15
  have F16 := fun_mk (st := topS 16) l16 c16 k16
  have F18 := fun_mk (st := topS 18) l18 c18 k18
  have F19 := fun_mk (st := topS 19) l19 c19 k19
  have F20 := fun_mk (st := topS 20) l20 c20 k20
  have F22 := fun_mk (st := topS 22) l22 c22 k22
  have F23 := fun_mk (st := topS 23) l23 c23 k23
  have F24 := fun_mk (st := topS 24) l24 c24 k24
  have F25 := fun_mk (st := topS 25) l25 c25 k25
  have F27 := fun_mk (st := topS 27) l27 c27 k27
  have F28 := fun_mk (st := topS 28) l28 c28 k28
  have F29 := fun_mk (st := topS 29) l29 c29 k29
  have F30 := fun_mk (st := topS 30) l30 c30 k30
  have F31 := fun_mk (st := topS 31) l31 c31 k31
  have F32 := fun_mk (st := topS 32) l32 c32 k32
  have F34 := fun_mk (st := topS 34) l34 c34 k34
  have F35 := fun_mk (st := topS 35) l35 c35 k35
  have F36 := fun_mk (st := topS 36) l36 c36 k36
  have F37 := fun_mk (st := topS 37) l37 c37 k37
  have F39 := fun_mk (st := topS 39) l39 c39 k39
  have F40 := fun_mk (st := topS 40) l40 c40 k40
  have F41 := fun_mk (st := topS 41) l41 c41 k41
  have F42 := fun_mk (st := topS 42) l42 c42 k42
  have F43 := fun_mk (st := topS 43) l43 c43 k43
  have F44 := fun_mk (st := topS 44) l44 c44 k44
  have F45 := fun_mk (st := topS 45) l45 c45 k45
  have F46 := fun_mk (st := topS 46) l46 c46 k46
  have F47 := fun_mk (st := topS 47) l47 c47 k47
  have F48 := fun_mk (st := topS 48) l48 c48 k48
  have D7 : Df K mg "number_of" 7 f7 _ := ⟨F7, PySem.W.mg_of X G a7⟩
  have D8 : Df K mg "back_of" 8 f8 _ := ⟨F8, PySem.W.mg_of X G a8⟩
  have D9 : Df K mg "back" 9 f9 _ := ⟨F9, PySem.W.mg_of X G a9⟩
  have D12 : Df K mg "lowered" 12 f12 _ := ⟨F12, PySem.W.mg_of X G a12⟩
  have D13 : Df K mg "cut_word" 13 f13 _ := ⟨F13, PySem.W.mg_of X G a13⟩
  have D14 : Df K mg "cut" 14 f14 _ := ⟨F14, PySem.W.mg_of X G a14⟩
  have D15 : Df K mg "put_in" 15 f15 _ := ⟨F15, PySem.W.mg_of X G a15⟩
  have D16 : Df K mg "glued" 16 f16 _ := ⟨F16, PySem.W.mg_of X G a16⟩
  have D18 : Df K mg "round_of" 18 f18 _ := ⟨F18, PySem.W.mg_of X G a18⟩
  have D19 : Df K mg "holes" 19 f19 _ := ⟨F19, PySem.W.mg_of X G a19⟩
  have D20 : Df K mg "handles" 20 f20 _ := ⟨F20, PySem.W.mg_of X G a20⟩
  have D22 : Df K mg "moved" 22 f22 _ := ⟨F22, PySem.W.mg_of X G a22⟩
  have D23 : Df K mg "letter_at" 23 f23 _ := ⟨F23, PySem.W.mg_of X G a23⟩
  have D24 : Df K mg "is_strand" 24 f24 _ := ⟨F24, PySem.W.mg_of X G a24⟩
  have D25 : Df K mg "room_of" 25 f25 _ := ⟨F25, PySem.W.mg_of X G a25⟩
  have D27 : Df K mg "comes_first" 27 f27 _ := ⟨F27, PySem.W.mg_of X G a27⟩
  have D28 : Df K mg "is_beside" 28 f28 _ := ⟨F28, PySem.W.mg_of X G a28⟩
  have D29 : Df K mg "is_along" 29 f29 _ := ⟨F29, PySem.W.mg_of X G a29⟩
  have D30 : Df K mg "is_against" 30 f30 _ := ⟨F30, PySem.W.mg_of X G a30⟩
  have D31 : Df K mg "is_long" 31 f31 _ := ⟨F31, PySem.W.mg_of X G a31⟩
  have D32 : Df K mg "is_link" 32 f32 _ := ⟨F32, PySem.W.mg_of X G a32⟩
  have D34 : Df K mg "run_along" 34 f34 _ := ⟨F34, PySem.W.mg_of X G a34⟩
  have D35 : Df K mg "run_against" 35 f35 _ := ⟨F35, PySem.W.mg_of X G a35⟩
  have D36 : Df K mg "links_of" 36 f36 _ := ⟨F36, PySem.W.mg_of X G a36⟩
  have D37 : Df K mg "links" 37 f37 _ := ⟨F37, PySem.W.mg_of X G a37⟩
  have D39 : Df K mg "_law_feed" 39 f39 _ := ⟨F39, PySem.W.mg_of X G a39⟩
  have D40 : Df K mg "_law_draw" 40 f40 _ := ⟨F40, PySem.W.mg_of X G a40⟩
  have D41 : Df K mg "_law_back" 41 f41 _ := ⟨F41, PySem.W.mg_of X G a41⟩
  have D42 : Df K mg "_law_reduced" 42 f42 _ := ⟨F42, PySem.W.mg_of X G a42⟩
  have D43 : Df K mg "_law_middle" 43 f43 _ := ⟨F43, PySem.W.mg_of X G a43⟩
  have D44 : Df K mg "_law_surface" 44 f44 _ := ⟨F44, PySem.W.mg_of X G a44⟩
  have D45 : Df K mg "_law_way" 45 f45 _ := ⟨F45, PySem.W.mg_of X G a45⟩
  have D46 : Df K mg "_law_holes_right" 46 f46 _ := ⟨F46, PySem.W.mg_of X G a46⟩
  have D47 : Df K mg "_law_ways_right" 47 f47 _ := ⟨F47, PySem.W.mg_of X G a47⟩
  have T : Tx mg := by
    refine ⟨⟨tS, ?_⟩, ⟨tB, ?_⟩, ⟨tM, PySem.W.mg_of X G aM⟩, PySem.W.mg_none_of X G zlen, PySem.W.mg_none_of X G zint, PySem.W.mg_none_of X G zrange, PySem.W.mg_none_of X G zisinstance, PySem.W.mg_none_of X G ztuple, PySem.W.mg_none_of X G zstr, PySem.W.mg_none_of X G zbool, PySem.W.mg_none_of X G zall, PySem.W.mg_none_of X G zset, PySem.W.mg_none_of X G zsorted, PySem.W.mg_none_of X G zlist⟩
    · rw [← lit_small]
      exact PySem.W.mg_of X G aS
    · rw [← lit_big]
      exact PySem.W.mg_of X G aB
  refine ⟨PySem.W.fnOf "law" "law" (defArgs (topS 48)) (defBody (topS 48)) (defScope (topS 48)) .none kV48 dc48 pm48 an48 cd48 ct48, fun s v => .of_eq rfl, fun base _ _ => ?_⟩
  have v_num := c_num (P := l.prog) (w := w) (base := base) (k := 0) D7 T
  have v_bof := c_backOf (P := l.prog) (w := w) (base := base) (k := 0) D8 T
  have v_bofT := c_backT (P := l.prog) (w := w) (base := base) (k := 0) D8 T
  have v_bck := c_back (P := l.prog) (w := w) (base := base) (k := 1) D9 v_bof
  have v_lwd := c_low (P := l.prog) (w := w) (base := base) (k := 1) D12 T v_num
  have v_cwd := c_cutWord (P := l.prog) (w := w) (base := base) (k := 2) D13 T (v_num.mono (by decide)) (v_bof.mono (by decide)) v_lwd
  have v_cut := c_cut (P := l.prog) (w := w) (base := base) (k := 2) D14 T (v_bofT.mono (by decide)) (v_num.mono (by decide)) v_lwd
  have v_put := c_put (P := l.prog) (w := w) (base := base) (k := 0) D15
  have v_glu := c_glued (P := l.prog) (w := w) (base := base) (k := 1) D16 T v_put v_bof
  have v_rnd := c_round (P := l.prog) (w := w) (base := base) (k := 2) D18 T v_bck
  have v_hol := c_holes (P := l.prog) (w := w) (base := base) (k := 3) D19 T v_rnd
  have v_han := c_handles (P := l.prog) (w := w) (base := base) (k := 4) D20 T v_hol
  have v_mov := c_moved (P := l.prog) (w := w) (base := base) (k := 0) D22 T
  have v_let := c_letter (P := l.prog) (w := w) (base := base) (k := 0) D23 T
  have v_iss := c_isStr (P := l.prog) (w := w) (base := base) (k := 0) D24 T
  have v_roo := c_room (P := l.prog) (w := w) (base := base) (k := 0) D25 T
  have v_fir := c_first (P := l.prog) (w := w) (base := base) (k := 0) D27 T
  have v_bes := c_beside (P := l.prog) (w := w) (base := base) (k := 2) D28 T v_bck (v_let.mono (by decide)) (v_fir.mono (by decide))
  have v_alo := c_along (P := l.prog) (w := w) (base := base) (k := 2) D29 T v_bck (v_let.mono (by decide)) (v_fir.mono (by decide)) (v_roo.mono (by decide))
  have v_aga := c_against (P := l.prog) (w := w) (base := base) (k := 2) D30 T v_bck (v_let.mono (by decide)) (v_fir.mono (by decide)) (v_roo.mono (by decide)) (v_mov.mono (by decide))
  have v_lon := c_long (P := l.prog) (w := w) (base := base) (k := 0) D31 T
  have v_lin := c_link (P := l.prog) (w := w) (base := base) (k := 3) D32 T (v_iss.mono (by decide)) v_bes v_alo v_aga (v_lon.mono (by decide))
  have v_rua := c_runA (P := l.prog) (w := w) (base := base) (k := 1) D34 v_let v_roo
  have v_rub := c_runB (P := l.prog) (w := w) (base := base) (k := 2) D35 v_bck (v_let.mono (by decide)) (v_roo.mono (by decide))
  have v_lof := c_linksOf (P := l.prog) (w := w) (base := base) (k := 4) D36 (v_rua.mono (by decide)) (v_rub.mono (by decide)) v_lin
  have v_lks := c_links (P := l.prog) (w := w) (base := base) (k := 5) D37 T v_lof
  have v_fee := c_feed (P := l.prog) (w := w) (base := base) (k := 0) D39 T
  have v_dra := c_draw (P := l.prog) (w := w) (base := base) (k := 0) D40 T
  have v_lba := c_lback (P := l.prog) (w := w) (base := base) (k := 0) D41
  have v_red := c_reduced (P := l.prog) (w := w) (base := base) (k := 1) D42 T v_lba
  have v_mid := c_middle (P := l.prog) (w := w) (base := base) (k := 2) D43 T (v_lba.mono (by decide)) v_red
  have v_sur := c_surface (P := l.prog) (w := w) (base := base) (k := 1) D44 T v_dra
  have v_way := c_way (P := l.prog) (w := w) (base := base) (k := 3) D45 T (v_dra.mono (by decide)) v_mid
  have v_hri := c_hr (P := l.prog) (w := w) (base := base) (k := 5) D46 T (v_cut.mono (by decide)) (v_hol.mono (by decide)) v_han (v_glu.mono (by decide))
  have v_wri := c_wr (P := l.prog) (w := w) (base := base) (k := 6) D47 T (v_cut.mono (by decide)) (v_way.mono (by decide)) (v_cwd.mono (by decide)) (v_bck.mono (by decide)) (v_lba.mono (by decide)) v_lks
  exact ok_law (k := 7) F48 T (v_hri.mono (by decide)) v_wri (v_fee.mono (by decide)) (v_sur.mono (by decide)) (v_dra.mono (by decide)) (v_glu.mono (by decide))
end K72
open PySem PySem.W PyProof.Rows
set_option maxHeartbeats 0 in
theorem PySem.Challenge.cw_ringwords_k72_whole_cut_and_glued_holds : PySem.Challenge.rw_ringwords_k72_whole_cut_and_glued.Holds := by
  w_on; o_law; k_head; (case hw => w_witness2)
  k_fill
  refine L2.walk_of (l := PySem.Challenge.rw_ringwords_k72_whole_cut_and_glued) (n := 63) (k := 8) (x := "_law_script") (CX := fun _ => L2.CX0) (sp := fun w => K72.spLaw _) rfl (by decide) rfl ⟨rfl, by decide, by decide⟩ (fun w h Y => PySem.W.kIn_of Y) ?F (fun _ _ a ns hl _ hS => ⟨a, ns, hS, hl, rfl, fun _ => rfl⟩) (fun _ _ _ _ _ h => h)
  case F =>
    intro w mg fa h KX G hmg
    refine' K72.all_mk KX G hmg ?a7 ?l7 ?c7 ?k7 ?a8 ?l8 ?c8 ?k8 ?a9 ?l9 ?c9 ?k9 ?a12 ?l12 ?c12 ?k12 ?a13 ?l13 ?c13 ?k13 ?a14 ?l14 ?c14 ?k14 ?a15 ?l15 ?c15 ?k15 ?a16 ?l16 ?c16 ?k16 ?a18 ?l18 ?c18 ?k18 ?a19 ?l19 ?c19 ?k19 ?a20 ?l20 ?c20 ?k20 ?a22 ?l22 ?c22 ?k22 ?a23 ?l23 ?c23 ?k23 ?a24 ?l24 ?c24 ?k24 ?a25 ?l25 ?c25 ?k25 ?a27 ?l27 ?c27 ?k27 ?a28 ?l28 ?c28 ?k28 ?a29 ?l29 ?c29 ?k29 ?a30 ?l30 ?c30 ?k30 ?a31 ?l31 ?c31 ?k31 ?a32 ?l32 ?c32 ?k32 ?a34 ?l34 ?c34 ?k34 ?a35 ?l35 ?c35 ?k35 ?a36 ?l36 ?c36 ?k36 ?a37 ?l37 ?c37 ?k37 ?a39 ?l39 ?c39 ?k39 ?a40 ?l40 ?c40 ?k40 ?a41 ?l41 ?c41 ?k41 ?a42 ?l42 ?c42 ?k42 ?a43 ?l43 ?c43 ?k43 ?a44 ?l44 ?c44 ?k44 ?a45 ?l45 ?c45 ?k45 ?a46 ?l46 ?c46 ?k46 ?a47 ?l47 ?c47 ?k47 ?a48 ?l48 ?c48 ?k48 ?aS ?aB ?aM ?zlen ?zint ?zrange ?zisinstance ?ztuple ?zstr ?zbool ?zall ?zset ?zsorted ?zlist
    (case a7 => k_is)
    (case l7 => k_is)
    (case c7 => k_is)
    (case k7 => k_is)
    (case a8 => k_is)
    (case l8 => k_is)
    (case c8 => k_is)
    (case k8 => k_is)
    (case a9 => k_is)
    (case l9 => k_is)
    (case c9 => k_is)
    (case k9 => k_is)
    (case a12 => k_is)
    (case l12 => k_is)
    (case c12 => k_is)
    (case k12 => k_is)
    (case a13 => k_is)
    (case l13 => k_is)
    (case c13 => k_is)
    (case k13 => k_is)
    (case a14 => k_is)
    (case l14 => k_is)
    (case c14 => k_is)
    (case k14 => k_is)
    (case a15 => k_is)
    (case l15 => k_is)
    (case c15 => k_is)
    (case k15 => k_is)
    (case a16 => k_is)
    (case l16 => k_is)
    (case c16 => k_is)
    (case k16 => k_is)
    (case a18 => k_is)
    (case l18 => k_is)
    (case c18 => k_is)
    (case k18 => k_is)
    (case a19 => k_is)
    (case l19 => k_is)
    (case c19 => k_is)
    (case k19 => k_is)
    (case a20 => k_is)
    (case l20 => k_is)
    (case c20 => k_is)
    (case k20 => k_is)
    (case a22 => k_is)
    (case l22 => k_is)
    (case c22 => k_is)
    (case k22 => k_is)
    (case a23 => k_is)
    (case l23 => k_is)
    (case c23 => k_is)
    (case k23 => k_is)
    (case a24 => k_is)
    (case l24 => k_is)
    (case c24 => k_is)
    (case k24 => k_is)
    (case a25 => k_is)
    (case l25 => k_is)
    (case c25 => k_is)
    (case k25 => k_is)
    (case a27 => k_is)
    (case l27 => k_is)
    (case c27 => k_is)
    (case k27 => k_is)
    (case a28 => k_is)
    (case l28 => k_is)
    (case c28 => k_is)
    (case k28 => k_is)
    (case a29 => k_is)
    (case l29 => k_is)
    (case c29 => k_is)
    (case k29 => k_is)
    (case a30 => k_is)
    (case l30 => k_is)
    (case c30 => k_is)
    (case k30 => k_is)
    (case a31 => k_is)
    (case l31 => k_is)
    (case c31 => k_is)
    (case k31 => k_is)
    (case a32 => k_is)
    (case l32 => k_is)
    (case c32 => k_is)
    (case k32 => k_is)
    (case a34 => k_is)
    (case l34 => k_is)
    (case c34 => k_is)
    (case k34 => k_is)
    (case a35 => k_is)
    (case l35 => k_is)
    (case c35 => k_is)
    (case k35 => k_is)
    (case a36 => k_is)
    (case l36 => k_is)
    (case c36 => k_is)
    (case k36 => k_is)
    (case a37 => k_is)
    (case l37 => k_is)
    (case c37 => k_is)
    (case k37 => k_is)
    (case a39 => k_is)
    (case l39 => k_is)
    (case c39 => k_is)
    (case k39 => k_is)
    (case a40 => k_is)
    (case l40 => k_is)
    (case c40 => k_is)
    (case k40 => k_is)
    (case a41 => k_is)
    (case l41 => k_is)
    (case c41 => k_is)
    (case k41 => k_is)
    (case a42 => k_is)
    (case l42 => k_is)
    (case c42 => k_is)
    (case k42 => k_is)
    (case a43 => k_is)
    (case l43 => k_is)
    (case c43 => k_is)
    (case k43 => k_is)
    (case a44 => k_is)
    (case l44 => k_is)
    (case c44 => k_is)
    (case k44 => k_is)
    (case a45 => k_is)
    (case l45 => k_is)
    (case c45 => k_is)
    (case k45 => k_is)
    (case a46 => k_is)
    (case l46 => k_is)
    (case c46 => k_is)
    (case k46 => k_is)
    (case a47 => k_is)
    (case l47 => k_is)
    (case c47 => k_is)
    (case k47 => k_is)
    (case a48 => k_is)
    (case l48 => k_is)
    (case c48 => k_is)
    (case k48 => k_is)
    (case aS => k_is)
    (case aB => k_is)
    (case aM => k_is)
    (case zlen => k_is)
    (case zint => k_is)
    (case zrange => k_is)
    (case zisinstance => k_is)
    (case ztuple => k_is)
    (case zstr => k_is)
    (case zbool => k_is)
    (case zall => k_is)
    (case zset => k_is)
    (case zsorted => k_is)
    (case zlist => k_is)
