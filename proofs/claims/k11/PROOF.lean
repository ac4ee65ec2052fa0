import PyProof.Rows.All
import Wide.All
import OpenK.AllK
import Wide.FinOn
import HandS.ForMost
import HandS.Wide
import HandS.ExcInit
import HandS.ExcCtx
import HandS.TryOnly
import HandS.WordsExc
import HandS.IsInst
import HandS.Walk
import HandS.Zip
import HandS.Rev
import HandS.RevRange
import KE.GoesEnum
import HandS.Words
import HandS.Defaults
import OpenK.KMore
import HandS.TupAny
import HandS.TupMul
import HandS.Style
import HandS.Conv
import HandS.More
import HandS.Deep
import HandS.SortInts
import KE.KMathGC
import HandS.Gcd
import HandS.SetFor
import HandS.Flow
import KE.SortData
import HandS.Star
import KE.DataAny
import HandS.Call
import HandS.CallSlots
import HandS.ExcOwn
import HandS.ExcField
import HandS.ExcIs
import KE.KExcIs
import HandS.Hot
import HandS.Sort
import HandS.Dict
import HandS.NoneIn
import KE.KUnpackStar
import HandS.WideBits
import PyProof.Rows.SetFrom
import PyProof.SetRoads
import KE.DataCmp
import KE.DataEq
import PySem.Challenge.RW_hookmats_k11_lists_spoilt
set_option Elab.async false
set_option linter.all false
namespace VS
/-! ### strings that do not cross, on a list: neighbours that are mates taken out, again and again -/
inductive NC {α : Type} (f : α → α) : List α → Prop
  | nil : NC f []
  | cons {l r : List α} {a b : α} : f a = b → f b = a → NC f (l ++ r) → NC f (l ++ a :: b :: r)
theorem NC.wrap {α : Type} {f : α → α} {x b : α} {r : List α} (h : NC f r) (h1 : f x = b) (h2 : f b = x) : NC f (b :: (r ++ [x])) := by
  induction h with
  | nil => exact NC.cons (l := []) (r := []) h2 h1 .nil
  | @cons l r a c e1 e2 _ ih =>
    have := NC.cons (l := b :: l) (r := r ++ [x]) e1 e2 (by simpa using ih)
    simpa using this
theorem NC.rot1 {α : Type} {f : α → α} {x : α} {R : List α} (h : NC f (x :: R)) : NC f (R ++ [x]) := by
  generalize e : x :: R = L at h
  induction h generalizing R with
  | nil => cases e
  | @cons l r a c e1 e2 hh ih =>
    cases l with
    | nil =>
      simp only [List.nil_append, List.cons.injEq] at e
      obtain ⟨rfl, rfl⟩ := e
      simpa using hh.wrap e1 e2
    | cons y l =>
      simp only [List.cons_append, List.cons.injEq] at e
      obtain ⟨rfl, rfl⟩ := e
      have := NC.cons (l := l) (r := r ++ [x]) e1 e2 (by simpa using ih (R := l ++ r) rfl)
      simpa using this
theorem NC.rot {α : Type} {f : α → α} : ∀ {l r : List α}, NC f (l ++ r) → NC f (r ++ l)
  | [], r, h => by simpa using h
  | x :: l, r, h => by
    have h1 : NC f (l ++ (r ++ [x])) := by simpa using NC.rot1 (R := l ++ r) (by simpa using h)
    simpa using NC.rot (l := l) (r := r ++ [x]) h1
theorem NC.reverse {α : Type} {f : α → α} {R : List α} (h : NC f R) : NC f R.reverse := by
  induction h with
  | nil => exact .nil
  | @cons l r a b e1 e2 _ ih =>
    have := NC.cons (l := r.reverse) (r := l.reverse) e2 e1 (by simpa using ih)
    simpa using this
theorem NC.map {α β : Type} {f : α → α} {g : β → β} {R : List α} (φ : α → β) (h : NC f R) (hφ : ∀ x ∈ R, g (φ x) = φ (f x)) : NC g (R.map φ) := by
  induction h with
  | nil => exact .nil
  | @cons l r a b e1 e2 _ ih =>
    rw [List.map_append, List.map_cons, List.map_cons]
    refine .cons ?_ ?_ ?_
    · rw [hφ a (by simp), e1]
    · rw [hφ b (by simp), e2]
    · rw [← List.map_append]
      exact ih fun x hx => hφ x (by rcases List.mem_append.mp hx with h | h <;> simp [h])
theorem NC.congr {α : Type} {f g : α → α} {R : List α} (h : NC f R) (hfg : ∀ x ∈ R, g x = f x) : NC g R := by
  have := NC.map (g := g) id h hfg
  simpa using this
/-- the pairs of a list whose neighbours are joined, again and again, round about -/
inductive NCP {α : Type} : List α → List (α × α) → Prop
  | nil : NCP [] []
  | cons {l r : List α} {a b : α} {ps : List (α × α)} : NCP (l ++ r) ps → NCP (l ++ a :: b :: r) ((a, b) :: ps)
  | conr {l r : List α} {a b : α} {ps : List (α × α)} : NCP (l ++ r) ps → NCP (l ++ b :: a :: r) ((a, b) :: ps)
  | rot {l r : List α} {ps : List (α × α)} : NCP (l ++ r) ps → NCP (r ++ l) ps
  | perm {R : List α} {ps qs : List (α × α)} : NCP R ps → ps.Perm qs → NCP R qs
def ends {α : Type} (ps : List (α × α)) : List α := ps.flatMap fun p => [p.1, p.2]
theorem NCP.ends {α : Type} {R : List α} {ps : List (α × α)} (h : NCP R ps) : (ends ps).Perm R := by
  induction h with
  | nil => exact .refl _
  | @cons l r a b ps _ ih =>
    show (a :: b :: VS.ends ps).Perm _
    refine ((ih.cons b).cons a).trans ?_
    exact (List.perm_middle (a := a) (l₁ := l) (l₂ := b :: r)).trans ((List.perm_middle (a := b) (l₁ := l) (l₂ := r)).cons a) |>.symm
  | @conr l r a b ps _ ih =>
    show (a :: b :: VS.ends ps).Perm _
    refine ((ih.cons b).cons a).trans ?_
    refine (List.Perm.swap b a _).trans ?_
    exact (List.perm_middle (a := b) (l₁ := l) (l₂ := a :: r)).trans ((List.perm_middle (a := a) (l₁ := l) (l₂ := r)).cons b) |>.symm
  | rot _ ih => exact ih.trans List.perm_append_comm
  | perm _ hp ih => exact (hp.symm.flatMap_right _).trans ih
theorem NCP.nc {α : Type} {f : α → α} {R : List α} {ps : List (α × α)} (h : NCP R ps) (hf : ∀ p ∈ ps, f p.1 = p.2 ∧ f p.2 = p.1) : NC f R := by
  induction h with
  | nil => exact .nil
  | @cons l r a b ps _ ih => exact .cons (hf (a, b) (by simp)).1 (hf (a, b) (by simp)).2 (ih fun p hp => hf p (by simp [hp]))
  | @conr l r a b ps _ ih => exact .cons (hf (a, b) (by simp)).2 (hf (a, b) (by simp)).1 (ih fun p hp => hf p (by simp [hp]))
  | rot _ ih => exact (ih hf).rot
  | perm _ hp ih => exact ih fun p h => hf p (hp.mem_iff.mp h)
theorem NCP.map {α β : Type} {R : List α} {ps : List (α × α)} (φ : α → β) (h : NCP R ps) : NCP (R.map φ) (ps.map fun p => (φ p.1, φ p.2)) := by
  induction h with
  | nil => exact .nil
  | @cons l r a b ps _ ih => rw [List.map_append] at ih ⊢; exact .cons ih
  | @conr l r a b ps _ ih => rw [List.map_append] at ih ⊢; exact .conr ih
  | rot _ ih => rw [List.map_append] at ih ⊢; exact .rot ih
  | perm _ hp ih => exact .perm ih (hp.map _)
theorem NCP.reverse {α : Type} {R : List α} {ps : List (α × α)} (h : NCP R ps) : NCP R.reverse ps := by
  induction h with
  | nil => exact .nil
  | @cons l r a b ps _ ih =>
    have := NCP.conr (l := r.reverse) (r := l.reverse) (a := a) (b := b) (by simpa using ih)
    simpa using this
  | @conr l r a b ps _ ih =>
    have := NCP.cons (l := r.reverse) (r := l.reverse) (a := a) (b := b) (by simpa using ih)
    simpa using this
  | rot _ ih => rw [List.reverse_append] at ih ⊢; exact .rot ih
  | perm _ hp ih => exact .perm ih hp
/-- all within one another -/
theorem NCP.wrap {α : Type} {R : List α} {ps : List (α × α)} {a b : α} (h : NCP R ps) : NCP (a :: R ++ [b]) ((a, b) :: ps) := by
  have h1 : NCP (R ++ b :: a :: []) ((a, b) :: ps) := NCP.conr (l := R) (r := []) (by simpa using h)
  have h2 := NCP.rot (l := R ++ [b]) (r := [a]) (by simpa using h1)
  simpa using h2
/-! the stack (its top is the head) -/
def push {α : Type} [DecidableEq α] (f : α → α) (s : List α) (x : α) : List α := match s with
  | [] => [x]
  | t :: s => if t = f x then s else x :: t :: s
def red {α : Type} [DecidableEq α] (f : α → α) (s : List α) (R : List α) : List α := R.foldl (push f) s
theorem red_cons {α : Type} [DecidableEq α] (f : α → α) (s : List α) (x : α) (r : List α) : red f s (x :: r) = red f (push f s x) r := rfl
theorem red_append {α : Type} [DecidableEq α] (f : α → α) (s l r : List α) : red f s (l ++ r) = red f (red f s l) r := List.foldl_append
theorem push_cons {α : Type} [DecidableEq α] (f : α → α) (t : α) (s : List α) (x : α) : push f (t :: s) x = if t = f x then s else x :: t :: s := rfl
theorem push_mem {α : Type} [DecidableEq α] {f : α → α} {s : List α} {x y : α} (h : y ∈ push f s x) : y ∈ s ∨ y = x := by
  cases s with
  | nil => exact .inr (by simpa [push] using h)
  | cons t s =>
    rw [push_cons] at h
    split at h
    · exact .inl (by simp [h])
    · rcases List.mem_cons.mp h with rfl | h
      · exact .inr rfl
      · exact .inl h
theorem red_mem {α : Type} [DecidableEq α] {f : α → α} : ∀ {s l : List α} {y : α}, y ∈ red f s l → y ∈ s ∨ y ∈ l
  | s, [], y, h => .inl h
  | s, x :: l, y, h => by
    rw [red_cons] at h
    rcases red_mem h with h | h
    · rcases push_mem h with h | h
      · exact .inl h
      · exact .inr (by simp [h])
    · exact .inr (by simp [h])
theorem NC.red {α : Type} [DecidableEq α] {f : α → α} {R : List α} (h : NC f R) (hn : R.Nodup) : VS.red f [] R = [] := by
  induction h with
  | nil => rfl
  | @cons l r a b e1 e2 _ ih =>
    have hp : (l ++ a :: b :: r).Perm (a :: b :: (l ++ r)) := (List.perm_middle (a := a) (l₁ := l) (l₂ := b :: r)).trans ((List.perm_middle (a := b) (l₁ := l) (l₂ := r)).cons a)
    have hn2 := hp.nodup_iff.mp hn
    simp only [List.nodup_cons, List.mem_cons, not_or] at hn2
    obtain ⟨⟨hab, ha⟩, hb, hlr⟩ := hn2
    have hbl : b ∉ l := fun h => hb (by simp [h])
    rw [red_append, red_cons, red_cons]
    have h1 : push f (VS.red f [] l) a = a :: VS.red f [] l := by
      cases hs : VS.red f [] l with
      | nil => rfl
      | cons t s =>
        have ht : t ∈ l := by
          have : t ∈ VS.red f [] l := by rw [hs]; simp
          rcases red_mem this with h | h
          · cases h
          · exact h
        rw [push_cons, e1, if_neg]
        intro e
        subst e
        exact hbl ht
    have h2 : push f (a :: VS.red f [] l) b = VS.red f [] l := by
      rw [push_cons, if_pos e2.symm]
    rw [h1, h2, ← red_append]
    exact ih hlr
end VS
set_option Elab.async false
set_option linter.all false
namespace VS
/-! ### mats as rows of mates, and as strings that join spots -/
def ring (u d : Nat) : List (Nat × Nat) := (List.range u).map (fun i => (0, i)) ++ (List.range d).reverse.map (fun i => (1, i))
def idx (u : Nat) (s : Nat × Nat) : Nat := s.1 * u + s.2
def roundL (n m : Nat) : List Nat := List.range n ++ (List.range m).reverse.map (n + ·)
theorem ring_idx (u d : Nat) : (ring u d).map (idx u) = roundL u d := by
  unfold ring roundL
  rw [List.map_append, List.map_map, List.map_map]
  congr 1
  · conv => rhs; rw [← List.map_id (List.range u)]
    apply List.map_congr_left
    intro i _
    simp [idx]
  · apply List.map_congr_left
    intro i _
    simp [idx]
theorem roundL_perm (n m : Nat) : (roundL n m).Perm (List.range (n + m)) := by
  unfold roundL
  rw [List.range_add]
  exact List.Perm.append_left _ ((List.reverse_perm _).map _)
theorem roundL_nodup (n m : Nat) : (roundL n m).Nodup := (roundL_perm n m).nodup_iff.mpr List.nodup_range
theorem mem_roundL {n m i : Nat} : i ∈ roundL n m ↔ i < n + m := by rw [(roundL_perm n m).mem_iff, List.mem_range]
theorem ring_len (u d : Nat) : (ring u d).length = u + d := by simp [ring]
theorem nodup_of_map {α β : Type} {f : α → β} {xs : List α} (h : (xs.map f).Nodup) : xs.Nodup := by
  induction xs with
  | nil => simp
  | cons x xs ih =>
    simp only [List.map_cons, List.nodup_cons] at h ⊢
    exact ⟨fun hx => h.1 (List.mem_map_of_mem hx), ih h.2⟩
theorem map_inj {α β : Type} {f : α → β} {xs : List α} (h : (xs.map f).Nodup) {a b : α} (ha : a ∈ xs) (hb : b ∈ xs) (e : f a = f b) : a = b := by
  induction xs with
  | nil => cases ha
  | cons x xs ih =>
    simp only [List.map_cons, List.nodup_cons] at h
    rcases List.mem_cons.mp ha with h1 | h1 <;> rcases List.mem_cons.mp hb with h2 | h2
    · rw [h1, h2]
    · subst h1; exact absurd (e ▸ List.mem_map_of_mem h2) h.1
    · subst h2; exact absurd (e ▸ List.mem_map_of_mem h1) h.1
    · exact ih h.2 h1 h2
theorem ring_map_nodup (u d : Nat) : ((ring u d).map (idx u)).Nodup := by rw [ring_idx]; exact roundL_nodup u d
theorem ring_nodup (u d : Nat) : (ring u d).Nodup := nodup_of_map (ring_map_nodup u d)
theorem idx_lt {u d : Nat} {s : Nat × Nat} (h : s ∈ ring u d) : idx u s < u + d := mem_roundL.mp (by rw [← ring_idx]; exact List.mem_map_of_mem h)
theorem idx_of {u d i : Nat} (h : i < u + d) : ∃ s ∈ ring u d, idx u s = i := by
  have : i ∈ (ring u d).map (idx u) := by rw [ring_idx]; exact mem_roundL.mpr h
  obtain ⟨s, h1, h2⟩ := List.mem_map.mp this
  exact ⟨s, h1, h2⟩
theorem mem_ring {u d : Nat} {s : Nat × Nat} : s ∈ ring u d ↔ (s.1 = 0 ∧ s.2 < u) ∨ (s.1 = 1 ∧ s.2 < d) := by
  unfold ring
  obtain ⟨a, b⟩ := s
  simp only [List.mem_append, List.mem_map, List.mem_range, List.mem_reverse, Prod.mk.injEq]
  constructor
  · rintro (⟨i, h, rfl, rfl⟩ | ⟨i, h, rfl, rfl⟩)
    · exact .inl ⟨rfl, h⟩
    · exact .inr ⟨rfl, h⟩
  · rintro (⟨h1, h2⟩ | ⟨h1, h2⟩)
    · exact .inl ⟨b, h2, h1.symm, rfl⟩
    · exact .inr ⟨b, h2, h1.symm, rfl⟩
theorem mem_ends {α : Type} {ps : List (α × α)} {a : α} : a ∈ ends ps ↔ ∃ p ∈ ps, a = p.1 ∨ a = p.2 := by
  unfold ends
  simp [List.mem_flatMap]
theorem ends_ne {α : Type} : ∀ {ps : List (α × α)}, (ends ps).Nodup → ∀ p ∈ ps, p.1 ≠ p.2
  | q :: ps, h, p, hp => by
    have h : (q.1 :: q.2 :: ends ps).Nodup := h
    simp only [List.nodup_cons, List.mem_cons, not_or] at h
    rcases List.mem_cons.mp hp with rfl | hp
    · exact h.1.1
    · exact ends_ne h.2.2 p hp
structure Row (u d : Nat) (ps : List ((Nat × Nat) × (Nat × Nat))) (row : List Nat) : Prop where
  len : row.length = u + d
  at_ : ∀ p ∈ ps, row[idx u p.1]? = some (idx u p.2) ∧ row[idx u p.2]? = some (idx u p.1)
structure IsMat (n m : Nat) (row : List Nat) : Prop where
  pos : 0 < n + m
  len : row.length = n + m
  lt : ∀ i j, row[i]? = some j → j < n + m ∧ j ≠ i ∧ row[j]? = some i
  nc : NC (fun i => row.getD i 0) (roundL n m)
theorem Row.get {u d : Nat} {ps : List ((Nat × Nat) × (Nat × Nat))} {row : List Nat} (h : Row u d ps row) (hp : (ends ps).Perm (ring u d)) {i : Nat} (hi : i < u + d) :
    ∃ a b : Nat × Nat, ((a, b) ∈ ps ∨ (b, a) ∈ ps) ∧ idx u a = i ∧ row[i]? = some (idx u b) ∧ row[idx u b]? = some i := by
  obtain ⟨s, hs, rfl⟩ := idx_of hi
  obtain ⟨p, hp1, e⟩ := mem_ends.mp (hp.mem_iff.mpr hs)
  obtain ⟨h1, h2⟩ := h.at_ p hp1
  rcases e with rfl | rfl
  · exact ⟨p.1, p.2, .inl hp1, rfl, h1, h2⟩
  · exact ⟨p.2, p.1, .inr hp1, rfl, h2, h1⟩
theorem Row.uniq {u d : Nat} {ps : List ((Nat × Nat) × (Nat × Nat))} {r1 r2 : List Nat} (h1 : Row u d ps r1) (h2 : Row u d ps r2) (hp : (ends ps).Perm (ring u d)) : r1 = r2 := by
  apply List.ext_getElem?
  intro i
  by_cases hi : i < u + d
  · obtain ⟨a, b, hm, hi2, e, _⟩ := h1.get hp hi
    rcases hm with hm | hm
    · have := (h2.at_ _ hm).1; rw [hi2] at this; rw [e, this]
    · have := (h2.at_ _ hm).2; rw [hi2] at this; rw [e, this]
  · rw [List.getElem?_eq_none (by have := h1.len; omega), List.getElem?_eq_none (by have := h2.len; omega)]
theorem Row.mat {u d : Nat} {ps : List ((Nat × Nat) × (Nat × Nat))} {row : List Nat} (h : Row u d ps row) (hc : NCP (ring u d) ps) (h0 : 0 < u + d) : IsMat u d row := by
  have hp := hc.ends
  have hn := hp.nodup_iff.mpr (ring_nodup u d)
  refine ⟨h0, h.len, fun i j e => ?_, ?_⟩
  · have hi : i < u + d := by have := (List.getElem?_eq_some_iff.mp e).1; have := h.len; omega
    obtain ⟨a, b, hm, rfl, e1, e2⟩ := h.get hp hi
    rw [e] at e1
    cases e1
    have ha : a ∈ ring u d := hp.mem_iff.mp (mem_ends.mpr (by rcases hm with h | h; exact ⟨_, h, .inl rfl⟩; exact ⟨_, h, .inr rfl⟩))
    have hb : b ∈ ring u d := hp.mem_iff.mp (mem_ends.mpr (by rcases hm with h | h; exact ⟨_, h, .inr rfl⟩; exact ⟨_, h, .inl rfl⟩))
    refine ⟨idx_lt hb, fun e => ?_, e2⟩
    have := map_inj (ring_map_nodup u d) hb ha e
    subst this
    rcases hm with h | h <;> exact ends_ne hn _ h rfl
  · rw [← ring_idx]
    refine NCP.nc (hc.map (idx u)) fun q hq => ?_
    obtain ⟨p, hp1, rfl⟩ := List.mem_map.mp hq
    obtain ⟨h1, h2⟩ := h.at_ p hp1
    simp only [List.getD_eq_getElem?_getD, h1, h2]
    exact ⟨rfl, rfl⟩
/-- the strings, written into a row -/
def madeL (u : Nat) (ps : List ((Nat × Nat) × (Nat × Nat))) (row : List Nat) : List Nat := ps.foldl (fun row p => (row.set (idx u p.1) (idx u p.2)).set (idx u p.2) (idx u p.1)) row
theorem madeL_spec {u : Nat} : ∀ {ps : List ((Nat × Nat) × (Nat × Nat))} {row : List Nat}, ((ends ps).map (idx u)).Nodup → (∀ i ∈ (ends ps).map (idx u), i < row.length) →
    (madeL u ps row).length = row.length ∧ (∀ p ∈ ps, (madeL u ps row)[idx u p.1]? = some (idx u p.2) ∧ (madeL u ps row)[idx u p.2]? = some (idx u p.1)) ∧ ∀ i, i ∉ (ends ps).map (idx u) → (madeL u ps row)[i]? = row[i]?
  | [], row, _, _ => ⟨rfl, (by simp), fun i _ => rfl⟩
  | q :: ps, row, hn, hl => by
    have hn' : (idx u q.1 :: idx u q.2 :: (ends ps).map (idx u)).Nodup := hn
    have hl' : ∀ i ∈ (idx u q.1 :: idx u q.2 :: (ends ps).map (idx u)), i < row.length := hl
    simp only [List.nodup_cons, List.mem_cons, not_or] at hn'
    obtain ⟨⟨h1, h2⟩, h3, h4⟩ := hn'
    have l1 := hl' (idx u q.1) (by simp)
    have l2 := hl' (idx u q.2) (by simp)
    obtain ⟨e1, e2, e3⟩ := madeL_spec (u := u) (ps := ps) (row := (row.set (idx u q.1) (idx u q.2)).set (idx u q.2) (idx u q.1)) h4 (by
      intro i hi
      rw [List.length_set, List.length_set]
      exact hl' i (by simp [hi]))
    refine ⟨by simpa [madeL] using e1, fun p hp => ?_, fun i hi => ?_⟩
    · rcases List.mem_cons.mp hp with rfl | hp
      · refine ⟨?_, ?_⟩
        · show (madeL u ps _)[_]? = _
          rw [e3 _ h2, List.getElem?_set_ne (by omega), List.getElem?_set_self (by omega)]
        · show (madeL u ps _)[_]? = _
          rw [e3 _ h3, List.getElem?_set_self (by rw [List.length_set]; omega)]
      · exact e2 p hp
    · have hi' : i ∉ (idx u q.1 :: idx u q.2 :: (ends ps).map (idx u)) := hi
      simp only [List.mem_cons, not_or] at hi'
      show (madeL u ps _)[_]? = _
      rw [e3 _ hi'.2.2, List.getElem?_set_ne (by omega), List.getElem?_set_ne (by omega)]
theorem madeL_row {u d : Nat} {ps : List ((Nat × Nat) × (Nat × Nat))} (hp : (ends ps).Perm (ring u d)) : Row u d ps (madeL u ps (List.replicate (u + d) 0)) := by
  have hm := hp.map (idx u)
  obtain ⟨e1, e2, _⟩ := madeL_spec (u := u) (ps := ps) (row := List.replicate (u + d) 0) (hm.nodup_iff.mpr (ring_map_nodup u d)) (by
    intro i hi
    rw [List.length_replicate]
    have := hm.mem_iff.mp hi
    rw [ring_idx] at this
    exact mem_roundL.mp this)
  exact ⟨by rw [e1, List.length_replicate], e2⟩
/-- a row whose pegs are placed anew -/
theorem Row.remade {u d u' d' : Nat} {ps : List ((Nat × Nat) × (Nat × Nat))} {row new : List Nat} {place : Nat → Nat} {φ : Nat × Nat → Nat × Nat} (h : Row u d ps row) (hc : (ends ps).Perm (ring u d)) (hl : new.length = u' + d')
    (hn : ∀ i j, row[i]? = some j → new[place i]? = some (place j)) (hφ : ∀ s ∈ ring u d, place (idx u s) = idx u' (φ s)) : Row u' d' (ps.map fun p => (φ p.1, φ p.2)) new := by
  refine ⟨hl, fun q hq => ?_⟩
  obtain ⟨p, hp, rfl⟩ := List.mem_map.mp hq
  obtain ⟨h1, h2⟩ := h.at_ p hp
  have m1 := hφ p.1 (hc.mem_iff.mp (mem_ends.mpr ⟨p, hp, .inl rfl⟩))
  have m2 := hφ p.2 (hc.mem_iff.mp (mem_ends.mpr ⟨p, hp, .inr rfl⟩))
  have n1 := hn _ _ h1
  have n2 := hn _ _ h2
  rw [m1, m2] at n1 n2
  exact ⟨n1, n2⟩
def flipS (s : Nat × Nat) : Nat × Nat := (1 - s.1, s.2)
def sideS (u d : Nat) (s : Nat × Nat) : Nat × Nat := (s.1, (if s.1 = 0 then u else d) - 1 - s.2)
theorem range_rev (n : Nat) : (List.range n).map (fun i => n - 1 - i) = (List.range n).reverse := by
  apply List.ext_getElem
  · simp
  · intro i h1 h2
    simp at h1
    simp
/-! the strings of a mat by draws -/
theorem nested {α : Type} (z : α) : ∀ (k : Nat) (R : List α), R.length = 2 * k → NCP R ((List.range k).map fun i => (R.getD i z, R.getD (R.length - 1 - i) z))
  | 0, R, h => by
    have : R = [] := List.eq_nil_of_length_eq_zero (by omega)
    subst this
    exact .nil
  | k + 1, R, h => by
    match R, h with
    | a :: R1, h =>
      have hne : R1 ≠ [] := by intro e; subst e; simp at h; omega
      obtain ⟨m, b, rfl⟩ : ∃ m b, R1 = m ++ [b] := ⟨R1.dropLast, R1.getLast hne, (List.dropLast_concat_getLast hne).symm⟩
      have hm : m.length = 2 * k := by simp at h; omega
      have ih := (nested z k m hm).wrap (a := a) (b := b)
      rw [List.range_succ_eq_map, List.map_cons, List.map_map]
      have e1 : (a :: (m ++ [b])).length - 1 - 0 = m.length + 1 := by simp
      rw [e1]
      have e2 : (a :: (m ++ [b])).getD (m.length + 1) z = b := by simp
      rw [e2]
      have e3 : (List.range k).map ((fun i => ((a :: (m ++ [b])).getD i z, (a :: (m ++ [b])).getD ((a :: (m ++ [b])).length - 1 - i) z)) ∘ Nat.succ) = (List.range k).map fun i => (m.getD i z, m.getD (m.length - 1 - i) z) := by
        apply List.map_congr_left
        intro i hi
        have hi := List.mem_range.mp hi
        have e4 : (a :: (m ++ [b])).length - 1 - (i + 1) = (m.length - 1 - i) + 1 := by simp; omega
        simp only [Function.comp_apply, Nat.succ_eq_add_one]
        rw [e4]
        simp only [List.getD_cons_succ]
        rw [List.getD_eq_getElem?_getD, List.getD_eq_getElem?_getD, List.getElem?_append_left (by omega), List.getElem?_append_left (by omega), ← List.getD_eq_getElem?_getD, ← List.getD_eq_getElem?_getD]
      rw [e3]
      exact ih
end VS
set_option Elab.async false
set_option linter.all false
namespace VS
/-! ### round about: places on the ring -/
def ringAt (u d p : Nat) : Nat × Nat := if p < u then (0, p) else (1, u + d - 1 - p)
def posOf (u d : Nat) (s : Nat × Nat) : Nat := if s.1 = 0 then s.2 else u + d - 1 - s.2
/-- one back, round about -/
def prevP (n p : Nat) : Nat := if p = 0 then n - 1 else p - 1
def prevS (u d : Nat) (s : Nat × Nat) : Nat × Nat := ringAt u d (prevP (u + d) (posOf u d s))
/-- k back -/
def backP (n k p : Nat) : Nat := if k ≤ p then p - k else p + n - k
def backS (u d k : Nat) (s : Nat × Nat) : Nat × Nat := ringAt u d (backP (u + d) k (posOf u d s))
end VS
set_option Elab.async false
set_option linter.all false
namespace VS
/-! ### one mat beside another: strings put in at a place round about -/
inductive NC0 {α : Type} : List α → List (α × α) → Prop
  | nil : NC0 [] []
  | cons {l r : List α} {a b : α} {ps : List (α × α)} : NC0 (l ++ r) ps → NC0 (l ++ a :: b :: r) ((a, b) :: ps)
  | conr {l r : List α} {a b : α} {ps : List (α × α)} : NC0 (l ++ r) ps → NC0 (l ++ b :: a :: r) ((a, b) :: ps)
  | perm {R : List α} {ps qs : List (α × α)} : NC0 R ps → ps.Perm qs → NC0 R qs
theorem NC0.wrap {α : Type} {R : List α} {ps : List (α × α)} (h : NC0 R ps) (x b : α) : NC0 (b :: (R ++ [x])) ((x, b) :: ps) ∧ NC0 (b :: (R ++ [x])) ((b, x) :: ps) := by
  induction h with
  | nil => exact ⟨NC0.conr (l := []) (r := []) .nil, NC0.cons (l := []) (r := []) .nil⟩
  | @cons l r a c ps _ ih =>
    refine ⟨?_, ?_⟩
    · have := NC0.cons (l := b :: l) (r := r ++ [x]) (a := a) (b := c) (ps := (x, b) :: ps) (by simpa using ih.1)
      exact (by simpa using this : NC0 (b :: (l ++ a :: c :: r ++ [x])) ((a, c) :: (x, b) :: ps)).perm (List.Perm.swap _ _ _)
    · have := NC0.cons (l := b :: l) (r := r ++ [x]) (a := a) (b := c) (ps := (b, x) :: ps) (by simpa using ih.2)
      exact (by simpa using this : NC0 (b :: (l ++ a :: c :: r ++ [x])) ((a, c) :: (b, x) :: ps)).perm (List.Perm.swap _ _ _)
  | @conr l r a c ps _ ih =>
    refine ⟨?_, ?_⟩
    · have := NC0.conr (l := b :: l) (r := r ++ [x]) (a := a) (b := c) (ps := (x, b) :: ps) (by simpa using ih.1)
      exact (by simpa using this : NC0 (b :: (l ++ c :: a :: r ++ [x])) ((a, c) :: (x, b) :: ps)).perm (List.Perm.swap _ _ _)
    · have := NC0.conr (l := b :: l) (r := r ++ [x]) (a := a) (b := c) (ps := (b, x) :: ps) (by simpa using ih.2)
      exact (by simpa using this : NC0 (b :: (l ++ c :: a :: r ++ [x])) ((a, c) :: (b, x) :: ps)).perm (List.Perm.swap _ _ _)
  | perm _ hp ih => exact ⟨ih.1.perm (hp.cons _), ih.2.perm (hp.cons _)⟩
theorem NC0.rot1 {α : Type} {L : List α} {ps : List (α × α)} (h : NC0 L ps) : ∀ {x : α} {R : List α}, x :: R = L → NC0 (R ++ [x]) ps := by
  induction h with
  | nil => intro x R e; cases e
  | @cons l r a c ps hh ih =>
    intro x R e
    cases l with
    | nil =>
      simp only [List.nil_append, List.cons.injEq] at e
      obtain ⟨rfl, rfl⟩ := e
      simpa using (hh.wrap x c).1
    | cons y l =>
      simp only [List.cons_append, List.cons.injEq] at e
      obtain ⟨rfl, rfl⟩ := e
      have := NC0.cons (l := l) (r := r ++ [x]) (a := a) (b := c) (by simpa using ih (x := x) (R := l ++ r) rfl)
      simpa using this
  | @conr l r a c ps hh ih =>
    intro x R e
    cases l with
    | nil =>
      simp only [List.nil_append, List.cons.injEq] at e
      obtain ⟨rfl, rfl⟩ := e
      simpa using (hh.wrap x a).2
    | cons y l =>
      simp only [List.cons_append, List.cons.injEq] at e
      obtain ⟨rfl, rfl⟩ := e
      have := NC0.conr (l := l) (r := r ++ [x]) (a := a) (b := c) (by simpa using ih (x := x) (R := l ++ r) rfl)
      simpa using this
  | perm _ hp ih => intro x R e; exact (ih e).perm hp
theorem NC0.rot {α : Type} {ps : List (α × α)} : ∀ {l r : List α}, NC0 (l ++ r) ps → NC0 (r ++ l) ps
  | [], r, h => by simpa using h
  | x :: l, r, h => by
    have h1 : NC0 (l ++ (r ++ [x])) ps := by simpa using NC0.rot1 h (x := x) (R := l ++ r) rfl
    simpa using NC0.rot (l := l) (r := r ++ [x]) h1
end VS
set_option Elab.async false
set_option linter.all false
namespace VS
abbrev Strs := List ((Nat × Nat) × (Nat × Nat))
def mapP (φ : Nat × Nat → Nat × Nat) (ps : Strs) : Strs := ps.map fun p => (φ p.1, φ p.2)
def moveS (u d : Nat) (s : Nat × Nat) : Nat × Nat := (s.1, s.2 + if s.1 = 0 then u else d)
def alongP (u d : Nat) (ps qs : Strs) : Strs := ps ++ mapP (moveS u d) qs
theorem Row.perm {u d : Nat} {ps qs : Strs} {row : List Nat} (h : Row u d ps row) (hp : ps.Perm qs) : Row u d qs row := ⟨h.len, fun p hq => h.at_ p (hp.mem_iff.mpr hq)⟩
/-! how many go through -/
def crossP (ps : Strs) : Nat := (ps.filter fun p => decide (p.1.1 ≠ p.2.1)).length
theorem idx_top {u d : Nat} {s : Nat × Nat} (h : s ∈ ring u d) : u ≤ idx u s ↔ s.1 = 1 := by
  obtain ⟨a, b⟩ := s
  rcases mem_ring.mp h with ⟨h1, h2⟩ | ⟨h1, h2⟩ <;> simp only at h1 h2 <;> subst h1 <;> simp [idx] <;> omega
theorem Row.through {u d : Nat} {ps : Strs} {row : List Nat} (h : Row u d ps row) (hp : (ends ps).Perm (ring u d)) : ((row.take u).filter fun x => decide (u ≤ x)).length = crossP ps := by
  have e1 : row.take u = (List.range u).map fun i => row.getD i 0 := by
    apply List.ext_getElem?
    intro i
    by_cases hi : i < u
    · rw [List.getElem?_take_of_lt hi, List.getElem?_map, List.getElem?_range hi]
      have := h.len
      simp [List.getD_eq_getElem?_getD, List.getElem?_eq_getElem (show i < row.length by omega)]
    · rw [List.getElem?_eq_none (by rw [List.length_take]; omega), List.getElem?_eq_none (by simp; omega)]
  let c : Nat × Nat → Bool := fun s => decide (s.1 = 0 ∧ u ≤ row.getD (idx u s) 0)
  have e2 : ((row.take u).filter fun x => decide (u ≤ x)).length = (ring u d).countP c := by
    rw [← List.countP_eq_length_filter, e1, List.countP_map]
    unfold ring
    rw [List.countP_append, List.countP_map, List.countP_map]
    have z : List.countP (c ∘ fun i => (1, i)) (List.range d).reverse = 0 := by
      rw [List.countP_eq_zero]
      intro i _
      simp [c]
    rw [z, Nat.add_zero]
    apply List.countP_congr
    intro i _
    simp [c, idx]
  rw [e2, ← hp.countP_eq]
  have key : ∀ qs : Strs, (∀ p ∈ qs, p ∈ ps) → (ends qs).countP c = crossP qs := by
    intro qs
    induction qs with
    | nil => intro _; rfl
    | cons p qs ih =>
      intro hq
      have m := hq p (by simp)
      have i1 := hp.mem_iff.mp (mem_ends.mpr ⟨p, m, .inl rfl⟩)
      have i2 := hp.mem_iff.mp (mem_ends.mpr ⟨p, m, .inr rfl⟩)
      obtain ⟨r1, r2⟩ := h.at_ p m
      show List.countP c (p.1 :: p.2 :: ends qs) = _
      rw [List.countP_cons, List.countP_cons, ih fun q hq' => hq q (by simp [hq'])]
      have c1 : c p.1 = decide (p.1.1 = 0 ∧ p.2.1 = 1) := by
        simp only [c, List.getD_eq_getElem?_getD, r1, Option.getD_some, idx_top i2]
      have c2 : c p.2 = decide (p.2.1 = 0 ∧ p.1.1 = 1) := by
        simp only [c, List.getD_eq_getElem?_getD, r2, Option.getD_some, idx_top i1]
      rw [c1, c2]
      unfold crossP
      rw [List.filter_cons]
      obtain ⟨⟨a, b⟩, e, f⟩ := p
      have j1 := mem_ring.mp i1
      have j2 := mem_ring.mp i2
      simp only at j1 j2
      clear r1 r2 c1 c2 m i1 i2 hq
      rcases j1 with ⟨rfl, _⟩ | ⟨rfl, _⟩ <;> rcases j2 with ⟨rfl, _⟩ | ⟨rfl, _⟩ <;> simp
  exact key ps fun p hp => hp
/-! straight mats and hooks -/
def strP (n : Nat) : Strs := (List.range n).map fun i => ((0, i), (1, i))
def strL (n : Nat) : List Nat := ((List.range n).map fun i => n + i) ++ List.range n
def hkP : Strs := [((0, 0), (0, 1)), ((1, 0), (1, 1))]
def hookP (i r : Nat) : Strs := alongP i i (strP i) (alongP 2 2 hkP (strP r))
def hookL (n i : Nat) : List Nat := ((((strL n).set i (i + 1)).set (i + 1) i).set (n + i) (n + i + 1)).set (n + i + 1) (n + i)
/-- the places of beside -/
def besL (u d k j : Nat) : List Nat := List.range u ++ ((List.range d).map fun i => u + k + i) ++ ((List.range k).map fun i => u + i) ++ ((List.range j).map fun i => u + k + d + i)
theorem besL_get {u d k j i : Nat} (h : i < u + k + (d + j)) : (besL u d k j).getD i 0 = if i < u then i else if i < u + d then i + k else if i < u + d + k then i - d else i := by
  rw [List.getD_eq_getElem?_getD]
  unfold besL
  by_cases h1 : i < u
  · rw [if_pos h1, List.append_assoc, List.append_assoc, List.getElem?_append_left (by simpa using h1)]
    simp [h1]
  · rw [if_neg h1]
    by_cases h2 : i < u + d
    · rw [if_pos h2, List.append_assoc, List.append_assoc, List.getElem?_append_right (by simp; omega), List.getElem?_append_left (by simp; omega)]
      simp only [List.length_range, List.getElem?_map]
      rw [List.getElem?_range (by omega)]
      simp; omega
    · rw [if_neg h2]
      by_cases h3 : i < u + d + k
      · rw [if_pos h3, List.append_assoc, List.getElem?_append_right (by simp; omega), List.getElem?_append_left (by simp; omega)]
        simp only [List.length_range, List.length_append, List.length_map, List.getElem?_map]
        rw [List.getElem?_range (by omega)]
        simp; omega
      · rw [if_neg h3, List.getElem?_append_right (by simp; omega)]
        simp only [List.length_range, List.length_append, List.length_map, List.getElem?_map]
        rw [List.getElem?_range (by omega)]
        simp; omega
theorem besL_top {u d k j : Nat} {s : Nat × Nat} (h : s ∈ ring u d) : (besL u d k j).getD (idx u s) 0 = idx (u + k) s := by
  rw [besL_get (by have := idx_lt h; omega)]
  obtain ⟨a, b⟩ := s
  rcases mem_ring.mp h with ⟨h1, h2⟩ | ⟨h1, h2⟩ <;> simp only at h1 h2 <;> subst h1 <;> simp [idx] <;> (repeat' split) <;> omega
theorem besL_bot {u d k j : Nat} {s : Nat × Nat} (h : s ∈ ring k j) : (besL u d k j).getD (u + d + idx k s) 0 = idx (u + k) (moveS u d s) := by
  rw [besL_get (by have := idx_lt h; omega)]
  obtain ⟨a, b⟩ := s
  rcases mem_ring.mp h with ⟨h1, h2⟩ | ⟨h1, h2⟩ <;> simp only at h1 h2 <;> subst h1 <;> simp [idx, moveS] <;> (repeat' split) <;> omega
theorem Row.beside {u d k j : Nat} {ps qs : Strs} {r1 r2 new : List Nat} (h1 : Row u d ps r1) (h2 : Row k j qs r2) (c1 : (ends ps).Perm (ring u d)) (c2 : (ends qs).Perm (ring k j)) (hl : new.length = u + k + (d + j))
    (hn : ∀ i x : Nat, (r1 ++ r2.map (u + d + ·))[i]? = some x → new[(besL u d k j).getD i 0]? = some ((besL u d k j).getD x 0)) : Row (u + k) (d + j) (alongP u d ps qs) new := by
  refine ⟨hl, fun q hq => ?_⟩
  unfold alongP mapP at hq
  rw [List.mem_append] at hq
  rcases hq with hq | hq
  · obtain ⟨e1, e2⟩ := h1.at_ q hq
    have i1 := c1.mem_iff.mp (mem_ends.mpr ⟨q, hq, .inl rfl⟩)
    have i2 := c1.mem_iff.mp (mem_ends.mpr ⟨q, hq, .inr rfl⟩)
    have l1 := idx_lt i1
    have l2 := idx_lt i2
    have hl1 := h1.len
    have n1 := hn (idx u q.1) (idx u q.2) (by rw [List.getElem?_append_left (by omega)]; exact e1)
    have n2 := hn (idx u q.2) (idx u q.1) (by rw [List.getElem?_append_left (by omega)]; exact e2)
    rw [besL_top i1, besL_top i2] at n1 n2
    exact ⟨n1, n2⟩
  · obtain ⟨p, hp, rfl⟩ := List.mem_map.mp hq
    obtain ⟨e1, e2⟩ := h2.at_ p hp
    have i1 := c2.mem_iff.mp (mem_ends.mpr ⟨p, hp, .inl rfl⟩)
    have i2 := c2.mem_iff.mp (mem_ends.mpr ⟨p, hp, .inr rfl⟩)
    have hl1 := h1.len
    have n1 := hn (u + d + idx k p.1) (u + d + idx k p.2) (by rw [List.getElem?_append_right (by omega), hl1, Nat.add_sub_cancel_left, List.getElem?_map, e1]; rfl)
    have n2 := hn (u + d + idx k p.2) (u + d + idx k p.1) (by rw [List.getElem?_append_right (by omega), hl1, Nat.add_sub_cancel_left, List.getElem?_map, e2]; rfl)
    rw [besL_bot i1, besL_bot i2] at n1 n2
    exact ⟨n1, n2⟩
end VS
set_option Elab.async false
set_option linter.all false
namespace VS
/-! ### strings by their places round about -/
def roundAt (n N p : Nat) : Nat := if p < n then p else n + (N - 1 - p)
theorem idx_ringAt {n m p : Nat} (h : p < n + m) : idx n (ringAt n m p) = roundAt n (n + m) p := by
  unfold ringAt roundAt
  split
  · simp [idx]
  · simp [idx]
abbrev Prs := List (Nat × Nat)
def spotP (n m : Nat) (qs : Prs) : List ((Nat × Nat) × (Nat × Nat)) := qs.map fun q => (ringAt n m q.1, ringAt n m q.2)
theorem pr_lt {N : Nat} {qs : Prs} (h : (ends qs).Perm (List.range N)) {q : Nat × Nat} (hq : q ∈ qs) : q.1 < N ∧ q.2 < N :=
  ⟨List.mem_range.mp (h.mem_iff.mp (mem_ends.mpr ⟨q, hq, .inl rfl⟩)), List.mem_range.mp (h.mem_iff.mp (mem_ends.mpr ⟨q, hq, .inr rfl⟩))⟩
/-- a row by places -/
theorem spot_row {n m : Nat} {qs : Prs} {row : List Nat} (h : (ends qs).Perm (List.range (n + m))) (hl : row.length = n + m)
    (ha : ∀ q ∈ qs, row[roundAt n (n + m) q.1]? = some (roundAt n (n + m) q.2) ∧ row[roundAt n (n + m) q.2]? = some (roundAt n (n + m) q.1)) : Row n m (spotP n m qs) row := by
  refine ⟨hl, fun p hp => ?_⟩
  obtain ⟨q, hq, rfl⟩ := List.mem_map.mp hp
  obtain ⟨l1, l2⟩ := pr_lt h hq
  simp only
  rw [idx_ringAt l1, idx_ringAt l2]
  exact ha q hq
/-- the mates of the places -/
structure Pls (N : Nat) (qs : Prs) (pl : List Nat) : Prop where
  len : pl.length = N
  at_ : ∀ q ∈ qs, pl[q.1]? = some q.2 ∧ pl[q.2]? = some q.1
theorem Pls.get {N : Nat} {qs : Prs} {pl : List Nat} (h : Pls N qs pl) (hp : (ends qs).Perm (List.range N)) {i : Nat} (hi : i < N) :
    ∃ j, pl[i]? = some j ∧ j < N ∧ ((i, j) ∈ qs ∨ (j, i) ∈ qs) := by
  obtain ⟨q, hq, e⟩ := mem_ends.mp (hp.mem_iff.mpr (List.mem_range.mpr hi))
  obtain ⟨l1, l2⟩ := pr_lt hp hq
  obtain ⟨h1, h2⟩ := h.at_ q hq
  rcases e with rfl | rfl
  · exact ⟨q.2, h1, l2, .inl hq⟩
  · exact ⟨q.1, h2, l1, .inr hq⟩
/-- a row of mates in the places' order -/
theorem Pls.row {n m : Nat} {qs : Prs} {pl row : List Nat} (h : Pls (n + m) qs pl) (hp : (ends qs).Perm (List.range (n + m))) (hl : row.length = n + m)
    (hr : ∀ p j : Nat, pl[p]? = some j → row[roundAt n (n + m) p]? = some (roundAt n (n + m) j)) : Row n m (spotP n m qs) row :=
  spot_row hp hl fun q hq => ⟨hr _ _ (h.at_ q hq).1, hr _ _ (h.at_ q hq).2⟩
/-- the places of bent -/
def benL (n m k : Nat) : List Nat := List.range n ++ ((List.range (m - k)).map fun i => n + k + i) ++ ((List.range k).map fun i => n + m - 1 - (m - k + i))
/-! ### round about each peg opens a string or ends the one opened last -/
structure Open (N i : Nat) (S : List Nat) (qs : Prs) : Prop where
  few : S.length ≤ N - i
  even : 2 ∣ N - i - S.length
  perm : (S ++ ends qs).Perm (List.range i)
  nc : ∀ (rest : List Nat) (ps : Prs), NCP (S ++ rest) ps → NCP (List.range i ++ rest) (qs ++ ps)
theorem Open.start {N : Nat} (h : 2 ∣ N) : Open N 0 [] [] := ⟨by simp, by simpa using h, by simp [ends], fun rest ps h => by simpa using h⟩
theorem Open.push {N i : Nat} {S : List Nat} {qs : Prs} (h : Open N i S qs) (hi : i < N) (hs : S = [] ∨ S.length < N - i) : Open N (i + 1) (S ++ [i]) qs := by
  have f := h.few
  have e := h.even
  have hl : S.length + 2 ≤ N - i := by
    rcases hs with rfl | hs
    · simp at e; simp; omega
    · omega
  refine ⟨by simp; omega, by simp; omega, ?_, fun rest ps hn => ?_⟩
  · rw [List.range_succ]
    refine List.Perm.trans ?_ (h.perm.append_right [i])
    rw [List.append_assoc, List.append_assoc]
    exact List.Perm.append_left _ List.perm_append_comm
  · rw [List.range_succ, List.append_assoc]
    exact h.nc _ _ (by simpa using hn)
theorem Open.pop {N i t : Nat} {S : List Nat} {qs : Prs} (h : Open N i (S ++ [t]) qs) (hi : i < N) : Open N (i + 1) S (qs ++ [(t, i)]) := by
  have f := h.few
  have e := h.even
  simp at f e
  refine ⟨by omega, by omega, ?_, fun rest ps hn => ?_⟩
  · rw [List.range_succ]
    refine List.Perm.trans ?_ (h.perm.append_right [i])
    have : ends (qs ++ [(t, i)]) = ends qs ++ [t, i] := by simp [ends]
    rw [this, List.append_assoc, List.append_assoc]
    refine List.Perm.append_left _ ?_
    have : ends qs ++ [t, i] = (ends qs ++ [t]) ++ [i] := by simp
    rw [this, ← List.append_assoc]
    exact List.perm_append_comm.append_right _
  · have := h.nc (i :: rest) ((t, i) :: ps) (by
      have := NCP.cons (l := S) (r := rest) (a := t) (b := i) hn
      simpa using this)
    rw [List.range_succ]
    simpa using this
theorem Open.lt {N i : Nat} {S : List Nat} {qs : Prs} (h : Open N i S qs) {x : Nat} (hx : x ∈ S) : x < i := List.mem_range.mp (h.perm.mem_iff.mp (by simp [hx]))
theorem Open.dis {N i : Nat} {S : List Nat} {qs : Prs} (h : Open N i S qs) {x : Nat} (hx : x ∈ S) : x ∉ ends qs := by
  have hn := h.perm.nodup_iff.mpr List.nodup_range
  rw [List.nodup_append] at hn
  intro hm
  exact hn.2.2 x hx x hm rfl
end VS
set_option Elab.async false
set_option linter.all false
namespace VS
/-! ### ways to choose -/
def ch : Nat → Nat → Nat
  | _, 0 => 1
  | 0, _ + 1 => 0
  | n + 1, k + 1 => ch n k + ch n (k + 1)
def ff (n : Nat) : Nat → Nat
  | 0 => 1
  | k + 1 => ff n k * (n - k)
def fac : Nat → Nat
  | 0 => 1
  | n + 1 => fac n * (n + 1)
/-- half mats: f falls of n -/
def bal (n f : Nat) : Nat := ch n f - (if f = 0 then 0 else ch n (f - 1))
/-! sums over k -/
def bq (n f : Nat) : Nat := ff n f / fac f - (if f = 0 then 0 else ff n (f - 1) / fac (f - 1))
def sq1 (n : Nat) : Nat → Nat
  | 0 => 0
  | t + 1 => sq1 n t + bq n (n / 2 - t) * bq n (n / 2 - t)
def sq2 (n : Nat) : Nat → Nat
  | 0 => 0
  | t + 1 => sq2 n t + bq n (n / 2 - t) * (n % 2 + 2 * t + 1)
def sqOk (n : Nat) : Bool := sq1 n (n / 2 + 1) == ff (2 * n) n / fac n / (n + 1) && sq2 n (n / 2 + 1) == 2 ^ n
end VS
set_option Elab.async false
set_option linter.all false
namespace VS
/-! ### what a walk joins -/
def wk (st : List Int) : Nat → Prs × List Nat
  | 0 => ([], [])
  | i + 1 => if st.getD i 0 = 1 then ((wk st i).1, (wk st i).2 ++ [i]) else ((wk st i).1 ++ [((wk st i).2.getLastD 0, i)], (wk st i).2.dropLast)
structure Wk (st : List Int) (N i : Nat) (P : Prs) (W : List Nat) : Prop where
  len : (W.length : Int) = (st.take i).sum
  lt : ∀ j x : Nat, W[j]? = some x → x < i ∧ (st.take x).sum = j ∧ ∀ r, x < r → r ≤ i → (j : Int) < (st.take r).sum
  pr : ∀ q ∈ P, q.1 < q.2 ∧ st[q.1]? = some 1 ∧ st[q.2]? = some (-1)
  up : ∀ x ∈ W, st[x]? = some 1
  opn : Open N i W P
section
variable {st : List Int} {k : Nat}
theorem Wk.sorted {N i : Nat} {P : Prs} {W : List Nat} (h : Wk st N i P W) : W.Pairwise (· < ·) := by
  rw [List.pairwise_iff_getElem]
  intro a b ha hb hab
  obtain ⟨x1, x2, x3⟩ := h.lt a W[a] (List.getElem?_eq_getElem ha)
  obtain ⟨y1, y2, y3⟩ := h.lt b W[b] (List.getElem?_eq_getElem hb)
  by_cases e : W[a] < W[b]
  · exact e
  · by_cases e2 : W[a] = W[b]
    · rw [e2] at x2; omega
    · have := y3 W[a] (by omega) (by omega)
      omega
theorem sorted_eq {a b : List Nat} (ha : a.Pairwise (· < ·)) (hb : b.Pairwise (· < ·)) (h : ∀ x, x ∈ a ↔ x ∈ b) : a = b := by
  have na : a.Nodup := List.Pairwise.imp (fun h => by omega) ha
  have nb : b.Nodup := List.Pairwise.imp (fun h => by omega) hb
  exact List.Perm.eq_of_pairwise (fun x y _ _ h1 h2 => by omega) ha hb ((List.perm_ext_iff_of_nodup na nb).mpr h)
/-! ### the half mat of a walk -/
def halfS (P : Prs) (W : List Nat) : List ((Nat × Nat) × (Nat × Nat)) := P.map (fun q => ((0, q.1), (0, q.2))) ++ (List.range W.length).map fun a => ((0, W.getD a 0), (1, a))
def halfL (n k : Nat) (P : Prs) (W : List Nat) : List Nat := madeL n (halfS P W) (List.replicate (n + k) 0)
structure HalfOk (st : List Int) (k : Nat) (row : List Nat) : Prop where
  mat : 0 < st.length + k → IsMat st.length k row
  len : row.length = st.length + k
  up : ∀ p, p < st.length → ∃ m, row[p]? = some m ∧ st[p]? = some (if p < m then 1 else -1)
  dn : ∀ a, a < k → ∃ m, row[st.length + a]? = some m ∧ m < st.length
end
end VS
set_option Elab.async false
set_option linter.all false
namespace VS
/-! ### the upper half of a mat, by its strings -/
section
variable {α : Type} (q : α → Bool)
def keptQ (ps : List (α × α)) : List (α × α) := ps.filter fun p => q p.1 && q p.2
def thruQ (ps : List (α × α)) : List (α × α) := (ps.filter fun p => q p.1 != q p.2).map fun p => if q p.1 = true then p else (p.2, p.1)
theorem keptQ_cons (p : α × α) (ps : List (α × α)) : keptQ q (p :: ps) = if (q p.1 && q p.2) = true then p :: keptQ q ps else keptQ q ps := by
  unfold keptQ; rw [List.filter_cons]
theorem thruQ_cons (p : α × α) (ps : List (α × α)) : thruQ q (p :: ps) = if (q p.1 != q p.2) = true then (if q p.1 = true then p else (p.2, p.1)) :: thruQ q ps else thruQ q ps := by
  unfold thruQ; rw [List.filter_cons]; split <;> rfl
variable {q}
def UpQ (q : α → Bool) (ps : List (α × α)) (A B : List α) : Prop :=
  ∃ W V : List α, W.Sublist A ∧ V.Sublist B ∧ W.length = V.length ∧ (thruQ q ps).Perm (W.zip V.reverse) ∧ ∀ C : List α, C.length = W.length → NC0 (A ++ C) (keptQ q ps ++ W.zip C.reverse)
theorem UpQ.top {ps : List (α × α)} {l r B : List α} {a b : α} {s : α × α} (h : UpQ q ps (l ++ r) B) (hs : s = (a, b) ∨ s = (b, a)) (ha : q a = true) (hb : q b = true) : UpQ q (s :: ps) (l ++ a :: b :: r) B := by
  obtain ⟨W, V, h1, h2, h3, h4, h5⟩ := h
  have k1 : keptQ q (s :: ps) = s :: keptQ q ps := by
    rw [keptQ_cons, if_pos (by rcases hs with rfl | rfl <;> simp [ha, hb])]
  have k2 : thruQ q (s :: ps) = thruQ q ps := by
    rw [thruQ_cons, if_neg (by rcases hs with rfl | rfl <;> simp [ha, hb])]
  refine ⟨W, V, h1.trans ?_, h2, h3, by rw [k2]; exact h4, fun C hC => ?_⟩
  · exact List.Sublist.append (List.Sublist.refl l) ((List.sublist_cons_self b r).trans (List.sublist_cons_self a (b :: r)))
  · rw [k1]
    have := h5 C hC
    rw [List.append_assoc] at this
    rw [List.append_assoc]
    rcases hs with rfl | rfl
    · exact NC0.cons this
    · exact NC0.conr this
end
end VS
set_option Elab.async false
set_option linter.all false
namespace VS
/-! ### the upper half of a mat -/
def qT (s : Nat × Nat) : Bool := decide (s.1 = 0)
def topE (ps : Strs) : List Nat := (thruQ qT ps).map fun p => p.1.2
def thrL (u : Nat) (ps : Strs) : List Nat := (List.range u).filter fun x => decide (x ∈ topE ps)
def strT (T : List Nat) : Strs := (List.range T.length).map fun i => ((0, T.getD i 0), (1, i))
def upS (u : Nat) (ps : Strs) : Strs := keptQ qT ps ++ strT (thrL u ps)
structure UpOk (u d : Nat) (ps : Strs) (T B : List Nat) : Prop where
  st : T.Pairwise (· < ·)
  sb : B.Pairwise (· < ·)
  lt : ∀ x ∈ T, x < u
  lb : ∀ x ∈ B, x < d
  len : T.length = B.length
  thr : (thruQ qT ps).Perm ((List.range T.length).map fun i => ((0, T.getD i 0), (1, B.getD i 0)))
  nc : NCP (ring u T.length) (keptQ qT ps ++ strT T)
section
variable {u d : Nat} {ps : Strs} {T B : List Nat}
theorem getD_map_range (T : List Nat) : (List.range T.length).map (fun i => T.getD i 0) = T := by
  apply List.ext_getElem?
  intro i
  by_cases hi : i < T.length
  · rw [List.getElem?_map, List.getElem?_range hi]; simp [hi]
  · rw [List.getElem?_eq_none (by simp; omega), List.getElem?_eq_none (by omega)]
theorem UpOk.perm (h : UpOk u d ps T B) : (topE ps).Perm T := by
  have := h.thr.map fun p => p.1.2
  rw [List.map_map] at this
  have e : (List.range T.length).map ((fun p : (Nat × Nat) × (Nat × Nat) => p.1.2) ∘ fun i => (((0 : Nat), T.getD i 0), ((1 : Nat), B.getD i 0))) = T := getD_map_range T
  rw [e] at this
  exact this
theorem UpOk.thrL (h : UpOk u d ps T B) : thrL u ps = T := by
  unfold VS.thrL
  refine sorted_eq (List.Pairwise.filter _ List.pairwise_lt_range) h.st fun x => ?_
  rw [List.mem_filter, List.mem_range, decide_eq_true_eq, h.perm.mem_iff]
  exact ⟨fun a => a.2, fun a => ⟨h.lt x a, a⟩⟩
theorem UpOk.upS (h : UpOk u d ps T B) : upS u ps = keptQ qT ps ++ strT T := by unfold VS.upS; rw [h.thrL]
/-! ends are above or below -/
def Cor (ps : Strs) : Prop := ∀ p ∈ ps, (p.1.1 = 0 ∨ p.1.1 = 1) ∧ (p.2.1 = 0 ∨ p.2.1 = 1)
theorem cor_of (h : (ends ps).Perm (ring u d)) : Cor ps := fun p hp => by
  have a := mem_ring.mp (h.mem_iff.mp (mem_ends.mpr ⟨p, hp, .inl rfl⟩))
  have b := mem_ring.mp (h.mem_iff.mp (mem_ends.mpr ⟨p, hp, .inr rfl⟩))
  exact ⟨by rcases a with a | a <;> simp [a.1], by rcases b with b | b <;> simp [b.1]⟩
/-! the mirror of left and right -/
def sideU (u d : Nat) (ps : Strs) : Strs := ps.map fun p => (sideS u d p.1, sideS u d p.2)
/-! above and below exchanged -/
def flipU (ps : Strs) : Strs := ps.map fun p => (flipS p.1, flipS p.2)
/-! ### how many go through -/
/-! ### the rows -/
theorem idx0 (u a : Nat) : idx u (0, a) = a := by simp [idx]
theorem idx1 (u a : Nat) : idx u (1, a) = u + a := by simp [idx]
theorem mem_kept {p : (Nat × Nat) × (Nat × Nat)} (h : p ∈ keptQ qT ps) : p ∈ ps ∧ p.1.1 = 0 ∧ p.2.1 = 0 := by
  obtain ⟨a, b⟩ := List.mem_filter.mp h
  simp only [Bool.and_eq_true] at b
  exact ⟨a, by simpa [qT] using b.1, by simpa [qT] using b.2⟩
theorem mem_thru {a b : Nat × Nat} (h : (a, b) ∈ thruQ qT ps) : (a, b) ∈ ps ∨ (b, a) ∈ ps := by
  obtain ⟨p, hp, e⟩ := List.mem_map.mp h
  have hp := (List.mem_filter.mp hp).1
  split at e
  · subst e; exact .inl hp
  · cases e; exact .inr hp
/-- what stands at a peg above: another peg above, of a string that is kept, or one below -/
theorem UpOk.at_ {row : List Nat} (h : UpOk u d ps T B) (hr : Row u d ps row) (hp : (ends ps).Perm (ring u d)) {p : Nat} (hlt : p < u) :
    (p ∉ T ∧ ∃ g, g < u ∧ row[p]? = some g ∧ (((0, p), (0, g)) ∈ keptQ qT ps ∨ ((0, g), (0, p)) ∈ keptQ qT ps)) ∨ ∃ j, j < T.length ∧ T.getD j 0 = p ∧ row[p]? = some (u + B.getD j 0) := by
  have hm : ((0 : Nat), p) ∈ ring u d := mem_ring.mpr (.inl ⟨rfl, hlt⟩)
  obtain ⟨q, hq, e⟩ := mem_ends.mp (hp.mem_iff.mpr hm)
  obtain ⟨r1, r2⟩ := hr.at_ q hq
  by_cases hk : q ∈ keptQ qT ps
  · obtain ⟨_, c1, c2⟩ := mem_kept hk
    left
    constructor
    · intro hT
      obtain ⟨j, hj, ej⟩ := List.mem_iff_getElem.mp hT
      have hz : (((0 : Nat), T.getD j 0), ((1 : Nat), B.getD j 0)) ∈ thruQ qT ps := h.thr.mem_iff.mpr (List.mem_map.mpr ⟨j, List.mem_range.mpr hj, rfl⟩)
      have eT : T.getD j 0 = p := by rw [List.getD_eq_getElem?_getD, List.getElem?_eq_getElem hj, ej]; rfl
      rw [eT] at hz
      have hn := hp.nodup_iff.mpr (ring_nodup u d)
      have hrow : row[p]? = some (u + B.getD j 0) := by
        rcases mem_thru hz with hz | hz
        · have := (hr.at_ _ hz).1; rwa [idx0, idx1] at this
        · have := (hr.at_ _ hz).2; rwa [idx0, idx1] at this
      have hring : ∀ s : Nat × Nat, s ∈ ends ps → s.1 = 0 → s.2 < u := fun s hs h0 => by
        rcases mem_ring.mp (hp.mem_iff.mp hs) with a | a
        · exact a.2
        · omega
      rcases e with e | e
      · have hb := hring q.2 (mem_ends.mpr ⟨q, hq, .inr rfl⟩) c2
        rw [← e, idx0, hrow] at r1
        have := Option.some.inj r1
        obtain ⟨⟨a, b⟩, ⟨c, f⟩⟩ := q
        simp only at c2 hb this
        subst c2
        rw [idx0] at this
        omega
      · have hb := hring q.1 (mem_ends.mpr ⟨q, hq, .inl rfl⟩) c1
        rw [← e, idx0, hrow] at r2
        have := Option.some.inj r2
        obtain ⟨⟨a, b⟩, ⟨c, f⟩⟩ := q
        simp only at c1 hb this
        subst c1
        rw [idx0] at this
        omega
    · have hring : ∀ s : Nat × Nat, s ∈ ends ps → s.1 = 0 → s.2 < u := fun s hs h0 => by
        rcases mem_ring.mp (hp.mem_iff.mp hs) with a | a
        · exact a.2
        · omega
      obtain ⟨⟨a, b⟩, ⟨c, f⟩⟩ := q
      simp only at c1 c2
      subst c1; subst c2
      have h1 := hring _ (mem_ends.mpr ⟨_, hq, .inl rfl⟩) rfl
      have h2 := hring _ (mem_ends.mpr ⟨_, hq, .inr rfl⟩) rfl
      simp only [idx0] at r1 r2 h1 h2
      rcases e with e | e
      · cases e
        exact ⟨f, h2, r1, .inl hk⟩
      · cases e
        exact ⟨b, h1, r2, .inr hk⟩
  · right
    have c := cor_of hp q hq
    have ht : (qT q.1 != qT q.2) = true := by
      rcases e with e | e
      · have q1 : qT q.1 = true := by rw [← e]; rfl
        cases q2 : qT q.2 with
        | false => rw [q1]; rfl
        | true => exact absurd (List.mem_filter.mpr ⟨hq, by rw [q1, q2]; rfl⟩) hk
      · have q2 : qT q.2 = true := by rw [← e]; rfl
        cases q1 : qT q.1 with
        | false => rw [q2]; rfl
        | true => exact absurd (List.mem_filter.mpr ⟨hq, by rw [q1, q2]; rfl⟩) hk
    have hz : (if qT q.1 = true then q else (q.2, q.1)) ∈ thruQ qT ps := List.mem_map.mpr ⟨q, List.mem_filter.mpr ⟨hq, ht⟩, rfl⟩
    obtain ⟨j, hj, ej⟩ := List.mem_map.mp (h.thr.mem_iff.mp hz)
    have hj := List.mem_range.mp hj
    refine ⟨j, hj, ?_⟩
    rcases e with e | e
    · have q1 : qT q.1 = true := by rw [← e]; rfl
      rw [if_pos q1] at ej
      rw [← ej] at e r1
      cases e
      exact ⟨rfl, by rw [idx0, idx1] at r1; exact r1⟩
    · have q2 : qT q.2 = true := by rw [← e]; rfl
      rw [q2] at ht
      have q1 : qT q.1 = false := by cases hh : qT q.1 with | false => rfl | true => rw [hh] at ht; cases ht
      rw [if_neg (by rw [q1]; simp)] at ej
      have e1 : q.2 = (0, T.getD j 0) := (congrArg Prod.fst ej).symm
      have e2 : q.1 = (1, B.getD j 0) := (congrArg Prod.snd ej).symm
      rw [e1] at e r2
      rw [e2] at r2
      cases e
      exact ⟨rfl, by rw [idx0, idx1] at r2; exact r2⟩
/-- the row of the program's upper half -/
def belowU (E : List Nat) (i : Nat) : List Nat := (List.range i).filter fun x => decide (x ∈ E)
def upRow (u : Nat) (E : List Nat) (row : List Nat) : Nat → List Nat
  | 0 => row.take u
  | i + 1 => if i ∈ E then (upRow u E row i).set i (u + (belowU E i).length) else upRow u E row i
/-! ### rebuilt of both halves -/
end
end VS
set_option linter.all false
set_option maxRecDepth 100000
namespace VS
/-! ### all mats, two ways: words that open and end; patterns in a row -/
def stepA {α : Type} (a : α) (left : Nat) (rows : List (List α × List (α × α))) : List (List α × List (α × α)) :=
  rows.flatMap fun r => (if r.1.length < left then [(r.1 ++ [a], r.2)] else []) ++ (match r.1.getLast? with | some x => [(r.1.dropLast, r.2 ++ [(x, a)])] | none => [])
def runA {α : Type} : List α → List (List α × List (α × α)) → List (List α × List (α × α))
  | [], rows => rows
  | a :: r, rows => runA r (stepA a r.length rows)
def shutA {α : Type} (rows : List (List α × List (α × α))) : List (List (α × α)) := (rows.filter fun r => r.1.isEmpty).map Prod.snd
def allA {α : Type} (R : List α) : List (List (α × α)) := shutA (runA R [([], [])])
def mapR {α β : Type} (φ : α → β) (r : List α × List (α × α)) : List β × List (β × β) := (r.1.map φ, r.2.map fun p => (φ p.1, φ p.2))
theorem stepA_map {α β : Type} (φ : α → β) (a : α) (left : Nat) (rows : List (List α × List (α × α))) : stepA (φ a) left (rows.map (mapR φ)) = (stepA a left rows).map (mapR φ) := by
  unfold stepA
  rw [List.flatMap_map, List.map_flatMap]
  congr 1
  funext r
  obtain ⟨w, p⟩ := r
  simp only [mapR, List.map_append, List.length_map, List.getLast?_map]
  congr 1
  · split <;> simp [mapR]
  · cases w.getLast? with
    | none => rfl
    | some x => simp [mapR]
theorem runA_map {α β : Type} (φ : α → β) : ∀ (R : List α) (rows : List (List α × List (α × α))), runA (R.map φ) (rows.map (mapR φ)) = (runA R rows).map (mapR φ)
  | [], rows => rfl
  | a :: r, rows => by
    show runA (r.map φ) (stepA (φ a) (r.map φ).length (rows.map (mapR φ))) = _
    rw [List.length_map, stepA_map, runA_map φ r]
    rfl
theorem allA_map {α β : Type} (φ : α → β) (R : List α) : allA (R.map φ) = (allA R).map fun ps => ps.map fun p => (φ p.1, φ p.2) := by
  have := runA_map φ R [([], [])]
  unfold allA shutA
  rw [show ([([], [])] : List (List β × List (β × β))) = [([], [])].map (mapR φ) from rfl, this, List.filter_map, List.map_map, List.map_map]
  congr 1
  congr 1
  funext r
  obtain ⟨w, p⟩ := r
  cases w <;> rfl
/-- the patterns -/
def cmb (inner : Nat) (w b : List Nat) : List Nat := (2 * inner + 1) :: (w.map (· + 1) ++ 0 :: b.map (· + (2 * inner + 1) + 1))
def nxt (tab : List (List (List Nat))) : List (List Nat) := (List.range tab.length).flatMap fun inner => (tab.getD inner []).flatMap fun w => (tab.getD (tab.length - 1 - inner) []).map fun b => cmb inner w b
def tabN : Nat → List (List (List Nat))
  | 0 => [[[]]]
  | k + 1 => tabN k ++ [nxt (tabN k)]
theorem tabN_len : ∀ k, (tabN k).length = k + 1
  | 0 => rfl
  | k + 1 => by rw [tabN, List.length_append, tabN_len k]; rfl
def pat (h : Nat) : List (List Nat) := (tabN h).getD h []
def catN : Nat → Nat
  | 0 => 1
  | h + 1 => catN h * (4 * h + 2) / (h + 2)
def rowsP (T : Nat) : List (List Nat) := (allA (ring T 0)).map fun ps => madeL T ps (List.replicate (T + 0) 0)
def okT (h : Nat) : Bool := (rowsP (2 * h)).isPerm (pat h) && ((allA (ring (2 * h) 0)).all fun ps => (ends ps).isPerm (ring (2 * h) 0)) && (pat h).length == catN h && (allA (ring (2 * h + 1) 0)).isEmpty && (pat h).all fun r => r.length == 2 * h && r.all fun j => decide (j < 2 * h)
theorem okT_all : ∀ h, h < 8 → okT h = true := by decide +kernel
end VS
set_option Elab.async false
set_option linter.all false
namespace VS
/-! ### a stack that empties: no two cross -/
structure Inv2 (g : Nat → Nat) (N : Nat) : Prop where
  lt : ∀ i, i < N → g i < N
  inv : ∀ i, i < N → g (g i) = i
  ne : ∀ i, i < N → g i ≠ i
def stkP (g : Nat → Nat) : Nat → List Nat
  | 0 => []
  | i + 1 => if (stkP g i).getLast? = some (g i) then (stkP g i).dropLast else stkP g i ++ [i]
def NCg (g : Nat → Nat) (N : Nat) : Prop := ∀ a b, a < b → b < g a → g a < g b → b < N → a < N → False
/-- the law's own question: two strings, one end of the one between the ends of the other -/
def lo2 (i j : Nat) : Nat := if i ≤ j then i else j
def hi2 (i j : Nat) : Nat := if i ≤ j then j else i
def crossB (l r s t : Nat) : Bool := (if l < s ∧ s < r then 1 else 0) + (if l < t ∧ t < r then 1 else 0) == 1
end VS
set_option Elab.async false
set_option linter.all false
set_option maxRecDepth 100000
namespace VS
open PySem PySem.Spec PyProof.Rows L2
/-! ### values as data; a list bears whether it is owned -/
inductive D where
  | non | bl (b : Bool) | int (i : Int) | str (s : Str)
  | tup (xs : List D) | lst (o : Bool) (xs : List D) | ty (n : String) | scr (ns : List Int)
  | exc (n : Str) (d : D)
  | dct (o : Bool) (kvs : List (Int × Int))
mutual
def noOwn : D → Bool
  | .tup xs => noOwns xs
  | .lst o xs => !o && noOwns xs
  | .dct o _ => !o
  | _ => true
def noOwns : List D → Bool
  | [] => true
  | x :: r => noOwn x && noOwns r
end
mutual
def freeze : D → D
  | .tup xs => .tup (freezes xs)
  | .lst _ xs => .lst false (freezes xs)
  | .dct _ kvs => .dct false kvs
  | d => d
def freezes : List D → List D
  | [] => []
  | x :: r => freeze x :: freezes r
end
/-- a dict of whole numbers, as the kit tells it -/
def kvK (kvs : List (Int × Int)) : List (Key × V) := kvs.map fun p => (.inl p.1, .int p.2)
/-- what may be owned -/
inductive LD : HO → Prop
  | l (vs : List V) : LD (.lst vs)
  | d (kvs : List (Key × V)) : LD (.dK kvs)
/-- a caught exception, tracked -/
def ExV (a C dd : Addr) : HO := .ext fun h => ∃ (oe : Obj) (vs : Array Value), h.get? a = some oe ∧ L2N.Zn (.ref C) (some dd) oe ∧ oe.data = .fields vs
/-- the class that a name of the module's means -/
def ClsAt (K : PySem.W.Frag) (n : Str) (C : Addr) : Prop := PySem.W.nsIn K mainGlobals n = some (some (.ref C))
variable (K : PySem.W.Frag)
mutual
inductive Rep (K : PySem.W.Frag) (G H : Hp) : V → D → List Addr → Prop
  | non : Rep K G H .non .non []
  | bl (b : Bool) : Rep K G H (.bl b) (.bl b) []
  | int (i : Int) : Rep K G H (.int i) (.int i) []
  | str (s : Str) : Rep K G H (.str s) (.str s) []
  | ty (n : String) : Rep K G H (.ty n) (.ty n) []
  | tup {a : Addr} {vs : List V} {xs : List D} {L : List Addr} : SqT K G a vs → Reps K G H vs xs L → Rep K G H (.ref a) (.tup xs) L
  | scr {a : Addr} {ns : List Int} : SqL K G a (ns.map V.int) → Rep K G H (.ref a) (.scr ns) []
  | exc {a C dd : Addr} {n : Str} {v : V} {d : D} : G a = some (ExV a C dd) → G dd = some (.xd [(("value" : Str), v)]) → ClsAt K n C → Rep K G H v d [] → Rep K G H (.ref a) (.exc n d) []
  | lstS {a : Addr} {vs : List V} {xs : List D} {L : List Addr} : G a = some (.lst vs) → Reps K G H vs xs L → L = [] → Rep K G H (.ref a) (.lst false xs) L
  | lstO {a : Addr} {vs : List V} {xs : List D} {L : List Addr} : G a = none → H a = some (.lst vs) → a ∉ L → Reps K G H vs xs L → Rep K G H (.ref a) (.lst true xs) (a :: L)
  | dctS {a : Addr} {kvs : List (Int × Int)} : G a = some (.dK (kvK kvs)) → Rep K G H (.ref a) (.dct false kvs) []
  | dctO {a : Addr} {kvs : List (Int × Int)} : G a = none → H a = some (.dK (kvK kvs)) → Rep K G H (.ref a) (.dct true kvs) [a]
inductive Reps (K : PySem.W.Frag) (G H : Hp) : List V → List D → List Addr → Prop
  | nil : Reps K G H [] [] []
  | cons {v : V} {d : D} {L M : List Addr} {vs : List V} {ds : List D} : Rep K G H v d L → Reps K G H vs ds M → (∀ a, a ∈ L → a ∉ M) → Reps K G H (v :: vs) (d :: ds) (L ++ M)
end
section
variable {K : PySem.W.Frag} {G H G' H' : Hp}
theorem Same.rd {a : Addr} {u : HO} (e : Same G G') (h : Rd G a u) : Rd G' a u := by
  rcases h with h | ⟨o, h⟩
  · exact .inl (e a _ h)
  · exact .inr ⟨o, e a _ h⟩
theorem Same.seqT {a : Addr} {xs : List V} (e : Same G G') (h : SqT K G a xs) : SqT K G' a xs := by
  rcases h with h | h
  · exact .inl (Same.rd e h)
  · exact .inr h
/-- what is owned stands in H, not in G -/
structure Keep (G H G' H' : Hp) (L : List Addr) : Prop where
  g : Same G G'
  o : ∀ a ∈ L, G a = none → G' a = none
  h : ∀ a ∈ L, H' a = H a
theorem Keep.sub {L M : List Addr} (k : Keep G H G' H' L) (h : ∀ a, a ∈ M → a ∈ L) : Keep G H G' H' M := ⟨k.g, fun a ha => k.o a (h a ha), fun a ha => k.h a (h a ha)⟩
mutual
theorem Rep.keep {v : V} {d : D} {L : List Addr} (r : Rep K G H v d L) (k : Keep G H G' H' L) : Rep K G' H' v d L := by
  cases r with
  | non => exact .non
  | bl b => exact .bl b
  | int i => exact .int i
  | str s => exact .str s
  | ty n => exact .ty n
  | tup h r => exact .tup (Same.seqT k.g h) (Reps.keep r k)
  | scr h => exact .scr (Same.seq k.g h)
  | exc h1 h2 h3 r => exact .exc (k.g _ _ h1) (k.g _ _ h2) h3 (Rep.keep r (k.sub fun a z => nomatch z))
  | lstS h r e => exact .lstS (k.g _ _ h) (Reps.keep r k) e
  | dctS h => exact .dctS (k.g _ _ h)
  | dctO hg hh => exact .dctO (k.o _ (List.mem_cons_self) hg) ((k.h _ List.mem_cons_self).trans hh)
  | lstO hg hh hn r => exact .lstO (k.o _ (List.mem_cons_self) hg) ((k.h _ List.mem_cons_self).trans hh) hn (Reps.keep r (k.sub fun a ha => List.mem_cons_of_mem _ ha))
theorem Reps.keep {vs : List V} {ds : List D} {L : List Addr} (r : Reps K G H vs ds L) (k : Keep G H G' H' L) : Reps K G' H' vs ds L := by
  cases r with
  | nil => exact .nil
  | cons h r n => exact .cons (Rep.keep h (k.sub fun a ha => List.mem_append_left _ ha)) (Reps.keep r (k.sub fun a ha => List.mem_append_right _ ha)) n
end
mutual
theorem Rep.owned {v : V} {d : D} {L : List Addr} (r : Rep K G H v d L) : ∀ a ∈ L, G a = none ∧ ∃ o, H a = some o ∧ LD o := by
  cases r with
  | non => intro a h; cases h
  | bl b => intro a h; cases h
  | int i => intro a h; cases h
  | str s => intro a h; cases h
  | ty n => intro a h; cases h
  | scr q => intro a h; cases h
  | exc _ _ _ _ => intro a h; cases h
  | tup h r => exact Reps.owned r
  | lstS h r e => exact Reps.owned r
  | lstO hg hh hn r =>
    intro a ha
    rcases List.mem_cons.mp ha with e | e
    · subst e; exact ⟨hg, _, hh, .l _⟩
    · exact Reps.owned r a e
  | dctS h => intro a h; cases h
  | dctO hg hh =>
    intro a ha
    obtain rfl := List.mem_singleton.mp ha
    exact ⟨hg, _, hh, .d _⟩
theorem Reps.owned {vs : List V} {ds : List D} {L : List Addr} (r : Reps K G H vs ds L) : ∀ a ∈ L, G a = none ∧ ∃ o, H a = some o ∧ LD o := by
  cases r with
  | nil => intro a h; cases h
  | cons h r n =>
    intro a ha
    rcases List.mem_append.mp ha with e | e
    · exact Rep.owned h a e
    · exact Reps.owned r a e
end
mutual
theorem Rep.noL {v : V} {d : D} {L : List Addr} (r : Rep K G H v d L) (h : noOwn d = true) : L = [] := by
  cases r with
  | non => rfl
  | bl b => rfl
  | int i => rfl
  | str s => rfl
  | ty n => rfl
  | scr _ => rfl
  | exc _ _ _ _ => rfl
  | tup _ r => exact Reps.noL r h
  | lstS _ r e => exact e
  | lstO _ _ _ r => exact absurd h (by simp [noOwn])
  | dctS _ => rfl
  | dctO _ _ => exact absurd h (by simp [noOwn])
theorem Reps.noL {vs : List V} {ds : List D} {L : List Addr} (r : Reps K G H vs ds L) (h : noOwns ds = true) : L = [] := by
  cases r with
  | nil => rfl
  | cons q r n =>
    simp only [noOwns, Bool.and_eq_true] at h
    rw [Rep.noL q h.1, Reps.noL r h.2]
    rfl
end
mutual
theorem Rep.ofL {v : V} {d : D} {L : List Addr} (r : Rep K G H v d L) (h : L = []) : noOwn d = true := by
  cases r with
  | non => rfl
  | bl b => rfl
  | int i => rfl
  | str s => rfl
  | ty n => rfl
  | scr _ => rfl
  | exc _ _ _ _ => rfl
  | tup _ r => exact Reps.ofL r h
  | lstS _ r e => simp only [noOwn, Reps.ofL r e]; rfl
  | lstO _ _ _ r => cases h
  | dctS _ => rfl
  | dctO _ _ => cases h
theorem Reps.ofL {vs : List V} {ds : List D} {L : List Addr} (r : Reps K G H vs ds L) (h : L = []) : noOwns ds = true := by
  cases r with
  | nil => rfl
  | cons q r n =>
    obtain ⟨h1, h2⟩ := List.append_eq_nil_iff.mp h
    simp only [noOwns, Rep.ofL q h1, Reps.ofL r h2]; rfl
end
theorem Reps.length {vs : List V} {ds : List D} {L : List Addr} (r : Reps K G H vs ds L) : vs.length = ds.length := by
  induction ds generalizing vs L with
  | nil => cases r; rfl
  | cons d ds ih => cases r with | cons _ r _ => simp [ih r]
end
end VS
set_option Elab.async false
set_option linter.all false
set_option maxRecDepth 100000
namespace VS
open PySem PySem.Spec PyProof.Rows L2
section
variable {K : PySem.W.Frag} {G H G' H' : Hp}
mutual
theorem Rep.frz {v : V} {d : D} {L : List Addr} (r : Rep K G H v d L) (k : Same G G') (h : ∀ a ∈ L, G' a = H a) : Rep K G' H v (freeze d) [] := by
  cases r with
  | non => exact .non
  | bl b => exact .bl b
  | int i => exact .int i
  | str s => exact .str s
  | ty n => exact .ty n
  | scr q => exact .scr (Same.seq k q)
  | exc h1 h2 h3 r => exact .exc (k _ _ h1) (k _ _ h2) h3 (r.keep ⟨k, fun _ z _ => (nomatch z), fun _ z => (nomatch z)⟩)
  | tup q r => exact .tup (Same.seqT k q) (Reps.frz r k h)
  | lstS q r e => exact .lstS (k _ _ q) (Reps.frz r k h) rfl
  | lstO hg hh hn r =>
    exact .lstS ((h _ List.mem_cons_self).trans hh) (Reps.frz r k fun a ha => h a (List.mem_cons_of_mem _ ha)) rfl
  | dctS q => exact .dctS (k _ _ q)
  | dctO hg hh => exact .dctS ((h _ List.mem_cons_self).trans hh)
theorem Reps.frz {vs : List V} {ds : List D} {L : List Addr} (r : Reps K G H vs ds L) (k : Same G G') (h : ∀ a ∈ L, G' a = H a) : Reps K G' H vs (freezes ds) [] := by
  cases r with
  | nil => exact .nil
  | cons q r n =>
    have := Reps.cons (Rep.frz q k fun a ha => h a (List.mem_append_left _ ha)) (Reps.frz r k fun a ha => h a (List.mem_append_right _ ha)) (fun a ha => by cases ha)
    exact this
end
end
mutual
theorem noOwn_frz : ∀ d : D, noOwn (freeze d) = true
  | .tup xs => by simp only [freeze, noOwn]; exact noOwns_frz xs
  | .lst o xs => by simp only [freeze, noOwn]; rw [noOwns_frz xs]; rfl
  | .non => rfl
  | .bl _ => rfl
  | .int _ => rfl
  | .str _ => rfl
  | .ty _ => rfl
  | .scr _ => rfl
  | .exc _ _ => rfl
  | .dct _ _ => rfl
theorem noOwns_frz : ∀ ds : List D, noOwns (freezes ds) = true
  | [] => rfl
  | d :: ds => by simp only [freezes, noOwns]; rw [noOwn_frz d, noOwns_frz ds]; rfl
end
/-! ### what a step does to the heaps: G is frozen for good, A is what it may change -/
structure Tr (G H : Hp) (A : Addr → Prop) (G' H' : Hp) (A' : Addr → Prop) : Prop where
  g : Same G G'
  sub : Same G' H'
  keep : ∀ a o, H a = some o → ¬ A a → H' a = some o
  keepG : ∀ a o, H a = some o → ¬ A a → G' a = G a
  new : ∀ a, A' a → A a ∨ H a = none
  dom : ∀ a, H' a = none → H a = none
section
variable {K : PySem.W.Frag} {G H G' H' G1 H1 G2 H2 : Hp} {A A' A1 A2 B : Addr → Prop}
theorem Tr.refl (h : Same G H) : Tr G H A G H A := ⟨Same.refl G, h, fun _ _ e _ => e, fun _ _ _ _ => rfl, fun _ h => .inl h, fun _ h => h⟩
theorem Tr.trans (a : Tr G H A G1 H1 A1) (b : Tr G1 H1 A1 G2 H2 A2) : Tr G H A G2 H2 A2 := by
  have k1 : ∀ x o, H x = some o → ¬ A x → ¬ A1 x := fun x o e n h => by
    rcases a.new x h with q | q
    · exact n q
    · rw [q] at e; cases e
  refine ⟨a.g.trans b.g, b.sub, fun x o e n => b.keep x o (a.keep x o e n) (k1 x o e n), fun x o e n => (b.keepG x o (a.keep x o e n) (k1 x o e n)).trans (a.keepG x o e n), fun x h => ?_, fun x h => a.dom x (b.dom x h)⟩
  rcases b.new x h with q | q
  · exact a.new x q
  · exact .inr (a.dom x q)
/-- more may be changed, less is borne behind -/
theorem Tr.wk (a : Tr G H A G1 H1 A1) (h : ∀ x, A x → B x) (h' : ∀ x, A2 x → A1 x ∨ B x ∨ H x = none) : Tr G H B G1 H1 A2 :=
  ⟨a.g, a.sub, fun x o e n => a.keep x o e fun q => n (h x q), fun x o e n => a.keepG x o e fun q => n (h x q), fun x q => by
    rcases h' x q with q | q | q
    · rcases a.new x q with q | q
      · exact .inl (h x q)
      · exact .inr q
    · exact .inl q
    · exact .inr q, a.dom⟩
theorem Tr.post (a : Tr G H A G1 H1 A1) (h : ∀ x, A2 x → A1 x) : Tr G H A G1 H1 A2 := a.wk (fun _ h => h) fun x q => .inl (h x q)
/-- what stands apart -/
theorem Tr.keeps (t : Tr G H A G' H' A') {L : List Addr} (ho : ∀ a ∈ L, G a = none ∧ ∃ o, H a = some o ∧ LD o) (n : ∀ a ∈ L, ¬ A a) : Keep G H G' H' L := by
  refine ⟨t.g, fun a ha hg => ?_, fun a ha => ?_⟩
  · obtain ⟨_, vs, e, _⟩ := ho a ha
    exact (t.keepG a _ e (n a ha)).trans hg
  · obtain ⟨_, vs, e, _⟩ := ho a ha
    rw [e]; exact t.keep a _ e (n a ha)
theorem Rep.tr {v : V} {d : D} {L : List Addr} (r : Rep K G H v d L) (t : Tr G H A G' H' A') (n : ∀ a ∈ L, ¬ A a) : Rep K G' H' v d L := r.keep (t.keeps r.owned n)
theorem Reps.tr {vs : List V} {ds : List D} {L : List Addr} (r : Reps K G H vs ds L) (t : Tr G H A G' H' A') (n : ∀ a ∈ L, ¬ A a) : Reps K G' H' vs ds L := r.keep (t.keeps r.owned n)
/-- .. is still apart -/
theorem Tr.apart (t : Tr G H A G' H' A') {L : List Addr} (ho : ∀ a ∈ L, G a = none ∧ ∃ o, H a = some o ∧ LD o) (n : ∀ a ∈ L, ¬ A a) : ∀ a ∈ L, ¬ A' a := fun a ha h => by
  obtain ⟨_, vs, e, _⟩ := ho a ha
  rcases t.new a h with q | q
  · exact n a ha q
  · rw [q] at e; cases e
/-- a new object, frozen -/
theorem Tr.newG {p : Addr} {o : HO} (h : Same G H) (hp : H p = none) : Tr G H A (upd G p o) (upd H p o) A := by
  have gp : G p = none := h.free hp
  refine ⟨fun a u e => by rw [upd_ne (ne_of_none e gp)]; exact e, fun a u e => ?_, fun a u e _ => by rw [upd_ne (ne_of_none e hp)]; exact e, fun a u e _ => by rw [upd_ne (ne_of_none e hp)], fun _ q => .inl q, fun a e => ?_⟩
  · by_cases q : a = p
    · subst q; rw [upd_same] at e ⊢; exact e
    · rw [upd_ne q] at e ⊢; exact h a u e
  · by_cases q : a = p
    · subst q; exact hp
    · rw [upd_ne q] at e; exact e
/-- a new list, owned -/
theorem Tr.newO {p : Addr} {o : HO} (h : Same G H) (hp : H p = none) : Tr G H A G (upd H p o) (fun a => A a ∨ a = p) := by
  have gp : G p = none := h.free hp
  refine ⟨Same.refl G, fun a u e => by rw [upd_ne (ne_of_none e gp)]; exact h a u e, fun a u e _ => by rw [upd_ne (ne_of_none e hp)]; exact e, fun _ _ _ _ => rfl, fun a q => ?_, fun a e => ?_⟩
  · rcases q with q | q
    · exact .inl q
    · subst q; exact .inr hp
  · by_cases q : a = p
    · subst q; exact hp
    · rw [upd_ne q] at e; exact e
/-- an owned list written -/
theorem Tr.write {p : Addr} {o : HO} (h : Same G H) (hg : G p = none) (ha : A p) (hH : ∃ o, H p = some o) : Tr G H A G (upd H p o) A := by
  refine ⟨Same.refl G, fun a u e => by rw [upd_ne (ne_of_none e hg)]; exact h a u e, fun a u e n => ?_, fun _ _ _ _ => rfl, fun a q => .inl q, fun a e => ?_⟩
  · by_cases q : a = p
    · subst q; exact absurd ha n
    · rw [upd_ne q]; exact e
  · by_cases q : a = p
    · subst q; rw [upd_same] at e; cases e
    · rw [upd_ne q] at e; exact e
end
/-! ### the slots -/
abbrev Env := List (Option D)
def getS (ρ : Env) (i : Nat) : Option D := (ρ[i]?).join
structure REnv (K : PySem.W.Frag) (G H : Hp) (σ : L2.St) (ρ : Env) (F : Nat → List Addr) : Prop where
  sub : Same G H
  len : σ.length = ρ.length
  at_ : ∀ i d, getS ρ i = some d → ∃ v, σ[i]? = some (some v) ∧ Rep K G H v d (F i)
  off : ∀ i, getS ρ i = none → F i = []
  dis : ∀ i j, i ≠ j → ∀ a, a ∈ F i → a ∉ F j
def own (F : Nat → List Addr) (a : Addr) : Prop := ∃ i, a ∈ F i
section
variable {K : PySem.W.Frag} {G H G' H' : Hp} {σ : L2.St} {ρ : Env} {F : Nat → List Addr} {A A' : Addr → Prop}
theorem REnv.owned (r : REnv K G H σ ρ F) (i : Nat) : ∀ a ∈ F i, G a = none ∧ ∃ o, H a = some o ∧ LD o := fun a ha => by
  cases q : getS ρ i with
  | none => rw [r.off i q] at ha; cases ha
  | some d => obtain ⟨v, _, h⟩ := r.at_ i d q; exact h.owned a ha
theorem REnv.tr (r : REnv K G H σ ρ F) (t : Tr G H A G' H' A') (n : ∀ a, own F a → ¬ A a) : REnv K G' H' σ ρ F := by
  refine ⟨t.sub, r.len, fun i d q => ?_, r.off, r.dis⟩
  obtain ⟨v, e, h⟩ := r.at_ i d q
  exact ⟨v, e, h.tr t fun a ha => n a ⟨i, ha⟩⟩
theorem REnv.lt (r : REnv K G H σ ρ F) {i : Nat} {d : D} (q : getS ρ i = some d) : i < ρ.length := by
  unfold getS at q
  cases e : ρ[i]? with
  | none => rw [e] at q; cases q
  | some o => exact (List.getElem?_eq_some_iff.mp e).1
def fset (F : Nat → List Addr) (i : Nat) (L : List Addr) : Nat → List Addr := fun j => if j = i then L else F j
theorem fset_same {i : Nat} {L : List Addr} : fset F i L i = L := if_pos rfl
theorem fset_ne {i j : Nat} {L : List Addr} (h : j ≠ i) : fset F i L j = F j := if_neg h
theorem getS_set {ρ : Env} {i j : Nat} {o : Option D} : getS (ρ.set i o) j = if j = i ∧ i < ρ.length then o else getS ρ j := by
  unfold getS
  rw [List.getElem?_set]
  by_cases h : i = j
  · subst h
    by_cases h2 : i < ρ.length
    · simp [h2]
    · simp [h2]
  · rw [if_neg h, if_neg (by rintro ⟨rfl, _⟩; exact h rfl)]
/-- a slot of the data is given up -/
theorem REnv.drop (r : REnv K G H σ ρ F) (i : Nat) : REnv K G H σ (ρ.set i none) (fset F i []) := by
  refine ⟨r.sub, by rw [List.length_set]; exact r.len, fun j d q => ?_, fun j q => ?_, fun j k n a ha => ?_⟩
  · rw [getS_set] at q
    by_cases h : j = i
    · subst h
      by_cases h2 : j < ρ.length
      · rw [if_pos ⟨rfl, h2⟩] at q; cases q
      · rw [if_neg (fun z => h2 z.2)] at q; exact absurd (r.lt q) h2
    · rw [if_neg (fun z => h z.1)] at q
      rw [fset_ne h]; exact r.at_ j d q
  · by_cases h : j = i
    · subst h; exact fset_same
    · rw [fset_ne h]; rw [getS_set, if_neg (fun z => h z.1)] at q; exact r.off j q
  · by_cases h : j = i
    · subst h; rw [fset_same] at ha; cases ha
    · rw [fset_ne h] at ha
      by_cases h2 : k = i
      · subst h2; rw [fset_same]; exact List.not_mem_nil
      · rw [fset_ne h2]; exact r.dis j k n a ha
/-- a slot gets a value: its place too -/
theorem REnv.put (r : REnv K G H σ ρ F) {i : Nat} (hi : i < ρ.length) {v : V} {d : D} {L : List Addr} (h : Rep K G H v d L) (n : ∀ a ∈ L, ∀ j, j ≠ i → a ∉ F j) : REnv K G H (σ.set i (some v)) (ρ.set i (some d)) (fset F i L) := by
  refine ⟨r.sub, by rw [List.length_set, List.length_set]; exact r.len, fun j e q => ?_, fun j q => ?_, fun j k ne a ha => ?_⟩
  · rw [getS_set] at q
    by_cases hj : j = i
    · subst hj
      rw [if_pos ⟨rfl, hi⟩] at q; cases q
      exact ⟨v, by rw [List.getElem?_set_self (by rw [r.len]; exact hi)], by rw [fset_same]; exact h⟩
    · rw [if_neg (fun z => hj z.1)] at q
      obtain ⟨w, e1, e2⟩ := r.at_ j e q
      exact ⟨w, by rw [List.getElem?_set_ne (Ne.symm hj)]; exact e1, by rw [fset_ne hj]; exact e2⟩
  · rw [getS_set] at q
    by_cases hj : j = i
    · subst hj; rw [if_pos ⟨rfl, hi⟩] at q; cases q
    · rw [if_neg (fun z => hj z.1)] at q; rw [fset_ne hj]; exact r.off j q
  · by_cases hj : j = i
    · subst hj
      rw [fset_same] at ha
      rw [fset_ne (Ne.symm ne)]
      exact n a ha k (Ne.symm ne)
    · rw [fset_ne hj] at ha
      by_cases hk : k = i
      · subst hk
        rw [fset_same]
        exact fun q => n a q j hj ha
      · rw [fset_ne hk]; exact r.dis j k ne a ha
/-- .. the data alone (the place holds the value already) -/
theorem REnv.re (r : REnv K G H σ ρ F) {i : Nat} (hi : i < ρ.length) {v : V} {d : D} {L : List Addr} (hv : σ[i]? = some (some v)) (h : Rep K G H v d L) (n : ∀ a ∈ L, ∀ j, j ≠ i → a ∉ F j) : REnv K G H σ (ρ.set i (some d)) (fset F i L) := by
  have q := r.put hi h n
  have e : σ.set i (some v) = σ := by
    apply List.ext_getElem?
    intro j
    by_cases hj : i = j
    · subst hj; rw [List.getElem?_set_self (by rw [r.len]; exact hi), hv]
    · rw [List.getElem?_set_ne hj]
  rw [e] at q
  exact q
end
end VS
set_option Elab.async false
set_option linter.all false
set_option maxRecDepth 100000
namespace VS
open PySem PySem.Spec PyProof.Rows L2
abbrev FE := Env → Option (D × Env)
abbrev FB := Env → Option (Bool × Env)
/-- an operand: a slot that is read where the operation is done, or a value made ahead of it -/
inductive Op where
  | b (i : Nat) | t (f : FE)
def litF (d : D) : FE := fun ρ => some (d, ρ)
/-- a name as a value: what it owns is frozen -/
def varF (i : Nat) : FE := fun ρ => (getS ρ i).bind fun d => if noOwn d = true then some (d, ρ) else some (freeze d, ρ.set i (some (freeze d)))
/-- a name's value is moved out -/
def movF (i : Nat) : FE := fun ρ => (getS ρ i).bind fun d => some (d, ρ.set i none)
def evOps : List Op → Env → Option (List (Option D) × Env)
  | [], ρ => some ([], ρ)
  | .b i :: r, ρ => (getS ρ i).bind fun _ => (evOps r ρ).bind fun p => some (none :: p.1, p.2)
  | .t f :: r, ρ => (f ρ).bind fun q => (evOps r q.2).bind fun p => some (some q.1 :: p.1, p.2)
def fetch : List Op → List (Option D) → Env → Option (List D)
  | .b i :: r, _ :: ts, ρ => (getS ρ i).bind fun d => (fetch r ts ρ).bind fun ds => some (d :: ds)
  | .t _ :: r, some d :: ts, ρ => (fetch r ts ρ).bind fun ds => some (d :: ds)
  | [], _, _ => some []
  | _, _, _ => none
/-- an operation that reads its operands -/
def opF (g : List D → Option D) (ops : List Op) : FE := fun ρ => (evOps ops ρ).bind fun p => (fetch ops p.1 p.2).bind fun ds => (g ds).bind fun d => some (d, p.2)
section
variable (K : PySem.W.Frag)
def SimE (te : TE) (f : FE) : Prop := ∀ ρ d ρ', f ρ = some (d, ρ') → ∀ (σ : L2.St) (G H : Hp) (F : Nat → List Addr), REnv K G H σ ρ F → ∀ Q : VK,
  (∀ v G' H' F' L, Tr G H (own F) G' H' (fun a => own F' a ∨ a ∈ L) → REnv K G' H' σ ρ' F' → Rep K G' H' v d L → (∀ a ∈ L, ¬ own F' a) → Q v H') → te σ H Q
def SimT (tt : TT) (f : FB) : Prop := ∀ ρ b ρ', f ρ = some (b, ρ') → ∀ (σ : L2.St) (G H : Hp) (F : Nat → List Addr), REnv K G H σ ρ F → ∀ Q : Bool → Hp → Prop,
  (∀ G' H' F', Tr G H (own F) G' H' (own F') → REnv K G' H' σ ρ' F' → Q b H') → tt σ H Q
def SimO (te : TE) (o : Op) : Prop := match o with
  | .b i => te = tVar i
  | .t f => SimE K te f
inductive OpsOk (G H : Hp) (σ : L2.St) : List Op → List (Option D) → List V → List Addr → Prop
  | nil : OpsOk G H σ [] [] [] []
  | b {i : Nat} {v : V} {o : Option D} {ops ts vs M} : σ[i]? = some (some v) → OpsOk G H σ ops ts vs M → OpsOk G H σ (.b i :: ops) (o :: ts) (v :: vs) M
  | t {f : FE} {v : V} {d : D} {L : List Addr} {ops ts vs M} : Rep K G H v d L → (∀ a ∈ L, a ∉ M) → OpsOk G H σ ops ts vs M → OpsOk G H σ (.t f :: ops) (some d :: ts) (v :: vs) (L ++ M)
def SimA (ta : TA) (ops : List Op) : Prop := ∀ ρ ts ρ', evOps ops ρ = some (ts, ρ') → ∀ (σ : L2.St) (G H : Hp) (F : Nat → List Addr), REnv K G H σ ρ F → ∀ Q : List V → Hp → Prop,
  (∀ vs G' H' F' M, Tr G H (own F) G' H' (fun a => own F' a ∨ a ∈ M) → REnv K G' H' σ ρ' F' → OpsOk K G' H' σ ops ts vs M → (∀ a ∈ M, ¬ own F' a) → Q vs H') → ta σ H Q
end
section
variable {K : PySem.W.Frag}
theorem simE_lit {v : V} {d : D} (h : ∀ G H, Rep K G H v d []) : SimE K (tC v) (litF d) := by
  intro ρ d' ρ' e σ G H F r Q q
  cases e
  exact q v G H F [] ((Tr.refl r.sub).post fun a h => h.elim id fun z => nomatch z) r (h _ _) (fun a z => nomatch z)
theorem simE_var (i : Nat) : SimE K (tVar i) (varF i) := by
  intro ρ d ρ' e σ G H F r Q q
  unfold varF at e
  cases hd : getS ρ i with
  | none => rw [hd] at e; cases e
  | some d0 =>
    rw [hd] at e
    obtain ⟨v, hv, hr⟩ := r.at_ i d0 hd
    by_cases hn : noOwn d0 = true
    · have e' : some (d0, ρ) = some (d, ρ') := by rw [← e]; simp [hn]
      cases e'
      have e0 := hr.noL hn
      rw [e0] at hr
      exact ⟨v, hv, q v G H F [] ((Tr.refl r.sub).post fun a h => h.elim id fun z => nomatch z) r hr (fun a z => nomatch z)⟩
    · have e' : some (freeze d0, ρ.set i (some (freeze d0))) = some (d, ρ') := by rw [← e]; simp [hn]
      cases e'
      have own' : ∀ a ∈ F i, G a = none ∧ ∃ o, H a = some o ∧ LD o := r.owned i
      have hG : ∀ a, a ∉ F i → (fun a => if a ∈ F i then H a else G a) a = G a := fun a h => if_neg h
      have hG1 : ∀ a ∈ F i, (fun a => if a ∈ F i then H a else G a) a = H a := fun a h => if_pos h
      generalize (fun a => if a ∈ F i then H a else G a : Hp) = G1 at hG hG1
      have s1 : Same G G1 := fun a o h => by
        have : a ∉ F i := fun z => by rw [(own' a z).1] at h; cases h
        rw [hG a this]; exact h
      have s2 : Same G1 H := fun a o h => by
        by_cases z : a ∈ F i
        · rw [hG1 a z] at h; exact h
        · rw [hG a z] at h; exact r.sub a o h
      have hr' := hr.frz s1 hG1
      have renv : REnv K G1 H σ ρ F → False ∨ True := fun _ => .inr trivial
      have r1 : REnv K G1 H σ (ρ.set i none) (fset F i []) := by
        have rd := r.drop i
        refine ⟨s2, rd.len, fun j e h => ?_, rd.off, rd.dis⟩
        obtain ⟨w, e1, e2⟩ := rd.at_ j e h
        refine ⟨w, e1, e2.keep ⟨s1, fun a ha hg => ?_, fun a _ => rfl⟩⟩
        have : a ∉ F i := fun z => by
          by_cases hj : j = i
          · subst hj; rw [fset_same] at ha; cases ha
          · rw [fset_ne hj] at ha; exact r.dis j i hj a ha z
        rw [hG a this]; exact hg
      have r2 := r1.re (i := i) (by rw [List.length_set]; exact r.lt hd) hv hr' (fun a z => nomatch z)
      rw [List.set_set] at r2
      have hf : ∀ a, own (fset (fset F i []) i []) a → own F a := fun a ⟨j, h⟩ => by
        by_cases hj : j = i
        · subst hj; rw [fset_same] at h; cases h
        · rw [fset_ne hj, fset_ne hj] at h; exact ⟨j, h⟩
      refine ⟨v, hv, q v G1 H _ [] ⟨s1, s2, fun _ _ h _ => h, fun a o h n => hG a fun z => n ⟨i, z⟩, fun a h => .inl (h.elim (hf a) fun z => nomatch z), fun _ h => h⟩ r2 hr' (fun a z => nomatch z)⟩
theorem simE_mov (i : Nat) : SimE K (tVar i) (movF i) := by
  intro ρ d ρ' e σ G H F r Q q
  unfold movF at e
  cases hd : getS ρ i with
  | none => rw [hd] at e; cases e
  | some d0 =>
    rw [hd] at e
    obtain ⟨v, hv, hr⟩ := r.at_ i d0 hd
    have e' : some (d0, ρ.set i none) = some (d, ρ') := e
    cases e'
    refine ⟨v, hv, q v G H _ (F i) ((Tr.refl r.sub).post fun a h => ?_) (r.drop i) hr fun a ha ⟨j, h⟩ => ?_⟩
    · rcases h with ⟨j, h⟩ | h
      · by_cases hj : j = i
        · subst hj; rw [fset_same] at h; cases h
        · rw [fset_ne hj] at h; exact ⟨j, h⟩
      · exact ⟨i, h⟩
    · by_cases hj : j = i
      · subst hj; rw [fset_same] at h; cases h
      · rw [fset_ne hj] at h; exact r.dis j i hj a h ha
theorem simA_nil : SimA K tNil [] := by
  intro ρ ts ρ' e σ G H F r Q q
  cases e
  exact q [] G H F [] ((Tr.refl r.sub).post fun a h => h.elim id fun z => nomatch z) r .nil (fun a z => nomatch z)
theorem simA_cons {te : TE} {ta : TA} {o : Op} {ops : List Op} (h1 : SimO K te o) (h2 : SimA K ta ops) : SimA K (tCons te ta) (o :: ops) := by
  intro ρ ts ρ' e σ G H F r Q q
  cases o with
  | b i =>
    unfold evOps at e
    cases hd : getS ρ i with
    | none => rw [hd] at e; cases e
    | some d =>
      rw [hd] at e
      obtain ⟨v, hv, _⟩ := r.at_ i d hd
      cases he : evOps ops ρ with
      | none => rw [he] at e; cases e
      | some p =>
        obtain ⟨ts1, ρ1⟩ := p
        rw [he] at e
        have e' : some (none :: ts1, ρ1) = some (ts, ρ') := e
        cases e'
        have h1' : te = tVar i := h1
        subst h1'
        exact ⟨v, hv, h2 ρ ts1 _ he σ G H F r _ fun vs G' H' F' M t r' ok n => q (v :: vs) G' H' F' M t r' (.b hv ok) n⟩
  | t f =>
    unfold evOps at e
    cases hf : f ρ with
    | none => rw [hf] at e; cases e
    | some p =>
      obtain ⟨d, ρ1⟩ := p
      rw [hf] at e
      cases he : evOps ops ρ1 with
      | none => have e2 : (evOps ops ρ1).bind (fun p => some (some d :: p.1, p.2)) = some (ts, ρ') := e; rw [he] at e2; cases e2
      | some p =>
        obtain ⟨ts1, ρ2⟩ := p
        have e2 : (evOps ops ρ1).bind (fun p => some (some d :: p.1, p.2)) = some (ts, ρ') := e
        rw [he] at e2
        have e' : some (some d :: ts1, ρ2) = some (ts, ρ') := e2
        cases e'
        have h1' : SimE K te f := h1
        refine h1' ρ d ρ1 hf σ G H F r _ fun v G1 H1 F1 L t1 r1 rv n1 => ?_
        refine h2 ρ1 ts1 _ he σ G1 H1 F1 r1 _ fun vs G2 H2 F2 M t2 r2 ok n2 => ?_
        have ap := t2.apart (L := L) rv.owned n1
        refine q (v :: vs) G2 H2 F2 (L ++ M) ?_ r2 (.t (rv.tr t2 n1) (fun a ha hm => ap a ha (.inr hm)) ok) fun a ha => ?_
        · refine (Tr.trans (t1.post fun a h => .inl h) t2).wk (fun _ h => h) fun a h => ?_
          rcases h with h | h
          · exact .inl (.inl h)
          · rcases List.mem_append.mp h with h | h
            · rcases t1.new a (.inr h) with z | z
              · exact .inr (.inl z)
              · exact .inr (.inr z)
            · exact .inl (.inr h)
        · rcases List.mem_append.mp ha with h | h
          · exact fun z => ap a h (.inl z)
          · exact n2 a h
/-- operands by their data -/
inductive RepL (K : PySem.W.Frag) (G H : Hp) : List V → List D → Prop
  | nil : RepL K G H [] []
  | cons {v : V} {d : D} {L : List Addr} {vs : List V} {ds : List D} : Rep K G H v d L → RepL K G H vs ds → RepL K G H (v :: vs) (d :: ds)
theorem OpsOk.get {G H : Hp} {σ : L2.St} {ρ : Env} {F : Nat → List Addr} (r : REnv K G H σ ρ F) : ∀ {ops : List Op} {ts : List (Option D)} {vs : List V} {M : List Addr} {ds : List D}, OpsOk K G H σ ops ts vs M → fetch ops ts ρ = some ds → RepL K G H vs ds
  | _, _, _, _, ds, .nil, e => by
    unfold fetch at e; cases e; exact .nil
  | .b i :: ops, o :: ts, v :: vs, M, ds, .b hv ok, e => by
    unfold fetch at e
    cases hd : getS ρ i with
    | none => rw [hd] at e; cases e
    | some d =>
      rw [hd] at e
      cases he : fetch ops ts ρ with
      | none => have e2 : (fetch ops ts ρ).bind (fun ds => some (d :: ds)) = some ds := e; rw [he] at e2; cases e2
      | some ds1 =>
        have e2 : (fetch ops ts ρ).bind (fun ds => some (d :: ds)) = some ds := e
        rw [he] at e2; cases e2
        obtain ⟨w, hw, hr⟩ := r.at_ i d hd
        rw [hv] at hw; cases hw
        exact .cons hr (ok.get r he)
  | .t f :: ops, some d :: ts, v :: vs, _, ds, .t hr _ ok, e => by
    unfold fetch at e
    cases he : fetch ops ts ρ with
    | none => rw [he] at e; cases e
    | some ds1 => rw [he] at e; cases e; exact .cons hr (ok.get r he)
/-- an operation on values that reads them and makes one -/
def VOk (K : PySem.W.Frag) (r : List V → Hp → VK → Prop) (g : List D → Option D) : Prop := ∀ (G H : Hp) (vs : List V) (ds : List D) (d : D), Same G H → RepL K G H vs ds → g ds = some d → ∀ Q : VK,
  (∀ v G' H' L, Tr G H (fun _ => False) G' H' (fun a => a ∈ L) → Rep K G' H' v d L → Q v H') → r vs H Q
theorem simE_op {ta : TA} {ops : List Op} {r : List V → Hp → VK → Prop} {g : List D → Option D} (h : SimA K ta ops) (hv : VOk K r g) : SimE K (fun σ H Q => ta σ H fun vs H1 => r vs H1 Q) (opF g ops) := by
  intro ρ d ρ' e σ G H F r Q q
  unfold opF at e
  cases he : evOps ops ρ with
  | none => rw [he] at e; cases e
  | some p =>
    obtain ⟨ts, ρ1⟩ := p
    rw [he] at e
    cases hf : fetch ops ts ρ1 with
    | none => have e2 : (fetch ops ts ρ1).bind (fun ds => (g ds).bind fun d => some (d, ρ1)) = some (d, ρ') := e; rw [hf] at e2; cases e2
    | some ds =>
      have e2 : (fetch ops ts ρ1).bind (fun ds => (g ds).bind fun d => some (d, ρ1)) = some (d, ρ') := e
      rw [hf] at e2
      cases hg : g ds with
      | none => have e3 : (g ds).bind (fun d => some (d, ρ1)) = some (d, ρ') := e2; rw [hg] at e3; cases e3
      | some d1 =>
        have e3 : (g ds).bind (fun d => some (d, ρ1)) = some (d, ρ') := e2
        rw [hg] at e3; cases e3
        refine h ρ ts _ he σ G H F r _ fun vs G1 H1 F1 M t1 r1 ok n1 => ?_
        refine hv G1 H1 vs ds d r1.sub (ok.get r1 hf) hg Q fun v G2 H2 L t2 rv => ?_
        have r2 := r1.tr t2 (fun _ _ z => z)
        refine q v G2 H2 F1 L ?_ r2 rv fun a ha ⟨j, hj⟩ => ?_
        · refine (t1.trans (t2.wk (A2 := fun a => own F1 a ∨ a ∈ L) (B := fun a => own F1 a ∨ a ∈ M) (fun _ z => z.elim) fun a h => ?_))
          rcases h with h | h
          · exact .inr (.inl (.inl h))
          · exact .inl h
        · rcases t2.new a ha with z | z
          · exact z
          · obtain ⟨_, vs, e, _⟩ := r1.owned j a hj
            rw [z] at e; cases e
end
end VS
set_option Elab.async false
set_option linter.all false
set_option maxRecDepth 100000
namespace VS
open PySem PySem.Spec PyProof.Rows L2
inductive Out where
  | nx (ρ : Env) | rt (d : D) (ρ : Env) | bk (ρ : Env) | ct (ρ : Env) | rz (n : Str) (d : D) (ρ : Env)
abbrev FS := Env → Option Out
def Pin (pn : Nat → Bool) (σ σ' : L2.St) : Prop := σ'.length = σ.length ∧ ∀ i, pn i = true → σ'[i]? = σ[i]?
theorem Pin.refl {pn : Nat → Bool} {σ : L2.St} : Pin pn σ σ := ⟨rfl, fun _ _ => rfl⟩
theorem Pin.trans {pn : Nat → Bool} {σ σ1 σ2 : L2.St} (a : Pin pn σ σ1) (b : Pin pn σ1 σ2) : Pin pn σ σ2 := ⟨b.1.trans a.1, fun i h => (b.2 i h).trans (a.2 i h)⟩
theorem Pin.set {pn : Nat → Bool} {σ : L2.St} {i : Nat} {o : Option V} (h : pn i = false) : Pin pn σ (σ.set i o) := ⟨List.length_set, fun j hj => by
  have : i ≠ j := fun e => by subst e; rw [h] at hj; cases hj
  exact List.getElem?_set_ne this⟩
section
variable (K : PySem.W.Frag) (pn : Nat → Bool) (W : WX)
def PostE (σ : L2.St) (G H : Hp) (A : Addr → Prop) (ρ' : Env) (R : L2.St → Hp → Prop) : Prop := ∀ σ' G' H' F', Tr G H A G' H' (own F') → REnv K G' H' σ' ρ' F' → Pin pn σ σ' → R σ' H'
def PostR (σ : L2.St) (G H : Hp) (A : Addr → Prop) (d : D) (ρ' : Env) (R : VK) : Prop := ∀ v σ' G' H' F' L, Tr G H A G' H' (fun a => own F' a ∨ a ∈ L) → REnv K G' H' σ' ρ' F' → Pin pn σ σ' → Rep K G' H' v d L → (∀ a ∈ L, ¬ own F' a) → R v H'
/-- an exception that leaves: its class by name, its value -/
def PostX (σ : L2.St) (G H : Hp) (A : Addr → Prop) (n : Str) (d : D) (ρ' : Env) : Prop := ∀ σ' G' H' F' (C dd : Addr) (v : V), Tr G H A G' H' (own F') → REnv K G' H' σ' ρ' F' → Pin pn σ σ' → ClsAt K n C → G' dd = some (.xd [(("value" : Str), v)]) → Rep K G' H' v d [] → W (.ref C) (some dd) σ' H'
def Post (σ : L2.St) (G H : Hp) (A : Addr → Prop) (E : Ends) : Out → Prop
  | .nx ρ' => PostE K pn σ G H A ρ' E.nx
  | .bk ρ' => PostE K pn σ G H A ρ' E.bk
  | .ct ρ' => PostE K pn σ G H A ρ' E.ct
  | .rt d ρ' => PostR K pn σ G H A d ρ' E.rt
  | .rz n d ρ' => PostX K pn W σ G H A n d ρ'
def SimS (t : TS) (f : FS) : Prop := ∀ ρ o, f ρ = some o → ∀ (σ : L2.St) (G H : Hp) (F : Nat → List Addr), REnv K G H σ ρ F → ∀ E : Ends, Post K pn W σ G H (own F) E o → t E σ H
def SimG (g : TG) (f : D → Env → Option Env) : Prop := ∀ d ρ ρ', f d ρ = some ρ' → ∀ v (σ : L2.St) (G H : Hp) (F : Nat → List Addr) (L : List Addr), REnv K G H σ ρ F → Rep K G H v d L → (∀ a ∈ L, ¬ own F a) → ∀ Q : L2.St → Hp → Prop,
  PostE K pn σ G H (fun a => own F a ∨ a ∈ L) ρ' Q → g v σ H Q
def SimGs (g : TGs) (f : List D → Env → Option Env) : Prop := ∀ ds ρ ρ', f ds ρ = some ρ' → ∀ vs (σ : L2.St) (G H : Hp) (F : Nat → List Addr) (L : List Addr), REnv K G H σ ρ F → Reps K G H vs ds L → (∀ a ∈ L, ¬ own F a) → ∀ Q : L2.St → Hp → Prop,
  PostE K pn σ G H (fun a => own F a ∨ a ∈ L) ρ' Q → g vs σ H Q
end
def passF : FS := fun ρ => some (.nx ρ)
def brkF : FS := fun ρ => some (.bk ρ)
def cntF : FS := fun ρ => some (.ct ρ)
def seqF (f g : FS) : FS := fun ρ => (f ρ).bind fun o => match o with
  | .nx ρ1 => g ρ1
  | o => some o
def asgF (f : FE) (g : D → Env → Option Env) : FS := fun ρ => (f ρ).bind fun p => (g p.1 p.2).bind fun ρ' => some (.nx ρ')
def dropF (f : FE) : FS := fun ρ => (f ρ).bind fun p => some (.nx p.2)
def retF (f : FE) : FS := fun ρ => (f ρ).bind fun p => some (.rt p.1 p.2)
def retN : FS := fun ρ => some (.rt .non ρ)
def neverF : FS := fun _ => none
def ifF (c : FB) (f g : FS) : FS := fun ρ => (c ρ).bind fun p => if p.1 = true then f p.2 else g p.2
def tgN (i : Nat) : D → Env → Option Env := fun d ρ => some (ρ.set i (some d))
def tgNil : List D → Env → Option Env := fun ds ρ => match ds with
  | [] => some ρ
  | _ => none
def tgCons (g : D → Env → Option Env) (gs : List D → Env → Option Env) : List D → Env → Option Env := fun ds ρ => match ds with
  | d :: r => (g d ρ).bind fun ρ1 => gs r ρ1
  | [] => none
def tgT (n : Nat) (gs : List D → Env → Option Env) : D → Env → Option Env := fun d ρ => match d with
  | .tup xs => if xs.length = n then gs xs ρ else none
  | _ => none
/-- x[i] = v, x a name -/
def subPut (ρ : Env) (k : Nat) (d : D) : List D → Option D → Option Env
  | [.int i], some (.lst true xs) => (ixN xs.length i).bind fun j => some (ρ.set k (some (.lst true (xs.set j d))))
  | _, _ => none
def tgSub (k : Nat) (oi : Op) : D → Env → Option Env := fun d ρ => (getS ρ k).bind fun _ => (evOps [oi] ρ).bind fun p => (fetch [oi] p.1 p.2).bind fun ds => subPut p.2 k d ds (getS p.2 k)
section
variable {K : PySem.W.Frag} {pn : Nat → Bool} {W : WX}
theorem own_set {F : Nat → List Addr} {i : Nat} {L : List Addr} {a : Addr} (h : own (fset F i L) a) : own F a ∨ a ∈ L := by
  obtain ⟨j, h⟩ := h
  by_cases hj : j = i
  · subst hj; rw [fset_same] at h; exact .inr h
  · rw [fset_ne hj] at h; exact .inl ⟨j, h⟩
theorem REnv.put' {G H : Hp} {σ : L2.St} {ρ : Env} {F : Nat → List Addr} (r : REnv K G H σ ρ F) (i : Nat) {v : V} {d : D} {L : List Addr} (h : Rep K G H v d L) (n : ∀ a ∈ L, ¬ own F a) :
    ∃ F', REnv K G H (σ.set i (some v)) (ρ.set i (some d)) F' ∧ ∀ a, own F' a → own F a ∨ a ∈ L := by
  by_cases hi : i < ρ.length
  · exact ⟨_, r.put hi h fun a ha j _ z => n a ha ⟨j, z⟩, fun a h => own_set h⟩
  · refine ⟨F, ?_, fun a h => .inl h⟩
    have hl := r.len
    rw [List.set_eq_of_length_le (l := σ) (by omega), List.set_eq_of_length_le (l := ρ) (by omega)]
    exact r
theorem simG_name {i : Nat} (hp : pn i = false) : SimG K pn (gName i) (tgN i) := by
  intro d ρ ρ' e v σ G H F L r h n Q q
  cases e
  obtain ⟨F', r', o⟩ := r.put' i h n
  exact q _ G H F' ((Tr.refl r.sub).post o) r' (Pin.set hp)
theorem simGs_nil : SimGs K pn gNil tgNil := by
  intro ds ρ ρ' e vs σ G H F L r h n Q q
  cases ds with
  | nil =>
    cases h
    cases e
    exact ⟨rfl, q σ G H F ((Tr.refl r.sub).post fun a h => .inl h) r Pin.refl⟩
  | cons _ _ => cases e
theorem simGs_cons {g : TG} {gs : TGs} {f : D → Env → Option Env} {fs : List D → Env → Option Env} (h1 : SimG K pn g f) (h2 : SimGs K pn gs fs) : SimGs K pn (gCons g gs) (tgCons f fs) := by
  intro ds ρ ρ' e vs σ G H F L r h n Q q
  cases h with
  | nil => cases e
  | cons hv hr nn =>
    rename_i v d L1 L2 vs ds
    have e1 : (f d ρ).bind (fun ρ1 => fs ds ρ1) = some ρ' := e
    cases hf : f d ρ with
    | none => rw [hf] at e1; cases e1
    | some ρ1 =>
      rw [hf] at e1
      refine ⟨v, vs, rfl, h1 d ρ ρ1 hf v σ G H F L1 r hv (fun a ha => n a (List.mem_append_left _ ha)) _ fun σ1 G1 H1 F1 t1 r1 p1 => ?_⟩
      have n2 : ∀ a ∈ L2, ¬ (own F a ∨ a ∈ L1) := fun a ha z => z.elim (n a (List.mem_append_right _ ha)) fun z => nn a z ha
      refine h2 ds ρ1 ρ' e1 vs σ1 G1 H1 F1 L2 r1 (hr.tr t1 n2) (t1.apart hr.owned n2) Q fun σ2 G2 H2 F2 t2 r2 p2 => ?_
      refine q σ2 G2 H2 F2 (Tr.trans (t1.wk (A2 := fun a => own F1 a ∨ a ∈ L2) (fun a h => ?_) fun a h => ?_) t2) r2 (p1.trans p2)
      · exact h.imp id fun z => List.mem_append_left _ z
      · rcases h with h | h
        · exact .inl h
        · exact .inr (.inl (.inr (List.mem_append_right _ h)))
theorem simG_tup {n : Nat} {gs : TGs} {fs : List D → Env → Option Env} (h : SimGs K pn gs fs) : SimG K pn (gTup K n gs) (tgT n fs) := by
  intro d ρ ρ' e v σ G H F L r hv nn Q q
  cases d with
  | tup xs =>
    cases hv with
    | tup hs hr =>
      rename_i a vs
      have e1 : (if xs.length = n then fs xs ρ else none) = some ρ' := e
      by_cases hn : xs.length = n
      · rw [if_pos hn] at e1
        exact ⟨a, vs, rfl, Same.seqT r.sub hs, by rw [hr.length]; exact hn, h xs ρ ρ' e1 vs σ G H F L r hr nn Q q⟩
      · rw [if_neg hn] at e1; cases e1
  | _ => cases e
theorem simS_pass : SimS K pn W tNext passF := by
  intro ρ o e σ G H F r E q
  cases e
  exact q σ G H F (Tr.refl r.sub) r Pin.refl
theorem simS_never : SimS K pn W tNever neverF := by
  intro ρ o e; cases e
theorem PostE.mono {σ σ1 : L2.St} {G H G1 H1 : Hp} {A A1 : Addr → Prop} {ρ' : Env} {R : L2.St → Hp → Prop} (q : PostE K pn σ G H A ρ' R) (t : Tr G H A G1 H1 A1) (p : Pin pn σ σ1) : PostE K pn σ1 G1 H1 A1 ρ' R :=
  fun σ' G' H' F' t' r' p' => q σ' G' H' F' (t.trans t') r' (p.trans p')
theorem Post.mono {σ σ1 : L2.St} {G H G1 H1 : Hp} {A A1 : Addr → Prop} {o : Out} {E : Ends} (q : Post K pn W σ G H A E o) (t : Tr G H A G1 H1 A1) (p : Pin pn σ σ1) : Post K pn W σ1 G1 H1 A1 E o := by
  cases o with
  | nx ρ' => exact PostE.mono q t p
  | bk ρ' => exact PostE.mono q t p
  | ct ρ' => exact PostE.mono q t p
  | rt d ρ' => exact fun v σ' G' H' F' L t' r' p' => q v σ' G' H' F' L (t.trans t') r' (p.trans p')
  | rz n d ρ' => exact fun σ' G' H' F' C dd v t' r' p' => q σ' G' H' F' C dd v (t.trans t') r' (p.trans p')
theorem simS_seq {t u : TS} {f g : FS} (h1 : SimS K pn W t f) (h2 : SimS K pn W u g) : SimS K pn W (tSeq t u) (seqF f g) := by
  intro ρ o e σ G H F r E q
  unfold seqF at e
  cases hf : f ρ with
  | none => rw [hf] at e; cases e
  | some o1 =>
    rw [hf] at e
    refine h1 ρ o1 hf σ G H F r _ ?_
    cases o1 with
    | nx ρ1 => exact fun σ1 G1 H1 F1 t1 r1 p1 => h2 ρ1 o e σ1 G1 H1 F1 r1 E (q.mono t1 p1)
    | bk ρ1 => cases e; exact q
    | ct ρ1 => cases e; exact q
    | rt d ρ1 => cases e; exact q
    | rz n d ρ1 => cases e; exact q
theorem simS_asg {te : TE} {g : TG} {f : FE} {fg : D → Env → Option Env} (h1 : SimE K te f) (h2 : SimG K pn g fg) : SimS K pn W (tAsg te g) (asgF f fg) := by
  intro ρ o e σ G H F r E q
  unfold asgF at e
  cases hf : f ρ with
  | none => rw [hf] at e; cases e
  | some p =>
    obtain ⟨d, ρ1⟩ := p
    rw [hf] at e
    have e1 : (fg d ρ1).bind (fun ρ' => some (Out.nx ρ')) = some o := e
    cases hg : fg d ρ1 with
    | none => rw [hg] at e1; cases e1
    | some ρ2 =>
      rw [hg] at e1; cases e1
      refine h1 ρ d ρ1 hf σ G H F r _ fun v G1 H1 F1 L t1 r1 rv n1 => ?_
      refine h2 d ρ1 ρ2 hg v σ G1 H1 F1 L r1 rv n1 _ fun σ2 G2 H2 F2 t2 r2 p2 => ?_
      exact q σ2 G2 H2 F2 (t1.trans t2) r2 p2
theorem simS_drop {te : TE} {f : FE} (h1 : SimE K te f) : SimS K pn W (tDrop te) (dropF f) := by
  intro ρ o e σ G H F r E q
  unfold dropF at e
  cases hf : f ρ with
  | none => rw [hf] at e; cases e
  | some p =>
    obtain ⟨d, ρ1⟩ := p
    rw [hf] at e; cases e
    exact h1 ρ d ρ1 hf σ G H F r _ fun v G1 H1 F1 L t1 r1 rv n1 => q σ G1 H1 F1 (t1.post fun a h => .inl h) r1 Pin.refl
theorem simS_ret {te : TE} {f : FE} (h1 : SimE K te f) : SimS K pn W (tRet te) (retF f) := by
  intro ρ o e σ G H F r E q
  unfold retF at e
  cases hf : f ρ with
  | none => rw [hf] at e; cases e
  | some p =>
    obtain ⟨d, ρ1⟩ := p
    rw [hf] at e; cases e
    exact h1 ρ d ρ1 hf σ G H F r _ fun v G1 H1 F1 L t1 r1 rv n1 => q v σ G1 H1 F1 L t1 r1 Pin.refl rv n1
theorem simS_if {c : TT} {t u : TS} {fc : FB} {f g : FS} (h0 : SimT K c fc) (h1 : SimS K pn W t f) (h2 : SimS K pn W u g) : SimS K pn W (tIfS c t u) (ifF fc f g) := by
  intro ρ o e σ G H F r E q
  unfold ifF at e
  cases hf : fc ρ with
  | none => rw [hf] at e; cases e
  | some p =>
    obtain ⟨b, ρ1⟩ := p
    rw [hf] at e
    refine h0 ρ b ρ1 hf σ G H F r _ fun G1 H1 F1 t1 r1 => ?_
    cases b with
    | true => rw [if_pos rfl]; exact h1 ρ1 o e σ G1 H1 F1 r1 E (q.mono t1 Pin.refl)
    | false => rw [if_neg Bool.false_ne_true]; exact h2 ρ1 o e σ G1 H1 F1 r1 E (q.mono t1 Pin.refl)
/-- a value is frozen -/
theorem REnv.frz {G H : Hp} {σ : L2.St} {ρ : Env} {F : Nat → List Addr} {v : V} {d : D} {L : List Addr} (r : REnv K G H σ ρ F) (h : Rep K G H v d L) (n : ∀ a ∈ L, ¬ own F a) :
    ∃ G1, Tr G H (fun a => own F a ∨ a ∈ L) G1 H (own F) ∧ REnv K G1 H σ ρ F ∧ Rep K G1 H v (freeze d) [] := by
  have ho := h.owned
  refine ⟨fun a => if a ∈ L then H a else G a, ?_⟩
  have hG : ∀ a, a ∉ L → (fun a => if a ∈ L then H a else G a : Hp) a = G a := fun a h => if_neg h
  have hG1 : ∀ a ∈ L, (fun a => if a ∈ L then H a else G a : Hp) a = H a := fun a h => if_pos h
  generalize (fun a => if a ∈ L then H a else G a : Hp) = G1 at hG hG1
  have s1 : Same G G1 := fun a o h => by
    have : a ∉ L := fun z => by rw [(ho a z).1] at h; cases h
    rw [hG a this]; exact h
  have s2 : Same G1 H := fun a o h => by
    by_cases z : a ∈ L
    · rw [hG1 a z] at h; exact h
    · rw [hG a z] at h; exact r.sub a o h
  refine ⟨⟨s1, s2, fun _ _ h _ => h, fun a o h n => hG a fun z => n (.inr z), fun a h => .inl (.inl h), fun _ h => h⟩, ⟨s2, r.len, fun i e q => ?_, r.off, r.dis⟩, h.frz s1 hG1⟩
  obtain ⟨w, e1, e2⟩ := r.at_ i e q
  exact ⟨w, e1, e2.keep ⟨s1, fun a ha hg => by rw [hG a fun z => n a z ⟨i, ha⟩]; exact hg, fun a _ => rfl⟩⟩
end
/-! ### a bool as a test, and the other way -/
def truD : D → Option Bool
  | .non => some false
  | .bl b => some b
  | .int i => some (i != 0)
  | .str y => if y.length ≤ sizeLine then some ((y.length : Int) != 0) else none
  | .tup xs => some (!xs.isEmpty)
  | .lst _ xs => some (!xs.isEmpty)
  | .ty _ => none
  | .scr ns => some (!ns.isEmpty)
  | .exc _ _ => none
  | .dct _ kvs => some (!kvs.isEmpty)
/-- an expression's truth -/
def tstF (o : Op) : FB := fun ρ => (evOps [o] ρ).bind fun p => (fetch [o] p.1 p.2).bind fun ds => match ds with
  | [d] => (truD d).bind fun b => some (b, p.2)
  | _ => none
def notF (f : FB) : FB := fun ρ => (f ρ).bind fun p => some (!p.1, p.2)
def andF (f g : FB) : FB := fun ρ => (f ρ).bind fun p => if p.1 = true then g p.2 else some (false, p.2)
def orF (f g : FB) : FB := fun ρ => (f ρ).bind fun p => if p.1 = true then some (true, p.2) else g p.2
/-- a test's answer as a value -/
def bE (f : FB) : FE := fun ρ => (f ρ).bind fun p => some (.bl p.1, p.2)
def bT (f : FE) : FB := fun ρ => (f ρ).bind fun p => match p.1 with
  | .bl b => some (b, p.2)
  | _ => none
def ifE (c : FB) (f g : FE) : FE := fun ρ => (c ρ).bind fun p => if p.1 = true then f p.2 else g p.2
def andV (f g : FE) : FE := fun ρ => (f ρ).bind fun p => match p.1 with
  | .bl true => g p.2
  | .bl false => some (.bl false, p.2)
  | _ => none
def orV (f g : FE) : FE := fun ρ => (f ρ).bind fun p => match p.1 with
  | .bl false => g p.2
  | .bl true => some (.bl true, p.2)
  | _ => none
def notV (f : FE) : FE := fun ρ => (f ρ).bind fun p => match p.1 with
  | .bl b => some (.bl (!b), p.2)
  | _ => none
section
variable {K : PySem.W.Frag}
theorem len_emp {vs : List V} {xs : List D} (h : vs.length = xs.length) : (!xs.isEmpty) = !vs.isEmpty := by
  cases vs <;> cases xs <;> first | rfl | cases h
theorem Rep.tru {G H : Hp} {v : V} {d : D} {L : List Addr} {b : Bool} (hs : Same G H) (r : Rep K G H v d L) (h : truD d = some b) : TruV K v H b := by
  cases r with
  | non => cases h; rfl
  | bl c => cases h; rfl
  | int i => cases h; rfl
  | ty n => cases h
  | exc _ _ _ _ => cases h
  | str s =>
    have h' : (if s.length ≤ sizeLine then some ((s.length : Int) != 0) else none) = some b := h
    by_cases hl : s.length ≤ sizeLine
    · rw [if_pos hl] at h'; cases h'; exact ⟨hl, rfl⟩
    · rw [if_neg hl] at h'; cases h'
  | tup q r =>
    cases h
    exact .inr (.inl ⟨_, Same.seqT hs q, len_emp r.length⟩)
  | scr q =>
    cases h
    exact .inl ⟨_, Same.seq hs q, by cases ‹List Int› <;> rfl⟩
  | lstS q r e =>
    cases h
    exact .inl ⟨_, SqL.of (hs _ _ q), len_emp r.length⟩
  | lstO _ q _ r =>
    cases h
    exact .inl ⟨_, SqL.of q, len_emp r.length⟩
  | dctS q =>
    cases h
    exact .inr (.inr ⟨_, hs _ _ q, by cases ‹List (Int × Int)› <;> rfl⟩)
  | dctO _ q =>
    cases h
    exact .inr (.inr ⟨_, q, by cases ‹List (Int × Int)› <;> rfl⟩)
theorem simT_tst {te : TE} {o : Op} (h : SimO K te o) : SimT K (fun σ H Q => te σ H fun x H' => ∃ k, TruV K x H' k ∧ Q k H') (tstF o) := by
  intro ρ b ρ' e σ G H F r Q q
  unfold tstF at e
  cases he : evOps [o] ρ with
  | none => rw [he] at e; cases e
  | some p =>
    obtain ⟨ts, ρ1⟩ := p
    rw [he] at e
    cases hf : fetch [o] ts ρ1 with
    | none =>
      have e2 : (fetch [o] ts ρ1).bind (fun ds => match ds with | [d] => (truD d).bind fun b => some (b, ρ1) | _ => none) = some (b, ρ') := e
      rw [hf] at e2; cases e2
    | some ds =>
      have e2 : (fetch [o] ts ρ1).bind (fun ds => match ds with | [d] => (truD d).bind fun b => some (b, ρ1) | _ => none) = some (b, ρ') := e
      rw [hf] at e2
      have key := simA_cons (ta := tNil) (ops := []) h simA_nil ρ ts ρ1 he σ G H F r (fun vs H1 => ∀ x, vs = [x] → ∃ k, TruV K x H1 k ∧ Q k H1) fun vs G1 H1 F1 M t1 r1 ok n1 x ev => ?_
      · have : te σ H fun x H1 => ∀ y, [x] = [y] → ∃ k, TruV K y H1 k ∧ Q k H1 := key
        have m : (fun (x : V) H1 => ∀ y, [x] = [y] → ∃ k, TruV K y H1 k ∧ Q k H1) = (fun x H1 => ∃ k, TruV K x H1 k ∧ Q k H1) := by
          funext x H1
          exact propext ⟨fun h => h x rfl, fun h y e => by cases e; exact h⟩
        rw [m] at this
        exact this
      · subst ev
        have rl := ok.get r1 hf
        cases rl with
        | cons rv rr =>
          cases rr
          rename_i d L
          cases ht : truD d with
          | none => have e3 : (truD d).bind (fun b => some (b, ρ1)) = some (b, ρ') := e2; rw [ht] at e3; cases e3
          | some b1 =>
            have e3 : (truD d).bind (fun b => some (b, ρ1)) = some (b, ρ') := e2
            rw [ht] at e3; cases e3
            exact ⟨b, rv.tru r1.sub ht, q G1 H1 F1 (t1.post fun a h => .inl h) r1⟩
theorem simT_of {te : TE} {f : FE} (h : SimE K te f) : SimT K (fun σ H Q => te σ H fun x H' => ∃ k, x = .bl k ∧ Q k H') (bT f) := by
  intro ρ b ρ' e σ G H F r Q q
  unfold bT at e
  cases hf : f ρ with
  | none => rw [hf] at e; cases e
  | some p =>
    obtain ⟨d, ρ1⟩ := p
    rw [hf] at e
    cases d with
    | bl c =>
      cases e
      refine h ρ _ _ hf σ G H F r _ fun v G1 H1 F1 L t1 r1 rv n1 => ?_
      cases rv
      exact ⟨_, rfl, q G1 H1 F1 (t1.post fun a h => .inl h) r1⟩
    | _ => cases e
theorem simT_not {t : TT} {f : FB} (h : SimT K t f) : SimT K (tNot t) (notF f) := by
  intro ρ b ρ' e σ G H F r Q q
  unfold notF at e
  cases hf : f ρ with
  | none => rw [hf] at e; cases e
  | some p =>
    rw [hf] at e; cases e
    exact h ρ _ _ hf σ G H F r _ fun G1 H1 F1 t1 r1 => q G1 H1 F1 t1 r1
theorem simT_and {t u : TT} {f g : FB} (h1 : SimT K t f) (h2 : SimT K u g) : SimT K (tAnd t u) (andF f g) := by
  intro ρ b ρ' e σ G H F r Q q
  unfold andF at e
  cases hf : f ρ with
  | none => rw [hf] at e; cases e
  | some p =>
    obtain ⟨c, ρ1⟩ := p
    rw [hf] at e
    refine h1 ρ c ρ1 hf σ G H F r _ fun G1 H1 F1 t1 r1 => ?_
    cases c with
    | true => rw [if_pos rfl]; exact h2 ρ1 b ρ' e σ G1 H1 F1 r1 Q fun G2 H2 F2 t2 r2 => q G2 H2 F2 (t1.trans t2) r2
    | false => cases e; rw [if_neg Bool.false_ne_true]; exact q G1 H1 F1 t1 r1
theorem simT_or {t u : TT} {f g : FB} (h1 : SimT K t f) (h2 : SimT K u g) : SimT K (tOr t u) (orF f g) := by
  intro ρ b ρ' e σ G H F r Q q
  unfold orF at e
  cases hf : f ρ with
  | none => rw [hf] at e; cases e
  | some p =>
    obtain ⟨c, ρ1⟩ := p
    rw [hf] at e
    refine h1 ρ c ρ1 hf σ G H F r _ fun G1 H1 F1 t1 r1 => ?_
    cases c with
    | true => cases e; rw [if_pos rfl]; exact q G1 H1 F1 t1 r1
    | false => rw [if_neg Bool.false_ne_true]; exact h2 ρ1 b ρ' e σ G1 H1 F1 r1 Q fun G2 H2 F2 t2 r2 => q G2 H2 F2 (t1.trans t2) r2
theorem simE_andV {ta tb : TE} {f g : FE} (h1 : SimE K ta f) (h2 : SimE K tb g) : SimE K (tAndV ta tb) (andV f g) := by
  intro ρ d ρ' e σ G H F r Q q
  unfold andV at e
  cases hf : f ρ with
  | none => rw [hf] at e; cases e
  | some p =>
    obtain ⟨b, ρ1⟩ := p
    rw [hf] at e
    refine h1 ρ b ρ1 hf σ G H F r _ fun v G1 H1 F1 L t1 r1 rv n1 => ?_
    cases b with
    | bl c =>
      cases rv
      refine ⟨c, rfl, ?_⟩
      have t1' : Tr G H (own F) G1 H1 (own F1) := t1.post fun a h => .inl h
      cases c with
      | true => rw [if_pos rfl]; exact h2 ρ1 d ρ' e σ G1 H1 F1 r1 Q fun v G2 H2 F2 L t2 r2 => q v G2 H2 F2 L (t1'.trans t2) r2
      | false => cases e; rw [if_neg Bool.false_ne_true]; exact q _ G1 H1 F1 [] (t1.post fun a h => .inl (h.elim id fun z => nomatch z)) r1 (.bl false) (fun a z => nomatch z)
    | _ => cases e
end
end VS
set_option Elab.async false
set_option linter.all false
set_option maxRecDepth 100000
namespace VS
open PySem PySem.Spec PyProof.Rows L2
/-! ### loops -/
abbrev FI := Env → Option (List D × Env)
def goFor (tg : D → Env → Option Env) (body : FS) : List D → Env → Option Out
  | [], ρ => some (.nx ρ)
  | d :: ds, ρ => (tg d ρ).bind fun ρ1 => (body ρ1).bind fun o => match o with
    | .nx ρ2 => goFor tg body ds ρ2
    | .ct ρ2 => goFor tg body ds ρ2
    | .bk ρ2 => some (.nx ρ2)
    | .rt d ρ2 => some (.rt d ρ2)
    | .rz n d ρ2 => some (.rz n d ρ2)
def forF (it : FI) (tg : D → Env → Option Env) (body : FS) : FS := fun ρ => (it ρ).bind fun p => goFor tg body p.1 p.2
structure JOk (K : PySem.W.Frag) (J : It) (G0 : Hp) (ds : List D) : Prop where
  goes : ∀ i H, i < ds.length → Same G0 H → J.go i H
  stops : ∀ H, Same G0 H → J.stop ds.length H
  yields : ∀ i d G H x H', ds[i]? = some d → Same G0 G → Same G H → J.yld i H x H' → ∃ G', Tr G H (fun _ => False) G' H' (fun _ => False) ∧ Rep K G' H' x d []
def SimI (K : PySem.W.Frag) (wi : TI) (fi : FI) : Prop := ∀ ρ ds ρ', fi ρ = some (ds, ρ') → ∀ (σ : L2.St) (G H : Hp) (F : Nat → List Addr), REnv K G H σ ρ F → ∀ R : It → Hp → Prop,
  (∀ J G' H' F', Tr G H (own F) G' H' (own F') → REnv K G' H' σ ρ' F' → JOk K J G' ds → R J H') → wi σ H R
section
variable {K : PySem.W.Frag} {pn : Nat → Bool} {W : WX}
theorem simS_for {wi : TI} {g : TG} {tb : TS} {fi : FI} {fg : D → Env → Option Env} {fb : FS} (hi : SimI K wi fi) (hg : SimG K pn g fg) (hb : SimS K pn W tb fb) : SimS K pn W (tFor wi g tb) (forF fi fg fb) := by
  intro ρ o e σ G H F r E q
  unfold forF at e
  cases hf : fi ρ with
  | none => rw [hf] at e; cases e
  | some p =>
    obtain ⟨ds, ρ1⟩ := p
    rw [hf] at e
    have e0 : goFor fg fb ds ρ1 = some o := e
    refine hi ρ ds ρ1 hf σ G H F r _ fun J G1 H1 F1 t1 r1 jo => ?_
    refine ⟨fun i m σ' H' => m = ds.length - i ∧ i ≤ ds.length ∧ ∃ ρi Gi Fi, goFor fg fb (ds.drop i) ρi = some o ∧ REnv K Gi H' σ' ρi Fi ∧ Tr G1 H1 (own F1) Gi H' (own Fi) ∧ Pin pn σ σ',
      ⟨ds.length, by omega, Nat.zero_le _, ρ1, G1, F1, e0, r1, Tr.refl r1.sub, Pin.refl⟩, ?_⟩
    rintro i m σ' H' ⟨rfl, hle, ρi, Gi, Fi, eg, ri, ti, pi⟩
    have sG : Same G1 Gi := ti.g
    have sH : Same G1 H' := ti.g.trans ti.sub
    have qi := q.mono (t1.trans ti) pi
    by_cases hlt : i < ds.length
    · refine .inr ⟨jo.goes i H' hlt sH, fun σ2 H2 => ∃ m', m' < ds.length - i ∧ (m' = ds.length - (i + 1) ∧ i + 1 ≤ ds.length ∧ ∃ ρj Gj Fj, goFor fg fb (ds.drop (i + 1)) ρj = some o ∧ REnv K Gj H2 σ2 ρj Fj ∧ Tr G1 H1 (own F1) Gj H2 (own Fj) ∧ Pin pn σ σ2), fun _ _ h => h, fun x H2 hy => ?_⟩
      have hd : ds[i]? = some ds[i] := List.getElem?_eq_getElem hlt
      obtain ⟨G2, t2, rv⟩ := jo.yields i ds[i] Gi H' x H2 hd sG ri.sub hy
      have r2 := ri.tr t2 (fun _ _ z => z)
      have t2' : Tr Gi H' (own Fi) G2 H2 (own Fi) := t2.wk (fun _ z => z.elim) fun a h => .inr (.inl h)
      rw [show ds.drop i = ds[i] :: ds.drop (i + 1) from List.drop_eq_getElem_cons hlt] at eg
      have eg1 : (fg ds[i] ρi).bind (fun ρ1 => (fb ρ1).bind fun o => match o with | .nx ρ2 => goFor fg fb (ds.drop (i + 1)) ρ2 | .ct ρ2 => goFor fg fb (ds.drop (i + 1)) ρ2 | .bk ρ2 => some (.nx ρ2) | .rt d ρ2 => some (.rt d ρ2) | .rz n d ρ2 => some (.rz n d ρ2)) = some o := eg
      cases hg1 : fg ds[i] ρi with
      | none => rw [hg1] at eg1; cases eg1
      | some ρ2 =>
        rw [hg1] at eg1
        have eg2 : (fb ρ2).bind (fun o => match o with | .nx ρ2 => goFor fg fb (ds.drop (i + 1)) ρ2 | .ct ρ2 => goFor fg fb (ds.drop (i + 1)) ρ2 | .bk ρ2 => some (Out.nx ρ2) | .rt d ρ2 => some (.rt d ρ2) | .rz n d ρ2 => some (.rz n d ρ2)) = some o := eg1
        refine hg ds[i] ρi ρ2 hg1 x σ' G2 H2 Fi [] r2 rv (fun a z => nomatch z) _ fun σ3 G3 H3 F3 t3 r3 p3 => ?_
        have t3' : Tr G2 H2 (own Fi) G3 H3 (own F3) := t3.wk (fun a h => h.elim id fun z => nomatch z) fun a h => .inl h
        have q3 := qi.mono (t2'.trans t3') p3
        have tt : Tr G1 H1 (own F1) G3 H3 (own F3) := ti.trans (t2'.trans t3')
        cases hb1 : fb ρ2 with
        | none => rw [hb1] at eg2; cases eg2
        | some o2 =>
          rw [hb1] at eg2
          refine hb ρ2 o2 hb1 σ3 G3 H3 F3 r3 _ ?_
          have go : ∀ ρ4, goFor fg fb (ds.drop (i + 1)) ρ4 = some o → PostE K pn σ3 G3 H3 (own F3) ρ4 (fun σ2 H2 => ∃ m', m' < ds.length - i ∧ (m' = ds.length - (i + 1) ∧ i + 1 ≤ ds.length ∧ ∃ ρj Gj Fj, goFor fg fb (ds.drop (i + 1)) ρj = some o ∧ REnv K Gj H2 σ2 ρj Fj ∧ Tr G1 H1 (own F1) Gj H2 (own Fj) ∧ Pin pn σ σ2)) :=
            fun ρ4 e4 σ4 G4 H4 F4 t4 r4 p4 => ⟨_, by omega, rfl, hlt, ρ4, G4, F4, e4, r4, tt.trans t4, pi.trans (p3.trans p4)⟩
          cases o2 with
          | nx ρ4 => exact go ρ4 eg2
          | ct ρ4 => exact go ρ4 eg2
          | bk ρ4 => cases eg2; exact q3
          | rt d ρ4 => cases eg2; exact q3
          | rz n d ρ4 => cases eg2; exact q3
    · have ei : i = ds.length := by omega
      subst ei
      rw [List.drop_length] at eg
      cases eg
      exact .inl ⟨jo.stops H' sH, qi σ' Gi H' Fi (Tr.refl ri.sub) ri Pin.refl⟩
/-! ### while, by fuel -/
def goWhile (c : FB) (body : FS) : Nat → Env → Option Out
  | 0, _ => none
  | n + 1, ρ => (c ρ).bind fun p => if p.1 = true then (body p.2).bind fun o => match o with
      | .nx ρ2 => goWhile c body n ρ2
      | .ct ρ2 => goWhile c body n ρ2
      | .bk ρ2 => some (.nx ρ2)
      | .rt d ρ2 => some (.rt d ρ2)
      | .rz n d ρ2 => some (.rz n d ρ2)
    else some (.nx p.2)
def whF (n : Nat) (c : FB) (body : FS) : FS := fun ρ => goWhile c body n ρ
theorem simS_while {c : TT} {tb : TS} {fc : FB} {fb : FS} (n : Nat) (hc : SimT K c fc) (hb : SimS K pn W tb fb) : SimS K pn W (tWhile c tb) (whF n fc fb) := by
  intro ρ o e σ G H F r E q
  have e0 : goWhile fc fb n ρ = some o := e
  refine ⟨fun m σ' H' => ∃ ρi Gi Fi, goWhile fc fb m ρi = some o ∧ REnv K Gi H' σ' ρi Fi ∧ Tr G H (own F) Gi H' (own Fi) ∧ Pin pn σ σ', ⟨n, ρ, G, F, e0, r, Tr.refl r.sub, Pin.refl⟩, ?_⟩
  rintro m σ' H' ⟨ρi, Gi, Fi, eg, ri, ti, pi⟩
  have qi := q.mono ti pi
  cases m with
  | zero => cases eg
  | succ m =>
    have eg1 : (fc ρi).bind (fun p => if p.1 = true then (fb p.2).bind (fun o => match o with | .nx ρ2 => goWhile fc fb m ρ2 | .ct ρ2 => goWhile fc fb m ρ2 | .bk ρ2 => some (.nx ρ2) | .rt d ρ2 => some (.rt d ρ2) | .rz n d ρ2 => some (.rz n d ρ2)) else some (.nx p.2)) = some o := eg
    cases hc1 : fc ρi with
    | none => rw [hc1] at eg1; cases eg1
    | some p =>
      obtain ⟨b, ρ2⟩ := p
      rw [hc1] at eg1
      refine hc ρi b ρ2 hc1 σ' Gi H' Fi ri _ fun G2 H2 F2 t2 r2 => ?_
      have q2 := qi.mono t2 Pin.refl
      cases b with
      | false =>
        rw [if_neg Bool.false_ne_true]
        cases eg1
        exact q2 σ' G2 H2 F2 (Tr.refl r2.sub) r2 Pin.refl
      | true =>
        rw [if_pos rfl]
        have eg2 : (fb ρ2).bind (fun o => match o with | .nx ρ2 => goWhile fc fb m ρ2 | .ct ρ2 => goWhile fc fb m ρ2 | .bk ρ2 => some (Out.nx ρ2) | .rt d ρ2 => some (.rt d ρ2) | .rz n d ρ2 => some (.rz n d ρ2)) = some o := eg1
        refine ⟨fun σ3 H3 => ∃ m', m' < m + 1 ∧ ∃ ρi Gi Fi, goWhile fc fb m' ρi = some o ∧ REnv K Gi H3 σ3 ρi Fi ∧ Tr G H (own F) Gi H3 (own Fi) ∧ Pin pn σ σ3, fun _ _ h => h, ?_⟩
        cases hb1 : fb ρ2 with
        | none => rw [hb1] at eg2; cases eg2
        | some o2 =>
          rw [hb1] at eg2
          refine hb ρ2 o2 hb1 σ' G2 H2 F2 r2 _ ?_
          have go : ∀ ρ4, goWhile fc fb m ρ4 = some o → PostE K pn σ' G2 H2 (own F2) ρ4 (fun σ3 H3 => ∃ m', m' < m + 1 ∧ ∃ ρi Gi Fi, goWhile fc fb m' ρi = some o ∧ REnv K Gi H3 σ3 ρi Fi ∧ Tr G H (own F) Gi H3 (own Fi) ∧ Pin pn σ σ3) :=
            fun ρ4 e4 σ4 G4 H4 F4 t4 r4 p4 => ⟨m, Nat.lt_succ_self m, ρ4, G4, F4, e4, r4, ti.trans (t2.trans t4), pi.trans p4⟩
          cases o2 with
          | nx ρ4 => exact go ρ4 eg2
          | ct ρ4 => exact go ρ4 eg2
          | bk ρ4 => cases eg2; exact q2
          | rt d ρ4 => cases eg2; exact q2
          | rz n d ρ4 => cases eg2; exact q2
/-! ### what is walked -/
theorem Rep.far {G H G1 H1 : Hp} {v : V} {d : D} (r : Rep K G H v d []) (k : Same G G1) : Rep K G1 H1 v d [] := r.keep ⟨k, fun _ z _ => (nomatch z), fun _ z => (nomatch z)⟩
theorem Reps.far {G H G1 H1 : Hp} {v : List V} {d : List D} (r : Reps K G H v d []) (k : Same G G1) : Reps K G1 H1 v d [] := r.keep ⟨k, fun _ z _ => (nomatch z), fun _ z => (nomatch z)⟩
theorem Reps.get0 {G H : Hp} : ∀ {vs : List V} {ds : List D} {L : List Addr} {i : Nat} {v : V} {d : D}, Reps K G H vs ds L → vs[i]? = some v → ds[i]? = some d → ∃ M, Rep K G H v d M ∧ ∀ a ∈ M, a ∈ L
  | _, _, _, i, _, _, .nil, h, _ => by simp at h
  | _, _, _, 0, _, _, .cons hv _ _, h1, h2 => by
    simp at h1 h2; subst h1; subst h2
    exact ⟨_, hv, fun a ha => List.mem_append_left _ ha⟩
  | _, _, _, i + 1, _, _, .cons _ hr _, h1, h2 => by
    obtain ⟨M, q, s⟩ := hr.get0 (i := i) (by simpa using h1) (by simpa using h2)
    exact ⟨M, q, fun a ha => List.mem_append_right _ (s a ha)⟩
theorem jok_list {G0 H0 : Hp} {a : Addr} {vs : List V} {ds : List D} (h : SqL K G0 a vs) (r : Reps K G0 H0 vs ds []) : JOk K (Itl K a) G0 ds := by
  have hl := r.length
  have w := walk_list (K := K) (a := a) (xs := vs)
  refine ⟨fun i H hi s => w.goes i H (by omega) (Same.seq s h), fun H s => by rw [← hl]; exact w.stops H (Same.seq s h), fun i d G H x H' hd s1 s2 y => ?_⟩
  have hi : i < vs.length := by rw [hl]; exact (List.getElem?_eq_some_iff.mp hd).1
  obtain ⟨e, hx⟩ := w.yields i H x H' hi (Same.seq (s1.trans s2) h) y
  subst e
  obtain ⟨M, q, s⟩ := r.get0 hx hd
  have : M = [] := List.eq_nil_iff_forall_not_mem.mpr fun a ha => nomatch s a ha
  subst this
  exact ⟨G, Tr.refl s2, q.far s1⟩
theorem jok_tup {G0 H0 : Hp} {a : Addr} {vs : List V} {ds : List D} (h : SqT K G0 a vs) (r : Reps K G0 H0 vs ds []) : JOk K (Itt K a) G0 ds := by
  have hl := r.length
  have w := walk_tup (K := K) (a := a) (xs := vs)
  refine ⟨fun i H hi s => w.goes i H (by omega) (Same.seqT s h), fun H s => by rw [← hl]; exact w.stops H (Same.seqT s h), fun i d G H x H' hd s1 s2 y => ?_⟩
  have hi : i < vs.length := by rw [hl]; exact (List.getElem?_eq_some_iff.mp hd).1
  obtain ⟨e, hx⟩ := w.yields i H x H' hi (Same.seqT (s1.trans s2) h) y
  subst e
  obtain ⟨M, q, s⟩ := r.get0 hx hd
  have : M = [] := List.eq_nil_iff_forall_not_mem.mpr fun a ha => nomatch s a ha
  subst this
  exact ⟨G, Tr.refl s2, q.far s1⟩
def intsTo (lo : Int) (n : Nat) : List D := (List.range n).map fun i => .int (lo + (i : Nat))
theorem jok_range {G0 : Hp} {lo : Int} {n : Nat} : JOk K (Itr lo n) G0 (intsTo lo n) := by
  have w := walk_range (lo := lo) (n := n)
  have hl : (intsTo lo n).length = n := by unfold intsTo; rw [List.length_map, List.length_range]
  refine ⟨fun i H hi _ => w.goes i H (by omega) trivial, fun H _ => by rw [hl]; exact w.stops H trivial, fun i d G H x H' hd s1 s2 y => ?_⟩
  have hi : i < n := by rw [← hl]; exact (List.getElem?_eq_some_iff.mp hd).1
  obtain ⟨e, hx⟩ := w.yields i H x H' hi trivial y
  subst e
  have : d = .int (lo + (i : Nat)) := by
    unfold intsTo at hd
    rw [List.getElem?_map, List.getElem?_range hi] at hd
    exact (Option.some.inj hd).symm
  subst this
  rw [hx]
  exact ⟨G, Tr.refl s2, .int _⟩
def intsBy (lo c : Int) (n : Nat) : List D := (List.range n).map fun i => .int (lo + (i : Nat) * c)
theorem jok_rangeC {G0 : Hp} {lo c : Int} {n : Nat} : JOk K (Itc lo c n) G0 (intsBy lo c n) := by
  have w := walk_rangeC (lo := lo) (c := c) (n := n)
  have hl : (intsBy lo c n).length = n := by unfold intsBy; rw [List.length_map, List.length_range]
  refine ⟨fun i H hi _ => w.goes i H (by omega) trivial, fun H _ => by rw [hl]; exact w.stops H trivial, fun i d G H x H' hd s1 s2 y => ?_⟩
  have hi : i < n := by rw [← hl]; exact (List.getElem?_eq_some_iff.mp hd).1
  obtain ⟨e, hx⟩ := w.yields i H x H' hi trivial y
  subst e
  have : d = .int (lo + (i : Nat) * c) := by
    unfold intsBy at hd
    rw [List.getElem?_map, List.getElem?_range hi] at hd
    exact (Option.some.inj hd).symm
  subst this
  rw [hx]
  exact ⟨G, Tr.refl s2, .int _⟩
/-- an iterator that gives new pairs -/
theorem jok_pair {G0 : Hp} {J : It} {n : Nat} {P : Hp → Prop} {xs ys : Nat → Option V} {ds es : List D} (w : Walk J n P (YPair xs ys)) (hP : ∀ H, Same G0 H → P H) (hl : ds.length = n) (hl2 : es.length = n)
    (hx : ∀ i d x G H, ds[i]? = some d → xs i = some x → Same G0 G → Rep K G H x d []) (hy : ∀ i d x G H, es[i]? = some d → ys i = some x → Same G0 G → Rep K G H x d []) : JOk K J G0 ((ds.zip es).map fun p => .tup [p.1, p.2]) := by
  have hz : ((ds.zip es).map fun p => D.tup [p.1, p.2]).length = n := by rw [List.length_map, List.length_zip]; omega
  refine ⟨fun i H hi s => w.goes i H (by omega) (hP H s), fun H s => by rw [hz]; exact w.stops H (hP H s), fun i d G H x H' hd s1 s2 y => ?_⟩
  have hi : i < n := by rw [← hz]; exact (List.getElem?_eq_some_iff.mp hd).1
  obtain ⟨T, u, v, rfl, hT, rfl, h1, h2⟩ := w.yields i H x H' hi (hP H (s1.trans s2)) y
  have i1 : i < ds.length := by omega
  have i2 : i < es.length := by omega
  have : d = .tup [ds[i], es[i]] := by
    have hzz : (ds.zip es)[i]? = some (ds[i], es[i]) := List.getElem?_zip_eq_some.mpr ⟨List.getElem?_eq_getElem i1, List.getElem?_eq_getElem i2⟩
    rw [List.getElem?_map, hzz] at hd
    exact (Option.some.inj hd).symm
  subst this
  refine ⟨_, Tr.newG s2 hT, .tup (.inl (.inl upd_same)) ?_⟩
  have sn : Same G (upd G T (.tup [u, v])) := (Tr.newG (A := fun _ => False) s2 hT).g
  have r1 := hx i _ u (upd G T (.tup [u, v])) (upd H T (.tup [u, v])) (List.getElem?_eq_getElem i1) h1 (s1.trans sn)
  have r2 := hy i _ v (upd G T (.tup [u, v])) (upd H T (.tup [u, v])) (List.getElem?_eq_getElem i2) h2 (s1.trans sn)
  exact .cons r1 (.cons r2 .nil fun a z => nomatch z) fun a z => nomatch z
end
end VS
set_option Elab.async false
set_option linter.all false
set_option maxRecDepth 100000
namespace VS
open PySem PySem.Spec PyProof.Rows L2
/-! ### the program's text and its data: the readings told by the data alone -/
section
variable (K : PySem.W.Frag) (pn : Nat → Bool) (W : WX)
def teOf (f : FE) : TE := fun σ H Q => ∃ ρ d ρ' G F, f ρ = some (d, ρ') ∧ REnv K G H σ ρ F ∧ ∀ v G' H' F' L, Tr G H (own F) G' H' (fun a => own F' a ∨ a ∈ L) → REnv K G' H' σ ρ' F' → Rep K G' H' v d L → (∀ a ∈ L, ¬ own F' a) → Q v H'
def ttOf (f : FB) : TT := fun σ H Q => ∃ ρ b ρ' G F, f ρ = some (b, ρ') ∧ REnv K G H σ ρ F ∧ ∀ G' H' F', Tr G H (own F) G' H' (own F') → REnv K G' H' σ ρ' F' → Q b H'
def taOf (ops : List Op) : TA := fun σ H Q => ∃ ρ ts ρ' G F, evOps ops ρ = some (ts, ρ') ∧ REnv K G H σ ρ F ∧ ∀ vs G' H' F' M, Tr G H (own F) G' H' (fun a => own F' a ∨ a ∈ M) → REnv K G' H' σ ρ' F' → OpsOk K G' H' σ ops ts vs M → (∀ a ∈ M, ¬ own F' a) → Q vs H'
def tsOf (f : FS) : TS := fun E σ H => ∃ ρ o G F, f ρ = some o ∧ REnv K G H σ ρ F ∧ Post K pn W σ G H (own F) E o
def tgOf (f : D → Env → Option Env) : TG := fun v σ H Q => ∃ d ρ ρ' G F L, f d ρ = some ρ' ∧ REnv K G H σ ρ F ∧ Rep K G H v d L ∧ (∀ a ∈ L, ¬ own F a) ∧ PostE K pn σ G H (fun a => own F a ∨ a ∈ L) ρ' Q
def tgsOf (f : List D → Env → Option Env) : TGs := fun vs σ H Q => ∃ ds ρ ρ' G F L, f ds ρ = some ρ' ∧ REnv K G H σ ρ F ∧ Reps K G H vs ds L ∧ (∀ a ∈ L, ¬ own F a) ∧ PostE K pn σ G H (fun a => own F a ∨ a ∈ L) ρ' Q
def tiOf (f : FI) : TI := fun σ H R => ∃ ρ ds ρ' G F, f ρ = some (ds, ρ') ∧ REnv K G H σ ρ F ∧ ∀ J G' H' F', Tr G H (own F) G' H' (own F') → REnv K G' H' σ ρ' F' → JOk K J G' ds → R J H'
end
section
variable {K : PySem.W.Frag} {pn : Nat → Bool} {W : WX}
theorem simE_of (f : FE) : SimE K (teOf K f) f := fun ρ d ρ' e σ G H F r Q q => ⟨ρ, d, ρ', G, F, e, r, q⟩
theorem simT_of' (f : FB) : SimT K (ttOf K f) f := fun ρ b ρ' e σ G H F r Q q => ⟨ρ, b, ρ', G, F, e, r, q⟩
theorem simA_of (f : List Op) : SimA K (taOf K f) f := fun ρ ts ρ' e σ G H F r Q q => ⟨ρ, ts, ρ', G, F, e, r, q⟩
theorem simS_of (f : FS) : SimS K pn W (tsOf K pn W f) f := fun ρ o e σ G H F r E q => ⟨ρ, o, G, F, e, r, q⟩
theorem simG_of (f : D → Env → Option Env) : SimG K pn (tgOf K pn f) f := fun d ρ ρ' e v σ G H F L r h n Q q => ⟨d, ρ, ρ', G, F, L, e, r, h, n, q⟩
theorem simGs_of (f : List D → Env → Option Env) : SimGs K pn (tgsOf K pn f) f := fun d ρ ρ' e v σ G H F L r h n Q q => ⟨d, ρ, ρ', G, F, L, e, r, h, n, q⟩
theorem simI_of (f : FI) : SimI K (tiOf K f) f := fun ρ ds ρ' e σ G H F r R q => ⟨ρ, ds, ρ', G, F, e, r, q⟩
end
section
variable (X : Cx) (pn : Nat → Bool) (W : WX)
abbrev PEf (e : Expr) (f : FE) : Prop := PE X e (teOf X.K f)
abbrev PTf (e : Expr) (f : FB) : Prop := PT X e (ttOf X.K f)
abbrev PWf (e : Expr) (f : FB) : Prop := PW X e (ttOf X.K f)
def POf (e : Expr) : Op → Prop
  | .b i => PE X e (tVar i)
  | .t f => PEf X e f
abbrev PAf (es : List Expr) (ops : List Op) : Prop := PA X es (taOf X.K ops)
abbrev PSf (st : Stmt) (f : FS) : Prop := PS X st (tsOf X.K pn W f)
abbrev PSsf (st : List Stmt) (f : FS) : Prop := PSs X st (tsOf X.K pn W f)
abbrev PGf (e : Expr) (f : D → Env → Option Env) : Prop := PG X e (tgOf X.K pn f)
abbrev PGsf (es : List Expr) (f : List D → Env → Option Env) : Prop := PGs X es (tgsOf X.K pn f)
abbrev PIf (tg e : Expr) (f : FI) : Prop := PI X tg e (tiOf X.K f)
end
section
variable {X : Cx} {pn : Nat → Bool} {W : WX} {e a b : Expr} {es : List Expr} {pos : Pos}
theorem PEf.mk {te : TE} {f : FE} (h : PE X e te) (s : SimE X.K te f) : PEf X e f := ⟨fun pins sh σ H Q I ⟨ρ, d, ρ', G, F, ee, r, q⟩ => h.run pins sh σ H Q I (s ρ d ρ' ee σ G H F r Q q)⟩
theorem PTf.mk {te : TT} {f : FB} (h : PT X e te) (s : SimT X.K te f) : PTf X e f := ⟨fun pins sh σ H Q I ⟨ρ, d, ρ', G, F, ee, r, q⟩ => h.run pins sh σ H Q I (s ρ d ρ' ee σ G H F r Q q)⟩
theorem PWf.mk {te : TT} {f : FB} (h : PW X e te) (s : SimT X.K te f) : PWf X e f := ⟨fun w pins sh σ H Q I ⟨ρ, d, ρ', G, F, ee, r, q⟩ => h.run w pins sh σ H Q I (s ρ d ρ' ee σ G H F r Q q)⟩
theorem PAf.mk {te : TA} {f : List Op} (h : PA X es te) (s : SimA X.K te f) : PAf X es f := ⟨fun p pins sh σ H Q I ⟨ρ, d, ρ', G, F, ee, r, q⟩ => h.run p pins sh σ H Q I (s ρ d ρ' ee σ G H F r Q q)⟩
theorem PSf.mk {st : Stmt} {te : TS} {f : FS} (h : PS X st te) (s : SimS X.K pn W te f) : PSf X pn W st f := ⟨fun pins sh σ H Q I ⟨ρ, d, G, F, ee, r, q⟩ => h.run pins sh σ H Q I (s ρ d ee σ G H F r Q q)⟩
theorem PSsf.mk {st : List Stmt} {te : TS} {f : FS} (h : PSs X st te) (s : SimS X.K pn W te f) : PSsf X pn W st f := ⟨fun pins sh σ H Q I ⟨ρ, d, G, F, ee, r, q⟩ => h.run pins sh σ H Q I (s ρ d ee σ G H F r Q q)⟩
theorem PGf.mk {te : TG} {f : D → Env → Option Env} (h : PG X e te) (s : SimG X.K pn te f) : PGf X pn e f := ⟨fun pins sh σ H v u Q I rv ⟨d, ρ, ρ', G, F, L, ee, r, hr, n, q⟩ => h.run pins sh σ H v u Q I rv (s d ρ ρ' ee v σ G H F L r hr n Q q)⟩
theorem PGsf.mk {te : TGs} {f : List D → Env → Option Env} (h : PGs X es te) (s : SimGs X.K pn te f) : PGsf X pn es f := ⟨fun pins sh σ H v u Q I rv ⟨d, ρ, ρ', G, F, L, ee, r, hr, n, q⟩ => h.run pins sh σ H v u Q I rv (s d ρ ρ' ee v σ G H F L r hr n Q q)⟩
theorem PIf.mk {tg : Expr} {te : TI} {f : FI} (h : PI X tg e te) (s : SimI X.K te f) : PIf X tg e f := ⟨fun pins sh σ H R I ⟨ρ, ds, ρ', G, F, ee, r, q⟩ => h.run pins sh σ H R I (s ρ ds ρ' ee σ G H F r R q)⟩
theorem POf.ex {o : Op} (h : POf X e o) : ∃ te, PE X e te ∧ SimO X.K te o := by
  cases o with
  | b i => exact ⟨_, h, rfl⟩
  | t f => exact ⟨_, h, simE_of f⟩
theorem po_b {i : Nat} (h : PE X e (tVar i)) : POf X e (.b i) := h
theorem po_t {f : FE} (h : PEf X e f) : POf X e (.t f) := h
theorem pf_var {i : Nat} (h : PE X e (tVar i)) : PEf X e (varF i) := .mk h (simE_var i)
theorem pf_mov {i : Nat} (h : PE X e (tVar i)) : PEf X e (movF i) := .mk h (simE_mov i)
theorem pf_int {i : Int} {j} : PEf X (.Constant (.int i) j pos) (litF (.int i)) := .mk pe_int (simE_lit fun _ _ => .int i)
theorem pf_bl {i : Bool} {j} : PEf X (.Constant (.bool i) j pos) (litF (.bl i)) := .mk pe_bl (simE_lit fun _ _ => .bl i)
theorem pf_non {j} : PEf X (.Constant .none j pos) (litF .non) := .mk pe_non (simE_lit fun _ _ => .non)
theorem paf_nil : PAf X [] [] := .mk pa_nil simA_nil
theorem paf_cons {o : Op} {ops : List Op} (h1 : POf X e o) (h2 : PAf X es ops) (hs : starEach (e :: es) X.env = (false, eval e X.env) :: starEach es X.env := by rfl) : PAf X (e :: es) (o :: ops) := by
  obtain ⟨te, p1, s1⟩ := h1.ex
  exact .mk (pa_cons p1 h2 hs) (simA_cons s1 (simA_of _))
/-- a two-place rule on a list of two -/
def r2L (r : R2) : List V → Hp → VK → Prop := fun vs H Q => match vs with
  | [x, y] => r x y H Q
  | _ => False
def r1L (r : V → Hp → VK → Prop) : List V → Hp → VK → Prop := fun vs H Q => match vs with
  | [x] => r x H Q
  | _ => False
theorem pf_bin {op : Operator} {r : R2} {g : List D → Option D} {o1 o2 : Op} (ho : OpR X (binaryOp op) r) (hv : VOk X.K (r2L r) g) (h1 : POf X a o1) (h2 : POf X b o2) : PEf X (.BinOp a op b pos) (opF g [o1, o2]) := by
  obtain ⟨ta, p1, s1⟩ := h1.ex
  obtain ⟨tb, p2, s2⟩ := h2.ex
  exact .mk (pe_op ho p1 p2) (simE_op (simA_cons s1 (simA_cons s2 simA_nil)) hv)
theorem pf_un {op : UnaryOp} {r : V → Hp → VK → Prop} {g : List D → Option D} {o1 : Op} (ho : UnR X (unaryOp op) r) (hv : VOk X.K (r1L r) g) (h1 : POf X a o1) : PEf X (.UnaryOp op a pos) (opF g [o1]) := by
  obtain ⟨ta, p1, s1⟩ := h1.ex
  exact .mk (pe_un ho p1) (simE_op (simA_cons s1 simA_nil) hv)
theorem pf_cmp {op : CmpOp} {r : R2} {g : List D → Option D} {o1 o2 : Op} (ho : OpR X (compareOp op) r) (hv : VOk X.K (r2L r) g) (h1 : POf X a o1) (h2 : POf X b o2) (hm : behindInMarks op b = false) : PEf X (.Compare a [op] [b] pos) (opF g [o1, o2]) := by
  obtain ⟨ta, p1, s1⟩ := h1.ex
  obtain ⟨tb, p2, s2⟩ := h2.ex
  exact .mk (pe_cmpR ho p1 p2 hm) (simE_op (simA_cons s1 (simA_cons s2 simA_nil)) hv)
theorem pt_cmpf {op : CmpOp} {r : R2} {g : List D → Option D} {o1 o2 : Op} (ho : OpR X (compareOp op) r) (hv : VOk X.K (r2L r) g) (h1 : POf X a o1) (h2 : POf X b o2) (hm : behindInMarks op b = false) : PTf X (.Compare a [op] [b] pos) (bT (opF g [o1, o2])) := by
  obtain ⟨ta, p1, s1⟩ := h1.ex
  obtain ⟨tb, p2, s2⟩ := h2.ex
  exact .mk (pt_cmpR ho p1 p2 hm) (simT_of (simE_op (simA_cons s1 (simA_cons s2 simA_nil)) hv))
theorem pf_ix {r : R2} {g : List D → Option D} {o1 o2 : Op} (ho : IxR X r) (hv : VOk X.K (r2L r) g) (h1 : POf X a o1) (h2 : POf X b o2) (hs : PlainIx b) : PEf X (.Subscript a b pos) (opF g [o1, o2]) := by
  obtain ⟨ta, p1, s1⟩ := h1.ex
  obtain ⟨tb, p2, s2⟩ := h2.ex
  exact .mk (pe_ix ho p1 p2 hs) (simE_op (simA_cons s1 (simA_cons s2 simA_nil)) hv)
theorem pf_callB {id : String} {x : Str} {p : Pos} {o : Op} {r : List V → Hp → VK → Prop} {g : List D → Option D} {ops : List Op} (hc : CallR X (.builtin id) r) (hv' : VOk X.K r g) (hg : Gl X x) (hm : X.mg x = none) (hv : bootBuiltins x = some (.builtin id)) (ha : PAf X (e :: es) (o :: ops)) (hn : x ≠ "__name__" := by decide) (hdb : (x == ("__debug__" : Str)) = false := by decide)
    (he : starEach (e :: es) X.env = (false, eval e X.env) :: starEach es X.env := by rfl) (hpl : (backTo pos (starEach es X.env)).any (·.1) = false := by rfl) : PEf X (.Call (.Name x p) (e :: es) [] pos) (opF g (o :: ops)) :=
  .mk (pe_callB hc hg hm hv ha hn hdb he hpl) (simE_op (simA_of _) hv')
theorem pf_callTy {T : String} {x : Str} {p : Pos} {o : Op} {r : List V → Hp → VK → Prop} {g : List D → Option D} {ops : List Op} (hc : CallR X (.type T) r) (hv' : VOk X.K r g) (hg : Gl X x) (hm : X.mg x = none) (hv : bootBuiltins x = some (.type T)) (ha : PAf X (e :: es) (o :: ops)) (hn : x ≠ "__name__" := by decide) (hdb : (x == ("__debug__" : Str)) = false := by decide)
    (he : starEach (e :: es) X.env = (false, eval e X.env) :: starEach es X.env := by rfl) (hpl : (backTo pos (starEach es X.env)).any (·.1) = false := by rfl) : PEf X (.Call (.Name x p) (e :: es) [] pos) (opF g (o :: ops)) :=
  .mk (pe_callTy hc hg hm hv ha hn hdb he hpl) (simE_op (simA_of _) hv')
/-! tests -/
theorem pt_tst {o : Op} (h : POf X e o) (he : ∀ whole, isTrue e X.env whole = (do let v ← whole; standAt e.pos; holding [v] (truthy v)) := by intro _; rfl) : PTf X e (tstF o) := by
  obtain ⟨te, p1, s1⟩ := h.ex
  exact .mk (pt_truth p1 he) (simT_tst s1)
theorem ptf_not {f : FB} (h : PTf X a f) : PTf X (.UnaryOp .Not a pos) (notF f) := .mk (pt_not h) (simT_not (simT_of' f))
theorem pwf_and1 {f : FB} (h : PTf X a f) : PWf X (.BoolOp .And [a] pos) f := pw_and1 h
theorem pwf_or1 {f : FB} (h : PTf X a f) : PWf X (.BoolOp .Or [a] pos) f := pw_or1 h
theorem pwf_and {rest : List Expr} {f g : FB} (h : PTf X a f) (h2 : PWf X (.BoolOp .And (b :: rest) pos) g) : PWf X (.BoolOp .And (a :: b :: rest) pos) (andF f g) := .mk (pw_and h h2) (simT_and (simT_of' f) (simT_of' g))
theorem pwf_or {rest : List Expr} {f g : FB} (h : PTf X a f) (h2 : PWf X (.BoolOp .Or (b :: rest) pos) g) : PWf X (.BoolOp .Or (a :: b :: rest) pos) (orF f g) := .mk (pw_or h h2) (simT_or (simT_of' f) (simT_of' g))
theorem PWf.pt {f : FB} (h : PWf X e f) : PTf X e f := L2.PW.pt h
theorem pf_one {op} {f : FE} (h : PEf X a f) : PEf X (.BoolOp op [a] pos) f := pe_one h
theorem pf_and {rest : List Expr} {f g : FE} (h : PEf X a f) (h2 : PEf X (.BoolOp .And (b :: rest) pos) g) : PEf X (.BoolOp .And (a :: b :: rest) pos) (andV f g) := .mk (pe_and h h2) (simE_andV (simE_of f) (simE_of g))
/-! statements -/
theorem psf_nil : PSsf X pn W [] passF := .mk pss_nil simS_pass
theorem psf_cons {st : Stmt} {rest : List Stmt} {f g : FS} (h1 : PSf X pn W st f) (h2 : PSsf X pn W rest g) : PSsf X pn W (st :: rest) (seqF f g) := .mk (pss_cons h1 h2) (simS_seq (simS_of f) (simS_of g))
theorem psf_one {st : Stmt} {f : FS} (h1 : PSf X pn W st f) : PSsf X pn W [st] f := pss_one h1
theorem psf_never {st : Stmt} : PSf X pn W st neverF := .mk ps_never simS_never
theorem psf_expr {f : FE} (h : PEf X e f) (hs : swapsWith e none pos.line X.env = pure false := by rfl) : PSf X pn W (.Expr e pos) (dropF f) := .mk (ps_expr h hs) (simS_drop (simE_of f))
theorem psf_ret {f : FE} (h : PEf X e f) : PSf X pn W (.Return (some e) pos) (retF f) := .mk (ps_ret h) (simS_ret (simE_of f))
theorem psf_if {c : Expr} {A B : List Stmt} {fc : FB} {f g : FS} (hc : PTf X c fc) (h1 : PSsf X pn W A f) (h2 : PSsf X pn W B g) : PSf X pn W (.If c A B pos) (ifF fc f g) := .mk (ps_if hc h1 h2) (simS_if (simT_of' fc) (simS_of f) (simS_of g))
theorem psf_asg {tg : Expr} {f : FE} {g : D → Env → Option Env} (h : PEf X e f) (hg : PGf X pn tg g) (hs : swapsWithSole [tg] e pos.line X.env = pure false := by rfl) (hw : swappedStores [tg] e X.env = pure none := by rfl)
    (h1 : (assignEach [tg] X.env).map (·.2) = [assign tg X.env] := by rfl) : PSf X pn W (.Assign [tg] e pos) (asgF f g) := .mk (ps_asg h hg hs hw h1) (simS_asg (simE_of f) (simG_of g))
theorem psf_set {i : Nat} {x : Str} {pos' : Pos} {f : FE} (hN : X.N.Nodup) (hi : X.N[i]? = some x) (hx : Loc X.env.scope x) (hp : pn i = false) (h : PEf X e f) (hs : swapsWith e (some (.Name x pos')) pos.line X.env = pure false := by rfl) (hf : X.fn x = true ∨ X.env.scope.names.lookup x = some .local := by first | exact .inl rfl | exact .inr rfl | assumption) :
    PSf X pn W (.Assign [.Name x pos'] e pos) (asgF f (tgN i)) := .mk (ps_set hN hi hx h hs hf) (simS_asg (simE_of f) (simG_name hp))
theorem pgf_name {i : Nat} {x : Str} (hN : X.N.Nodup) (hi : X.N[i]? = some x) (hx : Loc X.env.scope x) (hp : pn i = false) (hf : X.fn x = true ∨ X.env.scope.names.lookup x = some .local := by first | exact .inl rfl | exact .inr rfl | assumption) : PGf X pn (.Name x pos) (tgN i) := .mk (pg_name hN hi hx hf) (simG_name hp)
theorem pgsf_nil : PGsf X pn [] tgNil := .mk pgs_nil simGs_nil
theorem pgsf_cons {g : D → Env → Option Env} {gs : List D → Env → Option Env} (h1 : PGf X pn e g) (h2 : PGsf X pn es gs) (hs : (assignEach (e :: es) X.env).map (·.2) = assign e X.env :: (assignEach es X.env).map (·.2) := by rfl) : PGsf X pn (e :: es) (tgCons g gs) := .mk (pgs_cons h1 h2 hs) (simGs_cons (simG_of g) (simGs_of gs))
theorem pgf_tup {k n : Nat} {gs : List D → Env → Option Env} (hc : X.calm = true) (h : PGsf X pn es gs) (hn : (assignEach es X.env).length = n := by rfl) (hst : (assignEach es X.env).findIdx? (·.1) = none := by rfl) : PGf X pn (.Tuple es k pos) (tgT n gs) := .mk (pg_tup hc h hn hst) (simG_tup (simGs_of gs))
theorem psf_for {tg iter : Expr} {body : List Stmt} {fi : FI} {g : D → Env → Option Env} {f : FS} (hp : PassesOwn (model X.prog X.w) X.A X.env X.xe) (hc : X.calm = true) (hi : PIf X tg iter fi) (hg : PGf X pn tg g) (hb : PSsf X pn W body f)
    (hs : ∀ x, foldedSetIterable iter X.env x = pure x := by intro _; rfl) : PSf X pn W (.For tg iter body [] pos) (forF fi g f) := .mk (ps_for hp hc hi hg hb hs) (simS_for (simI_of fi) (simG_of g) (simS_of f))
theorem psf_while {c : Expr} {body : List Stmt} {fc : FB} {f : FS} (n : Nat) (hp : PassesOwn (model X.prog X.w) X.A X.env X.xe) (hc : PTf X c fc) (hb : PSsf X pn W body f) : PSf X pn W (.While c body [] pos) (whF n fc f) := .mk (ps_while hp hc hb) (simS_while n (simT_of' fc) (simS_of f))
end
end VS
set_option Elab.async false
set_option linter.all false
set_option maxRecDepth 100000
namespace VS
open PySem PySem.Spec PyProof.Rows L2
/-! ### operands that are kept: what is read off a slot bears nothing owned -/
def takeN : List Op → List (Option D) → Env → Option (List D)
  | .b i :: r, _ :: ts, ρ => (getS ρ i).bind fun d => if noOwn d = true then (takeN r ts ρ).bind fun ds => some (d :: ds) else none
  | .t _ :: r, some d :: ts, ρ => (takeN r ts ρ).bind fun ds => some (d :: ds)
  | [], _, _ => some []
  | _, _, _ => none
def smallL : Nat := 100000
def tupF (ops : List Op) : FE := fun ρ => (evOps ops ρ).bind fun p => (takeN ops p.1 p.2).bind fun ds => if ds.length ≤ smallL then some (.tup ds, p.2) else none
def lstF (ops : List Op) : FE := fun ρ => (evOps ops ρ).bind fun p => (takeN ops p.1 p.2).bind fun ds => if ds.length ≤ smallL then some (.lst true ds, p.2) else none
/-- a method of a list that stands in a slot -/
def mutF (i : Nat) (g : List D → List D → Option (D × List D)) (ops : List Op) : FE := fun ρ => match getS ρ i with
  | some (.lst true _) => (evOps ops ρ).bind fun p => (takeN ops p.1 p.2).bind fun ds => match getS p.2 i with
    | some (.lst true xs) => (g xs ds).bind fun q => some (q.1, p.2.set i (some (.lst true q.2)))
    | _ => none
  | _ => none
section
variable {K : PySem.W.Frag} {pn : Nat → Bool} {W : WX}
theorem small_line {n : Nat} (h : n ≤ smallL) : n ≤ sizeLine := Nat.le_trans h (by decide)
theorem OpsOk.take {G H : Hp} {σ : L2.St} {ρ : Env} {F : Nat → List Addr} (r : REnv K G H σ ρ F) : ∀ {ops : List Op} {ts : List (Option D)} {vs : List V} {M : List Addr} {ds : List D}, OpsOk K G H σ ops ts vs M → takeN ops ts ρ = some ds → Reps K G H vs ds M
  | _, _, _, _, ds, .nil, e => by
    unfold takeN at e; cases e; exact .nil
  | .b i :: ops, o :: ts, v :: vs, M, ds, .b hv ok, e => by
    unfold takeN at e
    cases hd : getS ρ i with
    | none => rw [hd] at e; cases e
    | some d =>
      rw [hd] at e
      have e1 : (if noOwn d = true then (takeN ops ts ρ).bind fun ds => some (d :: ds) else none) = some ds := e
      by_cases hn : noOwn d = true
      · rw [if_pos hn] at e1
        cases he : takeN ops ts ρ with
        | none => rw [he] at e1; cases e1
        | some ds1 =>
          rw [he] at e1; cases e1
          obtain ⟨w, hw, hr⟩ := r.at_ i d hd
          rw [hv] at hw; cases hw
          have h0 := hr.noL hn
          rw [h0] at hr
          have := Reps.cons hr (ok.take r he) (fun a z => nomatch z)
          exact this
      · rw [if_neg hn] at e1; cases e1
  | .t f :: ops, some d :: ts, v :: vs, _, ds, .t hr hn ok, e => by
    unfold takeN at e
    cases he : takeN ops ts ρ with
    | none => rw [he] at e; cases e
    | some ds1 => rw [he] at e; cases e; exact .cons hr (ok.take r he) hn
theorem simE_disp {ta : TA} {ops : List Op} {mk : List V → HO} {f : FE} {mkD : List D → D} (h : SimA K ta ops)
    (hf : ∀ ρ d ρ', f ρ = some (d, ρ') → ∃ ts ds, evOps ops ρ = some (ts, ρ') ∧ takeN ops ts ρ' = some ds ∧ ds.length ≤ smallL ∧ d = mkD ds)
    (hm : ∀ (G H : Hp) (vs : List V) (ds : List D) (M : List Addr) (p : Addr), Same G H → H p = none → Reps K G H vs ds M → ∃ G' L, Tr G H (fun a => a ∈ M) G' (upd H p (mk vs)) (fun a => a ∈ L) ∧ (∀ a, H a ≠ none → a ∉ M → a ∉ L) ∧ Rep K G' (upd H p (mk vs)) (.ref p) (mkD ds) L) :
    SimE K (fun σ H Q => ta σ H fun xs H1 => xs.length ≤ sizeLine ∧ ∀ p, H1 p = none → Q (.ref p) (upd H1 p (mk xs))) f := by
  intro ρ d ρ' e σ G H F r Q q
  obtain ⟨ts, ds, he, ht, hz, rfl⟩ := hf ρ d ρ' e
  refine h ρ ts ρ' he σ G H F r _ fun vs G1 H1 F1 M t1 r1 ok n1 => ?_
  have rs := ok.take r1 ht
  refine ⟨by rw [rs.length]; exact small_line hz, fun p hp => ?_⟩
  obtain ⟨G2, L, t2, hL, rv⟩ := hm G1 H1 vs ds M p r1.sub hp rs
  have nF : ∀ a, own F1 a → a ∉ M := fun a h m => n1 a m h
  have r2 := r1.tr t2 nF
  refine q (.ref p) G2 _ F1 L (t1.trans (t2.wk (fun a m => .inr m) fun a h => ?_)) r2 rv fun a ha ⟨j, hj⟩ => ?_
  · rcases h with h | h
    · exact .inr (.inl (.inl h))
    · exact .inl h
  · refine hL a (fun z => ?_) (nF a ⟨j, hj⟩) ha
    obtain ⟨_, vs, e, _⟩ := r1.owned j a hj
    rw [z] at e; cases e
theorem simE_tup {ta : TA} {ops : List Op} (h : SimA K ta ops) : SimE K (tTup ta) (tupF ops) := by
  refine simE_disp (mk := .tup) (mkD := .tup) h (fun ρ d ρ' e => ?_) fun G H vs ds M p s hp rs => ?_
  · unfold tupF at e
    cases he : evOps ops ρ with
    | none => rw [he] at e; cases e
    | some pr =>
      obtain ⟨ts, ρ1⟩ := pr
      rw [he] at e
      cases ht : takeN ops ts ρ1 with
      | none => have e2 : (takeN ops ts ρ1).bind (fun ds => if ds.length ≤ smallL then some (D.tup ds, ρ1) else none) = some (d, ρ') := e; rw [ht] at e2; cases e2
      | some ds =>
        have e2 : (takeN ops ts ρ1).bind (fun ds => if ds.length ≤ smallL then some (D.tup ds, ρ1) else none) = some (d, ρ') := e
        rw [ht] at e2
        have e3 : (if ds.length ≤ smallL then some (D.tup ds, ρ1) else none) = some (d, ρ') := e2
        by_cases hz : ds.length ≤ smallL
        · rw [if_pos hz] at e3; cases e3; exact ⟨ts, ds, rfl, ht, hz, rfl⟩
        · rw [if_neg hz] at e3; cases e3
  · have t := Tr.newG (A := fun a => a ∈ M) (o := .tup vs) s hp
    refine ⟨_, M, t, fun a _ n => n, .tup (.inl (.inl upd_same)) (rs.keep ⟨t.g, fun a ha hg => ?_, fun a ha => ?_⟩)⟩
    · have : a ≠ p := fun z => by subst z; obtain ⟨_, vs, e, _⟩ := rs.owned a ha; rw [hp] at e; cases e
      rw [upd_ne this]; exact hg
    · have : a ≠ p := fun z => by subst z; obtain ⟨_, vs, e, _⟩ := rs.owned a ha; rw [hp] at e; cases e
      rw [upd_ne this]
theorem simE_lst {ta : TA} {ops : List Op} (h : SimA K ta ops) : SimE K (tLst ta) (lstF ops) := by
  refine simE_disp (mk := .lst) (mkD := .lst true) h (fun ρ d ρ' e => ?_) fun G H vs ds M p s hp rs => ?_
  · unfold lstF at e
    cases he : evOps ops ρ with
    | none => rw [he] at e; cases e
    | some pr =>
      obtain ⟨ts, ρ1⟩ := pr
      rw [he] at e
      cases ht : takeN ops ts ρ1 with
      | none => have e2 : (takeN ops ts ρ1).bind (fun ds => if ds.length ≤ smallL then some (D.lst true ds, ρ1) else none) = some (d, ρ') := e; rw [ht] at e2; cases e2
      | some ds =>
        have e2 : (takeN ops ts ρ1).bind (fun ds => if ds.length ≤ smallL then some (D.lst true ds, ρ1) else none) = some (d, ρ') := e
        rw [ht] at e2
        have e3 : (if ds.length ≤ smallL then some (D.lst true ds, ρ1) else none) = some (d, ρ') := e2
        by_cases hz : ds.length ≤ smallL
        · rw [if_pos hz] at e3; cases e3; exact ⟨ts, ds, rfl, ht, hz, rfl⟩
        · rw [if_neg hz] at e3; cases e3
  · have t := Tr.newO (A := fun a => a ∈ M) (o := .lst vs) s hp
    have hne : ∀ a ∈ M, a ≠ p := fun a ha z => by subst z; obtain ⟨_, vs, e, _⟩ := rs.owned a ha; rw [hp] at e; cases e
    refine ⟨G, p :: M, t.post fun a h => ?_, fun a ha n m => ?_, .lstO (s.free hp) upd_same (fun z => hne p z rfl) (rs.keep ⟨t.g, fun a ha hg => hg, fun a ha => upd_ne (hne a ha)⟩)⟩
    · rcases List.mem_cons.mp h with h | h
      · exact .inr h
      · exact .inl h
    · rcases List.mem_cons.mp m with z | z
      · subst z; exact ha hp
      · exact n z
/-- a method that changes its list -/
def MOk (K : PySem.W.Frag) (r : V → List V → Hp → VK → Prop) (g : List D → List D → Option (D × List D)) : Prop := ∀ (G H : Hp) (a : Addr) (vs us : List V) (xs ds : List D) (L M : List Addr) (d : D) (xs' : List D), Same G H → G a = none → H a = some (.lst vs) →
  Reps K G H vs xs L → Reps K G H us ds M → (∀ b ∈ L, b ∉ M) → g xs ds = some (d, xs') → ∀ Q : VK,
  (∀ v vs' L' N, Reps K G H vs' xs' L' → Rep K G H v d N → (∀ b ∈ L', b ∈ L ∨ b ∈ M) → (∀ b ∈ N, b ∈ L ∨ b ∈ M) → (∀ b ∈ L', b ∉ N) → Q v (upd H a (.lst vs'))) → r (.ref a) us H Q
theorem simE_mut {to : TE} {i : Nat} {ta : TA} {ops : List Op} {r : V → List V → Hp → VK → Prop} {g : List D → List D → Option (D × List D)} (ho : to = tVar i) (h : SimA K ta ops) (hm : MOk K r g) : SimE K (tBM K "list" r to ta) (mutF i g ops) := by
  subst ho
  intro ρ d ρ' e σ G H F rr Q q
  unfold mutF at e
  cases h0 : getS ρ i with
  | none => rw [h0] at e; cases e
  | some d0 =>
    rw [h0] at e
    cases d0 with
    | lst o xs0 =>
      cases o with
      | false => cases e
      | true =>
        obtain ⟨v, hv, hrep⟩ := rr.at_ i _ h0
        have e1 : ((evOps ops ρ).bind fun p => (takeN ops p.1 p.2).bind fun ds => match getS p.2 i with
          | some (.lst true xs) => (g xs ds).bind fun q => some (q.1, p.2.set i (some (.lst true q.2)))
          | _ => none) = some (d, ρ') := e
        cases he : evOps ops ρ with
        | none => rw [he] at e1; cases e1
        | some pr =>
          obtain ⟨ts, ρ1⟩ := pr
          rw [he] at e1
          have e2 : ((takeN ops ts ρ1).bind fun ds => match getS ρ1 i with
            | some (.lst true xs) => (g xs ds).bind fun q => some (q.1, ρ1.set i (some (.lst true q.2)))
            | _ => none) = some (d, ρ') := e1
          cases ht : takeN ops ts ρ1 with
          | none => rw [ht] at e2; cases e2
          | some ds =>
            rw [ht] at e2
            have e3 : (match getS ρ1 i with
              | some (.lst true xs) => (g xs ds).bind fun q => some (q.1, ρ1.set i (some (.lst true q.2)))
              | _ => none) = some (d, ρ') := e2
            cases h1 : getS ρ1 i with
            | none => rw [h1] at e3; cases e3
            | some d1 =>
              rw [h1] at e3
              cases d1 with
              | lst o1 xs =>
                cases o1 with
                | false => cases e3
                | true =>
                  have e4 : ((g xs ds).bind fun q => some (q.1, ρ1.set i (some (.lst true q.2)))) = some (d, ρ') := e3
                  cases hg : g xs ds with
                  | none => rw [hg] at e4; cases e4
                  | some pq =>
                    obtain ⟨d2, xs'⟩ := pq
                    rw [hg] at e4; cases e4
                    refine ⟨v, hv, ?_, h ρ ts ρ1 he σ G H F rr _ fun us G1 H1 F1 M t1 r1 ok n1 => ?_⟩
                    · generalize hFi : F i = Fi at hrep
                      cases hrep with
                      | lstO _ hH _ _ => exact .inl ⟨rfl, _, .inl (.inl hH)⟩
                    · have rs := ok.take r1 ht
                      obtain ⟨v', hv', hrep'⟩ := r1.at_ i _ h1
                      rw [hv] at hv'; cases hv'
                      generalize hFi : F1 i = Fi at hrep'
                      cases hrep' with
                      | lstO hG hH hn hr =>
                        rename_i a vs L
                        have hsub : ∀ b ∈ a :: L, b ∈ F1 i := fun b hb => by rw [hFi]; exact hb
                        have nLM : ∀ b ∈ L, b ∉ M := fun b hb hm => n1 b hm ⟨i, hsub b (List.mem_cons_of_mem _ hb)⟩
                        have naM : a ∉ M := fun hm => n1 a hm ⟨i, hsub a List.mem_cons_self⟩
                        refine hm G1 H1 a vs us xs ds L M _ xs' r1.sub hG hH hr rs nLM hg Q fun v2 vs' L' N hr' hrv sL' sN nLN => ?_
                        have naL' : a ∉ L' := fun z => (sL' a z).elim hn naM
                        have naN : a ∉ N := fun z => (sN a z).elim hn naM
                        have tw : Tr G1 H1 (fun b => b = a) G1 (upd H1 a (.lst vs')) (fun b => b = a) := Tr.write r1.sub hG rfl ⟨_, hH⟩
                        have kL : ∀ {L0 : List Addr}, a ∉ L0 → Keep G1 H1 G1 (upd H1 a (.lst vs')) L0 := fun {L0} hn0 => ⟨Same.refl _, fun _ _ h => h, fun b hb => upd_ne fun z => hn0 (z ▸ hb)⟩
                        have rd := (r1.drop i).tr tw fun b ⟨j, hj⟩ z => by
                          subst z
                          by_cases hji : j = i
                          · subst hji; rw [fset_same] at hj; cases hj
                          · rw [fset_ne hji] at hj; exact r1.dis j i hji _ hj (hsub _ List.mem_cons_self)
                        have hnew : Rep K G1 (upd H1 a (.lst vs')) (.ref a) (.lst true xs') (a :: L') := .lstO hG upd_same naL' (hr'.keep (kL naL'))
                        have hap : ∀ b ∈ a :: L', ∀ j, j ≠ i → b ∉ fset F1 i [] j := fun b hb j hj hbj => by
                          rw [fset_ne hj] at hbj
                          rcases List.mem_cons.mp hb with z | z
                          · subst z; exact r1.dis j i hj _ hbj (hsub _ List.mem_cons_self)
                          · rcases sL' b z with y | y
                            · exact r1.dis j i hj _ hbj (hsub b (List.mem_cons_of_mem _ y))
                            · exact n1 b y ⟨j, hbj⟩
                        have rp := rd.re (i := i) (by rw [List.length_set]; exact r1.lt h1) hv hnew hap
                        rw [List.set_set] at rp
                        refine q v2 G1 _ _ N ?_ rp (hrv.keep (kL naN)) fun b hb ⟨j, hj⟩ => ?_
                        · refine t1.trans (tw.wk (fun b z => .inl ⟨i, z ▸ hsub a List.mem_cons_self⟩) fun b hb => .inr (.inl ?_))
                          rcases hb with ⟨j, hj⟩ | hb
                          · by_cases hji : j = i
                            · subst hji
                              rw [fset_same] at hj
                              rcases List.mem_cons.mp hj with z | z
                              · exact .inl ⟨j, z ▸ hsub a List.mem_cons_self⟩
                              · rcases sL' b z with y | y
                                · exact .inl ⟨j, hsub b (List.mem_cons_of_mem _ y)⟩
                                · exact .inr y
                            · rw [fset_ne hji, fset_ne hji] at hj; exact .inl ⟨j, hj⟩
                          · rcases sN b hb with y | y
                            · exact .inl ⟨i, hsub b (List.mem_cons_of_mem _ y)⟩
                            · exact .inr y
                        · by_cases hji : j = i
                          · subst hji
                            rw [fset_same] at hj
                            rcases List.mem_cons.mp hj with z | z
                            · subst z; exact naN hb
                            · exact nLN b z hb
                          · rw [fset_ne hji, fset_ne hji] at hj
                            rcases sN b hb with y | y
                            · exact r1.dis j i hji _ hj (hsub b (List.mem_cons_of_mem _ y))
                            · exact n1 b y ⟨j, hj⟩
              | _ => cases e3
    | _ => cases e
end
end VS
set_option Elab.async false
set_option linter.all false
set_option maxRecDepth 100000
namespace VS
open PySem PySem.Spec PyProof.Rows L2
/-! ### defs and their calls -/
/-- a def by its data: how many parameters, which of them are never stored anew (a list handed in there is the caller's still), and what it makes: a value, and the data of those parameters behind -/
structure Fn where
  np : Nat
  pins : List Bool
  sem : List D → Option (D × List (Option D))
  len : ∀ ds r, sem ds = some r → ds.length = np
def finP : List Bool → Env → List (Option D)
  | p :: ps, o :: ρ => (if p = true then o else none) :: finP ps ρ
  | _, _ => []
def bodySem (nN np : Nat) (pins : List Bool) (f : FS) : List D → Option (D × List (Option D)) := fun ds =>
  if ds.length = np then match f (ds.map some ++ List.replicate (nN - np) none) with
    | some (.rt d ρ) => some (d, finP pins ρ)
    | some (.nx ρ) => some (.non, finP pins ρ)
    | _ => none
  else none
def fetchC : List Bool → List Op → List (Option D) → Env → Option (List D × Env)
  | p :: ps, .b i :: r, _ :: ts, ρ => (getS ρ i).bind fun d => if noOwn d = true then (fetchC ps r ts ρ).bind fun q => some (d :: q.1, q.2) else if p = true then (fetchC ps r ts (ρ.set i none)).bind fun q => some (d :: q.1, q.2) else none
  | _ :: ps, .t _ :: r, some d :: ts, ρ => (fetchC ps r ts ρ).bind fun q => some (d :: q.1, q.2)
  | [], [], [], ρ => some ([], ρ)
  | _, _, _, _ => none
def putB : List Op → List D → List (Option D) → Env → Env
  | .b i :: r, d :: ds, o :: os, ρ => if noOwn d = true then putB r ds os ρ else putB r ds os (ρ.set i o)
  | .t _ :: r, _ :: ds, _ :: os, ρ => putB r ds os ρ
  | _, _, _, ρ => ρ
def callF (fn : Fn) (ops : List Op) : FE := fun ρ => (evOps ops ρ).bind fun p => (fetchC fn.pins ops p.1 p.2).bind fun c => (fn.sem c.1).bind fun q => some (q.1, putB ops c.1 q.2 c.2)
inductive ROs (K : PySem.W.Frag) (G H : Hp) : List V → List (Option D) → List Addr → Prop
  | nil : ROs K G H [] [] []
  | no {v : V} {vs os L} : ROs K G H vs os L → ROs K G H (v :: vs) (none :: os) L
  | yes {v : V} {d : D} {L1 vs os L} : Rep K G H v d L1 → ROs K G H vs os L → (∀ a, a ∈ L1 → a ∉ L) → ROs K G H (v :: vs) (some d :: os) (L1 ++ L)
/-- the promise of a def, by its data -/
def spOf (K : PySem.W.Frag) (fn : Fn) : Sp := fun vs H Q _ => ∃ G ds L d os, Same G H ∧ Reps K G H vs ds L ∧ vs.length = fn.np ∧ fn.sem ds = some (d, os) ∧
  ∀ v G' H' P N, Tr G H (fun a => a ∈ L) G' H' (fun a => a ∈ P ∨ a ∈ N) → ROs K G' H' vs os P → Rep K G' H' v d N → (∀ a ∈ N, a ∉ P) → Q v H'
section
variable {K : PySem.W.Frag} {G H : Hp}
theorem own_cons {L1 : List Addr} {F : Nat → List Addr} {a : Addr} (h : own (fun j => match j with | 0 => L1 | j + 1 => F j) a) : a ∈ L1 ∨ own F a := by
  obtain ⟨j, h⟩ := h
  cases j with
  | zero => exact .inl h
  | succ j => exact .inr ⟨j, h⟩
theorem REnv.cons (v : V) {d : D} {L1 : List Addr} {σ : L2.St} {ρ : Env} {F : Nat → List Addr} (h : Rep K G H v d L1) (r : REnv K G H σ ρ F) (n : ∀ a ∈ L1, ¬ own F a) :
    REnv K G H (some v :: σ) (some d :: ρ) (fun j => match j with | 0 => L1 | j + 1 => F j) := by
  refine ⟨r.sub, by simp [r.len], fun i e q => ?_, fun i q => ?_, fun i j ne a ha => ?_⟩
  · cases i with
    | zero => cases q; exact ⟨v, rfl, h⟩
    | succ i => exact r.at_ i e q
  · cases i with
    | zero => cases q
    | succ i => exact r.off i q
  · cases i with
    | zero =>
      cases j with
      | zero => exact absurd rfl ne
      | succ j => exact fun z => n a ha ⟨j, z⟩
    | succ i =>
      cases j with
      | zero => exact fun z => n a z ⟨i, ha⟩
      | succ j => exact r.dis i j (fun z => ne (by rw [z])) a ha
theorem REnv.empty (s : Same G H) (n : Nat) : REnv K G H (List.replicate n none) (List.replicate n none) (fun _ => []) := by
  refine ⟨s, by simp, fun i e q => ?_, fun _ _ => rfl, fun _ _ _ a z => nomatch z⟩
  unfold getS at q
  cases h : (List.replicate n (none : Option D))[i]? with
  | none => rw [h] at q; cases q
  | some o =>
    have := List.mem_of_getElem? h
    rw [List.mem_replicate] at this
    rw [h, this.2] at q; cases q
theorem REnv.start (s : Same G H) : ∀ {vs : List V} {ds : List D} {L : List Addr} (n : Nat), Reps K G H vs ds L → ∃ F, REnv K G H (vs.map some ++ List.replicate n none) (ds.map some ++ List.replicate n none) F ∧ ∀ a, own F a → a ∈ L
  | _, _, _, n, .nil => ⟨_, REnv.empty s n, fun a ⟨_, h⟩ => nomatch h⟩
  | _, _, _, n, .cons (v := v) hv hr nn => by
    obtain ⟨F, r, o⟩ := REnv.start s n hr
    refine ⟨_, REnv.cons v hv r (fun a ha z => nn a ha (o a z)), fun a h => ?_⟩
    rcases own_cons h with z | z
    · exact List.mem_append_left _ z
    · exact List.mem_append_right _ (o a z)
theorem REnv.tail {s : Option V} {o : Option D} {σ : L2.St} {ρ : Env} {F : Nat → List Addr} (r : REnv K G H (s :: σ) (o :: ρ) F) : REnv K G H σ ρ (fun j => F (j + 1)) :=
  ⟨r.sub, by simpa using r.len, fun i d q => r.at_ (i + 1) d q, fun i q => r.off (i + 1) q, fun i j n a => r.dis (i + 1) (j + 1) (by omega) a⟩
theorem REnv.fin : ∀ {pins : List Bool} {vs : List V} {σ : L2.St} {ρ : Env} {F : Nat → List Addr}, REnv K G H σ ρ F → vs.length = pins.length → pins.length ≤ σ.length → (∀ j : Nat, pins[j]? = some true → σ[j]? = (vs[j]?).map some) →
    ∃ P, ROs K G H vs (finP pins ρ) P ∧ ∀ a ∈ P, own F a
  | [], vs, σ, ρ, F, r, h, _, _ => by
    have : vs = [] := List.length_eq_zero_iff.mp h
    subst this
    refine ⟨[], ?_, fun a z => nomatch z⟩
    have : finP [] ρ = [] := by cases ρ <;> rfl
    rw [this]; exact .nil
  | p :: ps, [], σ, ρ, F, r, h, _, _ => by cases h
  | p :: ps, v :: vs, [], ρ, F, r, h, hl, _ => by simp at hl
  | p :: ps, v :: vs, s :: σ, [], F, r, h, hl, _ => by have := r.len; cases this
  | p :: ps, v :: vs, s :: σ, o :: ρ, F, r, h, hl, hp => by
    obtain ⟨P, q, s1⟩ := REnv.fin (pins := ps) (vs := vs) r.tail (by simpa using h) (by simpa using hl) (fun j hj => hp (j + 1) hj)
    unfold finP
    by_cases hpp : p = true
    · rw [if_pos hpp]
      cases o with
      | none => exact ⟨P, .no q, fun a ha => let ⟨j, hj⟩ := s1 a ha; ⟨j + 1, hj⟩⟩
      | some d =>
        obtain ⟨w, e, hr⟩ := r.at_ 0 d rfl
        have e2 := hp 0 (by rw [hpp]; rfl)
        have : w = v := by
          have e3 : some s = some (some v) := e2
          have e4 : some s = some (some w) := e
          rw [e4] at e3; cases e3; rfl
        subst this
        refine ⟨F 0 ++ P, .yes hr q fun a ha hP => ?_, fun a ha => ?_⟩
        · obtain ⟨j, hj⟩ := s1 a hP
          exact r.dis 0 (j + 1) (by omega) a ha hj
        · rcases List.mem_append.mp ha with z | z
          · exact ⟨0, z⟩
          · obtain ⟨j, hj⟩ := s1 a z; exact ⟨j + 1, hj⟩
    · rw [if_neg hpp]
      exact ⟨P, .no q, fun a ha => let ⟨j, hj⟩ := s1 a ha; ⟨j + 1, hj⟩⟩
theorem OpsOk.fetchC {σ : L2.St} : ∀ {pins : List Bool} {ops : List Op} {ts : List (Option D)} {vs : List V} {M : List Addr} {ds : List D} {ρ ρr : Env} {F : Nat → List Addr}, REnv K G H σ ρ F → OpsOk K G H σ ops ts vs M → (∀ a ∈ M, ¬ own F a) → VS.fetchC pins ops ts ρ = some (ds, ρr) →
    ∃ L Fr, Reps K G H vs ds L ∧ REnv K G H σ ρr Fr ∧ (∀ a ∈ L, ¬ own Fr a) ∧ (∀ a ∈ L, own F a ∨ a ∈ M) ∧ (∀ a, own Fr a → own F a)
  | [], _, _, _, _, ds, ρ, ρr, F, r, .nil, n, e => by
    unfold VS.fetchC at e; cases e
    exact ⟨[], F, .nil, r, fun a z => (nomatch z), fun a z => (nomatch z), fun _ h => h⟩
  | p :: ps, _, _, _, _, ds, ρ, ρr, F, r, .nil, n, e => by
    unfold VS.fetchC at e; cases e
  | [], .b i :: ops, o :: ts, v :: vs, M, ds, ρ, ρr, F, r, .b hv ok, n, e => by
    unfold VS.fetchC at e; cases e
  | p :: ps, .b i :: ops, o :: ts, v :: vs, M, ds, ρ, ρr, F, r, .b hv ok, n, e => by
    unfold VS.fetchC at e
    cases hd : getS ρ i with
    | none => rw [hd] at e; cases e
    | some d =>
      rw [hd] at e
      obtain ⟨w, hw, hr⟩ := r.at_ i d hd
      rw [hv] at hw; cases hw
      have e1 : (if noOwn d = true then (VS.fetchC ps ops ts ρ).bind fun q => some (d :: q.1, q.2) else if p = true then (VS.fetchC ps ops ts (ρ.set i none)).bind fun q => some (d :: q.1, q.2) else none) = some (ds, ρr) := e
      by_cases hn : noOwn d = true
      · rw [if_pos hn] at e1
        cases he : VS.fetchC ps ops ts ρ with
        | none => rw [he] at e1; cases e1
        | some q =>
          rw [he] at e1; cases e1
          obtain ⟨L, Fr, h1, h2, h3, h4, h5⟩ := ok.fetchC r n he
          have h0 := hr.noL hn
          rw [h0] at hr
          exact ⟨L, Fr, Reps.cons hr h1 (fun a z => nomatch z), h2, h3, h4, h5⟩
      · rw [if_neg hn] at e1
        by_cases hp : p = true
        · rw [if_pos hp] at e1
          cases he : VS.fetchC ps ops ts (ρ.set i none) with
          | none => rw [he] at e1; cases e1
          | some q =>
            rw [he] at e1; cases e1
            have sub : ∀ a, own (fset F i []) a → own F a := fun a h => (own_set h).elim id fun z => nomatch z
            obtain ⟨L, Fr, h1, h2, h3, h4, h5⟩ := ok.fetchC (r.drop i) (fun a ha z => n a ha (sub a z)) he
            have nFi : ∀ a ∈ F i, ¬ own (fset F i []) a := fun a ha ⟨j, hj⟩ => by
              by_cases hji : j = i
              · subst hji; rw [fset_same] at hj; cases hj
              · rw [fset_ne hji] at hj; exact r.dis j i hji a hj ha
            refine ⟨F i ++ L, Fr, Reps.cons hr h1 (fun a ha hL => ?_), h2, fun a ha => ?_, fun a ha => ?_, fun a h => sub a (h5 a h)⟩
            · rcases h4 a hL with z | z
              · exact nFi a ha z
              · exact n a z ⟨i, ha⟩
            · rcases List.mem_append.mp ha with z | z
              · exact fun y => nFi a z (h5 a y)
              · exact h3 a z
            · rcases List.mem_append.mp ha with z | z
              · exact .inl ⟨i, z⟩
              · exact (h4 a z).imp (sub a) id
        · rw [if_neg hp] at e1; cases e1
  | [], .t f :: ops, some d :: ts, v :: vs, _, ds, ρ, ρr, F, r, .t hr hn ok, n, e => by
    unfold VS.fetchC at e; cases e
  | p :: ps, .t f :: ops, some d :: ts, v :: vs, _, ds, ρ, ρr, F, r, .t (L := L1) (M := M) hr hn ok, n, e => by
    unfold VS.fetchC at e
    cases he : VS.fetchC ps ops ts ρ with
    | none => rw [he] at e; cases e
    | some q =>
      rw [he] at e; cases e
      obtain ⟨L, Fr, h1, h2, h3, h4, h5⟩ := ok.fetchC r (fun a ha => n a (List.mem_append_right _ ha)) he
      refine ⟨L1 ++ L, Fr, Reps.cons hr h1 (fun a ha hL => ?_), h2, fun a ha => ?_, fun a ha => ?_, h5⟩
      · rcases h4 a hL with z | z
        · exact n a (List.mem_append_left _ ha) z
        · exact hn a ha z
      · rcases List.mem_append.mp ha with z | z
        · exact fun y => n a (List.mem_append_left _ z) (h5 a y)
        · exact h3 a z
      · rcases List.mem_append.mp ha with z | z
        · exact .inr (List.mem_append_left _ z)
        · exact (h4 a z).imp id (List.mem_append_right _)
/-- the places of the operands' slots -/
inductive OpsAt (σ : L2.St) : List Op → List V → Prop
  | nil : OpsAt σ [] []
  | b {i v ops vs} : σ[i]? = some (some v) → OpsAt σ ops vs → OpsAt σ (.b i :: ops) (v :: vs)
  | t {f v ops vs} : OpsAt σ ops vs → OpsAt σ (.t f :: ops) (v :: vs)
theorem OpsOk.at' {σ : L2.St} : ∀ {ops ts vs M}, OpsOk K G H σ ops ts vs M → OpsAt σ ops vs
  | _, _, _, _, .nil => .nil
  | _, _, _, _, .b h r => .b h r.at'
  | _, _, _, _, .t _ _ r => .t r.at'
theorem putB_ok {σ : L2.St} : ∀ {ops : List Op} {vs : List V} {ds : List D} {os : List (Option D)} {P : List Addr} {ρ : Env} {F : Nat → List Addr}, OpsAt σ ops vs → ROs K G H vs os P → REnv K G H σ ρ F → (∀ a ∈ P, ¬ own F a) →
    ∃ F', REnv K G H σ (putB ops ds os ρ) F' ∧ ∀ a, own F' a → own F a ∨ a ∈ P
  | [], _, ds, os, P, ρ, F, .nil, h, r, n => by
    have e : putB [] ds os ρ = ρ := by cases ds <;> rfl
    rw [e]
    exact ⟨F, r, fun a h => .inl h⟩
  | .b i :: ops, v :: vs, [], os, P, ρ, F, .b hv ha, h, r, n => ⟨F, r, fun a h => .inl h⟩
  | .t f :: ops, v :: vs, [], os, P, ρ, F, .t ha, h, r, n => ⟨F, r, fun a h => .inl h⟩
  | .t f :: ops, v :: vs, d :: ds, _, P, ρ, F, .t ha, .no h, r, n => by
    unfold putB; exact putB_ok ha h r n
  | .t f :: ops, v :: vs, d :: ds, _, _, ρ, F, .t ha, .yes hr h hn, r, n => by
    unfold putB
    obtain ⟨F', r', s⟩ := putB_ok (ds := ds) ha h r (fun a ha => n a (List.mem_append_right _ ha))
    exact ⟨F', r', fun a q => (s a q).imp id (List.mem_append_right _)⟩
  | .b i :: ops, v :: vs, d :: ds, _, P, ρ, F, .b hv ha, .no h, r, n => by
    unfold putB
    by_cases hd : noOwn d = true
    · rw [if_pos hd]; exact putB_ok ha h r n
    · rw [if_neg hd]
      have sub : ∀ a, own (fset F i []) a → own F a := fun a h => (own_set h).elim id fun z => nomatch z
      obtain ⟨F', r', s⟩ := putB_ok (ds := ds) ha h (r.drop i) (fun a ha z => n a ha (sub a z))
      exact ⟨F', r', fun a q => (s a q).imp (sub a) id⟩
  | .b i :: ops, v :: vs, d :: ds, _, _, ρ, F, .b hv ha, .yes (d := d') (L1 := L1) (L := L) hr h hn, r, n => by
    unfold putB
    by_cases hd : noOwn d = true
    · rw [if_pos hd]
      obtain ⟨F', r', s⟩ := putB_ok (ds := ds) ha h r (fun a ha => n a (List.mem_append_right _ ha))
      exact ⟨F', r', fun a q => (s a q).imp id (List.mem_append_right _)⟩
    · rw [if_neg hd]
      have hi : i < ρ.length := by rw [← r.len]; exact (List.getElem?_eq_some_iff.mp hv).1
      have r1 := r.re hi hv hr (fun a ha j _ z => n a (List.mem_append_left _ ha) ⟨j, z⟩)
      have sub : ∀ a, own (fset F i L1) a → own F a ∨ a ∈ L1 := fun a h => own_set h
      obtain ⟨F', r', s⟩ := putB_ok (ds := ds) ha h r1 (fun a ha z => (sub a z).elim (n a (List.mem_append_right _ ha)) fun y => hn a y ha)
      refine ⟨F', r', fun a q => ?_⟩
      rcases s a q with z | z
      · exact (sub a z).imp id (List.mem_append_left _)
      · exact .inr (List.mem_append_right _ z)
theorem ROs.owned : ∀ {vs : List V} {os : List (Option D)} {P : List Addr}, ROs K G H vs os P → ∀ a ∈ P, G a = none ∧ ∃ o, H a = some o ∧ LD o
  | _, _, _, .nil, a, h => nomatch h
  | _, _, _, .no r, a, h => r.owned a h
  | _, _, _, .yes hr r _, a, h => by
    rcases List.mem_append.mp h with z | z
    · exact hr.owned a z
    · exact r.owned a z
/-- the operands' values, then the def -/
theorem simE_call {ta : TA} {ops : List Op} {fn : Fn} {dv : List V} {E : XK} (h : SimA K ta ops) (hd : dv = []) : SimE K (tCall (spOf K fn) dv E ta) (callF fn ops) := by
  subst hd
  intro ρ d ρ' e σ G H F r Q q
  unfold callF at e
  cases he : evOps ops ρ with
  | none => rw [he] at e; cases e
  | some p =>
    obtain ⟨ts, ρ1⟩ := p
    rw [he] at e
    have e1 : ((VS.fetchC fn.pins ops ts ρ1).bind fun c => (fn.sem c.1).bind fun q => some (q.1, putB ops c.1 q.2 c.2)) = some (d, ρ') := e
    cases hf : VS.fetchC fn.pins ops ts ρ1 with
    | none => rw [hf] at e1; cases e1
    | some c =>
      obtain ⟨ds, ρr⟩ := c
      rw [hf] at e1
      have e2 : ((fn.sem ds).bind fun q => some (q.1, putB ops ds q.2 ρr)) = some (d, ρ') := e1
      cases hs : fn.sem ds with
      | none => rw [hs] at e2; cases e2
      | some pq =>
        obtain ⟨d1, os⟩ := pq
        rw [hs] at e2; cases e2
        refine h ρ ts ρ1 he σ G H F r _ fun vs G1 H1 F1 M t1 r1 ok n1 => ?_
        obtain ⟨L, Fr, hR, rr, nL, sL, sF⟩ := ok.fetchC r1 n1 hf
        have ap := ok.at'
        show spOf K fn (vs ++ []) H1 Q E
        rw [List.append_nil]
        have hnp : vs.length = fn.np := hR.length.trans (fn.len ds _ hs)
        · refine ⟨G1, ds, L, _, os, r1.sub, hR, hnp, hs, fun v G2 H2 P N t2 ro rv nN => ?_⟩
          have rr2 := rr.tr t2 (fun a ho hl => nL a hl ho)
          have apF : ∀ a, own Fr a → ¬ (a ∈ P ∨ a ∈ N) := fun a ho => by
            obtain ⟨j, hj⟩ := id ho
            exact t2.apart (L := Fr j) (rr.owned j) (fun b hb hl => nL b hl ⟨j, hb⟩) a hj
          obtain ⟨F', r', s⟩ := putB_ok (ds := ds) ap ro rr2 (fun a ha ho => apF a ho (.inl ha))
          refine q v G2 H2 F' N (t1.trans (t2.wk (fun a ha => ?_) fun a ha => ?_)) r' rv fun a ha ho => ?_
          · exact (sL a ha).imp id id
          · rcases ha with z | z
            · rcases s a z with y | y
              · exact .inr (.inl (.inl (sF a y)))
              · exact .inl (.inl y)
            · exact .inl (.inr z)
          · rcases s a ho with y | y
            · exact apF a y (.inr ha)
            · exact nN a ha y
end
end VS
set_option Elab.async false
set_option linter.all false
set_option maxRecDepth 100000
namespace VS
open PySem PySem.Spec PyProof.Rows L2
/-- nothing is let out -/
def noW : WX := fun _ _ _ _ => False
def pnOf (pins : List Bool) : Nat → Bool := fun j => pins.getD j false
def bodyFn (nN np : Nat) (pins : List Bool) (f : FS) : Fn := ⟨np, pins, bodySem nN np pins f, fun ds r h => by
  unfold bodySem at h
  by_cases e : ds.length = np
  · exact e
  · rw [if_neg e] at h; cases h⟩
def stuckFn (np : Nat) (pins : List Bool) : Fn := ⟨np, pins, fun _ => none, fun _ _ h => by cases h⟩
theorem bodySem_cases {nN np : Nat} {pins : List Bool} {f : FS} {ds : List D} {d : D} {os : List (Option D)} (h : bodySem nN np pins f ds = some (d, os)) :
    ds.length = np ∧ ∃ ρ, os = finP pins ρ ∧ (f (ds.map some ++ List.replicate (nN - np) none) = some (.rt d ρ) ∨ (d = .non ∧ f (ds.map some ++ List.replicate (nN - np) none) = some (.nx ρ))) := by
  unfold bodySem at h
  by_cases hn : ds.length = np
  · rw [if_pos hn] at h
    cases hf : f (ds.map some ++ List.replicate (nN - np) none) with
    | none => rw [hf] at h; cases h
    | some o =>
      rw [hf] at h
      cases o with
      | rt d' ρ => cases h; exact ⟨hn, ρ, rfl, .inl rfl⟩
      | nx ρ => cases h; exact ⟨hn, ρ, rfl, .inr ⟨rfl, rfl⟩⟩
      | bk ρ => cases h
      | ct ρ => cases h
      | rz _ _ ρ => cases h
  · rw [if_neg hn] at h; cases h
theorem body_sim {K : PySem.W.Frag} {W : WX} {N : List Str} {np : Nat} {pins : List Bool} {f : FS} (hpl : pins.length = np) (hN : np ≤ N.length) {vs : List V} {H : Hp} {Q : VK} {E : XK} (h : spOf K (bodyFn N.length np pins f) vs H Q E) :
    tsOf K (pnOf pins) W f { nx := fun _ H' => Q .non H', rt := Q } (L2.start N vs) H := by
  obtain ⟨G, ds, L, d, os, s, hR, hl, hs, q⟩ := h
  have hl' : vs.length = np := hl
  obtain ⟨hn, ρ, rfl, hb⟩ := bodySem_cases hs
  obtain ⟨F, r, sF⟩ := REnv.start s (N.length - np) hR
  have es : L2.start N vs = vs.map some ++ List.replicate (N.length - np) none := by unfold L2.start; rw [hl']
  rw [← es] at r
  have post : ∀ (v : V) (σ' : L2.St) (G' H' : Hp) (F' : Nat → List Addr) (M : List Addr), Tr G H (own F) G' H' (fun a => own F' a ∨ a ∈ M) → REnv K G' H' σ' ρ F' → Pin (pnOf pins) (L2.start N vs) σ' → Rep K G' H' v d M → (∀ a ∈ M, ¬ own F' a) → Q v H' := fun v σ' G' H' F' M t r' p rv n => by
    have lσ : pins.length ≤ σ'.length := by
      rw [p.1, es, List.length_append, List.length_map, List.length_replicate, hpl]; omega
    obtain ⟨P, ro, sP⟩ := REnv.fin (pins := pins) (vs := vs) r' (by rw [hl', hpl]) lσ (fun j hj => by
      have hjp : pnOf pins j = true := by unfold pnOf; rw [List.getD_eq_getElem?_getD, hj]; rfl
      rw [p.2 j hjp, es]
      have hjl : j < vs.length := by rw [hl', ← hpl]; exact (List.getElem?_eq_some_iff.mp hj).1
      rw [List.getElem?_append_left (by simpa using hjl), List.getElem?_map])
    refine q v G' H' P M (t.wk (fun a h => sF a h) fun a h => ?_) ro rv fun a ha hP => n a ha (sP a hP)
    rcases h with h | h
    · exact .inl (.inl (sP a h))
    · exact .inl (.inr h)
  rcases hb with hb | ⟨rfl, hb⟩
  · exact ⟨_, _, G, F, hb, r, fun v σ' G' H' F' M t r' p rv n => post v σ' G' H' F' M t r' p rv n⟩
  · exact ⟨_, _, G, F, hb, r, fun σ' G' H' F' t r' p => post .non σ' G' H' F' [] (t.post fun a h => h.elim id fun z => nomatch z) r' p .non (fun a z => nomatch z)⟩
end VS
set_option Elab.async false
set_option linter.all false
set_option maxRecDepth 100000
namespace VS
open PySem PySem.Spec PyProof.Rows L2
section
variable {P : Program} {w : World} {K : PySem.W.Frag} {mg : Str → Option Value} {base : Heap}
theorem fn_ok {x qual : Str} {st : Stmt} {f : Addr} {fd : FuncData} {N ps : List Str} {k : Nat} {pins : List Bool} {fb : FS} (F : Fun K x qual st f fd) (S : FnScope N ps (defScope st)) (hpl : pins.length = ps.length) (hN : ps.length ≤ N.length)
    (hbody : ∀ (cdv : Value) (A : Around) (outer : List PySem.Env) (s : Shared) (H : Hp) (E : XK), Room k (A.deeper (envOfC qual (defScope st) s.heap.objs.size f cdv)) →
      PSsf (cxOf CX0 P w K mg base N qual (defScope st) f cdv A outer s H E).nox (pnOf pins) noW (defBody st) fb) : FnOk P w K mg base CX0 (k + 1) f fd ps (spOf K (bodyFn N.length ps.length pins fb)) :=
  F.ok S (fun vs H Q E ⟨_, _, _, _, _, _, _, h, _⟩ => h) fun cdv A outer s H vs Q E hr h => ⟨_, hbody cdv A outer s H E hr, body_sim hpl hN h⟩
theorem stuck_ok {x qual : Str} {st : Stmt} {f : Addr} {fd : FuncData} {N ps : List Str} {k : Nat} {pins : List Bool} (F : Fun K x qual st f fd) (S : FnScope N ps (defScope st)) : FnOk P w K mg base CX0 (k + 1) f fd ps (spOf K (stuckFn ps.length pins)) :=
  F.ok S (fun vs H Q E ⟨_, _, _, _, _, _, _, h, _⟩ => h) fun cdv A outer s H vs Q E hr ⟨_, _, _, _, _, _, _, _, h, _⟩ => by cases h
end
section
variable {X : Cx} {pn : Nat → Bool} {W : WX} {k : Nat} {f : Addr} {fd : FuncData} {ps : List Str} {fn : Fn} {x : Str} {p pos : Pos} {e : Expr} {es : List Expr} {o : Op} {ops : List Op}
theorem pf_call (F : FnOk X.prog X.w X.K X.mg X.base CX0 k f fd ps (spOf X.K fn)) (hr : Room k X.A) (hg : Gl X x) (hm : X.mg x = some (.ref f)) (hk : PySem.W.keepIn X.K (.ref f) = true) (hb : Binds X.K fd ps [])
    (ha : PAf X (e :: es) ops) (hdb : (x == ("__debug__" : Str)) = false := by decide) (he : starEach (e :: es) X.env = (false, eval e X.env) :: starEach es X.env := by rfl) (hpl : (backTo pos (starEach es X.env)).any (·.1) = false := by rfl) :
    PEf X (.Call (.Name x p) (e :: es) [] pos) (callF fn ops) := .mk (pe_call F hr hg hm hk hb .nil pass0 ha hdb he hpl) (simE_call (simA_of _) rfl)
end
/-! ### keywords: the operands put in the parameters' order -/
def permL {α : Type} (is : List Nat) (xs : List α) : List α := is.filterMap fun i => xs[i]?
def callKF (fn : Fn) (is : List Nat) (ops : List Op) : FE := fun ρ => (evOps ops ρ).bind fun p => (fetchC fn.pins (permL is ops) (permL is p.1) p.2).bind fun c => (fn.sem c.1).bind fun q => some (q.1, putB (permL is ops) c.1 q.2 c.2)
section
variable {K : PySem.W.Frag} {G H : Hp}
structure Q4 where
  o : Op
  t : Option D
  v : V
  L : List Addr
def Q4.ok (K : PySem.W.Frag) (G H : Hp) (σ : L2.St) (q : Q4) : Prop := match q.o with
  | .b i => σ[i]? = some (some q.v) ∧ q.L = []
  | .t _ => ∃ d, q.t = some d ∧ Rep K G H q.v d q.L
def Q4.apart (a b : Q4) : Prop := ∀ x, x ∈ a.L → x ∉ b.L
theorem Q4.apart_symm {a b : Q4} (h : a.apart b) : b.apart a := fun x hx hy => h x hy hx
theorem OpsOk.to4 {σ : L2.St} : ∀ {ops ts vs M}, OpsOk K G H σ ops ts vs M → ∃ qs : List Q4, qs.map (·.o) = ops ∧ qs.map (·.t) = ts ∧ qs.map (·.v) = vs ∧ (∀ q ∈ qs, q.ok K G H σ) ∧ qs.Pairwise Q4.apart ∧ (qs.map (·.L)).flatten = M
  | _, _, _, _, .nil => ⟨[], rfl, rfl, rfl, fun q z => (nomatch z), .nil, rfl⟩
  | _, _, _, _, .b (i := i) (v := v) (o := o) h r => by
    obtain ⟨qs, e1, e2, e3, h1, h2, e4⟩ := r.to4
    refine ⟨⟨.b i, o, v, []⟩ :: qs, by simp [e1], by simp [e2], by simp [e3], fun q hq => ?_, .cons (fun q _ x hx => nomatch hx) h2, by simp [e4]⟩
    rcases List.mem_cons.mp hq with z | z
    · subst z; exact ⟨h, rfl⟩
    · exact h1 q z
  | _, _, _, _, .t (f := f) (v := v) (d := d) (L := L) hr hn r => by
    obtain ⟨qs, e1, e2, e3, h1, h2, e4⟩ := r.to4
    refine ⟨⟨.t f, some d, v, L⟩ :: qs, by simp [e1], by simp [e2], by simp [e3], fun q hq => ?_, .cons (fun q hq x hx hy => ?_) h2, by simp [e4]⟩
    · rcases List.mem_cons.mp hq with z | z
      · subst z; exact ⟨d, rfl, hr⟩
      · exact h1 q z
    · refine hn x hx ?_
      rw [← e4]
      exact List.mem_flatten.mpr ⟨q.L, List.mem_map.mpr ⟨q, hq, rfl⟩, hy⟩
theorem OpsOk.of4 {σ : L2.St} : ∀ {qs : List Q4}, (∀ q ∈ qs, q.ok K G H σ) → qs.Pairwise Q4.apart → OpsOk K G H σ (qs.map (·.o)) (qs.map (·.t)) (qs.map (·.v)) (qs.map (·.L)).flatten
  | [], _, _ => .nil
  | ⟨.b i, t', v, L⟩ :: qs, h, hp => by
    obtain ⟨h1, h2⟩ : _ ∧ L = [] := h _ List.mem_cons_self
    subst h2
    exact .b h1 (OpsOk.of4 (fun q hq => h q (List.mem_cons_of_mem _ hq)) (List.pairwise_cons.mp hp).2)
  | ⟨.t f, t', v, L⟩ :: qs, h, hp => by
    obtain ⟨d, h1, h2⟩ : ∃ d, t' = some d ∧ Rep K G H v d L := h _ List.mem_cons_self
    subst h1
    obtain ⟨p1, p2⟩ := List.pairwise_cons.mp hp
    refine .t h2 (fun a ha hm => ?_) (OpsOk.of4 (fun q hq => h q (List.mem_cons_of_mem _ hq)) p2)
    obtain ⟨l, hl, ha2⟩ := List.mem_flatten.mp hm
    obtain ⟨q, hq, rfl⟩ := List.mem_map.mp hl
    exact p1 q hq a ha ha2
theorem permL_map {α β : Type} (is : List Nat) (xs : List α) (f : α → β) : permL is (xs.map f) = (permL is xs).map f := by
  unfold permL
  rw [List.map_filterMap]
  congr 1
  funext i
  rw [List.getElem?_map]
theorem range_self {α : Type} : ∀ xs : List α, (List.range xs.length).filterMap (fun i => xs[i]?) = xs
  | [] => rfl
  | x :: xs => by
    rw [List.length_cons, List.range_succ_eq_map, List.filterMap_cons]
    show x :: _ = x :: xs
    rw [List.filterMap_map]
    congr 1
    exact range_self xs
theorem permL_perm {α : Type} {is : List Nat} {xs : List α} (h : is.Perm (List.range xs.length)) : (permL is xs).Perm xs := by
  have := h.filterMap fun i => xs[i]?
  rw [range_self] at this
  exact this
theorem OpsOk.perm {σ : L2.St} {is : List Nat} {ops ts vs M} (h : OpsOk K G H σ ops ts vs M) (hp : is.Perm (List.range ops.length)) : ∃ M', OpsOk K G H σ (permL is ops) (permL is ts) (permL is vs) M' ∧ ∀ a, a ∈ M' → a ∈ M := by
  obtain ⟨qs, e1, e2, e3, h1, h2, e4⟩ := h.to4
  have hl : is.Perm (List.range qs.length) := by rw [← e1, List.length_map] at hp; exact hp
  have pp := permL_perm (xs := qs) hl
  subst e1; subst e2; subst e3; subst e4
  rw [permL_map, permL_map, permL_map]
  refine ⟨_, OpsOk.of4 (fun q hq => h1 q (pp.subset hq)) ((pp.pairwise_iff fun {a b} h => Q4.apart_symm h).mpr h2), fun a ha => ?_⟩
  obtain ⟨l, hl, ha2⟩ := List.mem_flatten.mp ha
  obtain ⟨q, hq, rfl⟩ := List.mem_map.mp hl
  exact List.mem_flatten.mpr ⟨q.L, List.mem_map.mpr ⟨q, pp.subset hq, rfl⟩, ha2⟩
end
section
variable {X : Cx} {k : Nat} {f : Addr} {fd : FuncData} {ps ks : List Str} {fn : Fn} {x : Str} {p pos kpos : Pos} {e : Expr} {es : List Expr} {kws : List Keyword} {ops kops : List Op} {nm : Option Str}
abbrev PKf (X : Cx) (kws : List Keyword) (ops : List Op) : Prop := PK X kws (taOf X.K ops)
theorem PKf.mk {ta : TA} (h : PK X kws ta) (s : SimA X.K ta ops) : PKf X kws ops := ⟨fun p pins sh σ H Q I ⟨ρ, d, ρ', G, F, ee, r, q⟩ => h.run p pins sh σ H Q I (s ρ d ρ' ee σ G H F r Q q)⟩
/-- how n positional values and the keywords ks are bound: the parameters' order is told by places -/
def KB (K : PySem.W.Frag) (fd : FuncData) (ps : List Str) (n : Nat) (ks : List Str) (is : List Nat) : Prop :=
  ∀ (s : Shared) (us ws : List Value), K.In s.heap → us.length = n → ws.length = ks.length → BindsTo s fd ⟨us, ks.zip ws⟩ (ps.zip (permL is (us ++ ws)))
theorem OpsOk.len {K : PySem.W.Frag} {G H : Hp} {σ : L2.St} : ∀ {ops ts vs M}, OpsOk K G H σ ops ts vs M → vs.length = ops.length
  | _, _, _, _, .nil => rfl
  | _, _, _, _, .b _ r => by simp [r.len]
  | _, _, _, _, .t _ _ r => by simp [r.len]
/-- a reading whose values are so many -/
def taN (n : Nat) (ta : TA) : TA := fun σ H Q => ta σ H fun vs H1 => vs.length = n ∧ Q vs H1
end
end VS
set_option Elab.async false
set_option linter.all false
set_option maxRecDepth 100000
namespace VS
open PySem PySem.Spec PyProof.Rows L2
/-! ### comprehensions -/
def wipeD (ρ : Env) : List Nat → Env
  | [] => ρ
  | v :: vs => (wipeD ρ vs).set v none
def goLc (vs : List Nat) (fg : D → Env → Option Env) (ft : FB) (fe : FE) : List D → Env → Option (List D × Env)
  | [], ρ => some ([], ρ)
  | d :: ds, ρ => (fg d ρ).bind fun ρ1 => (ft ρ1).bind fun b => if b.1 = true then (fe b.2).bind fun q => (goLc vs fg ft fe ds (wipeD q.2 vs)).bind fun r => some (q.1 :: r.1, r.2) else goLc vs fg ft fe ds (wipeD b.2 vs)
def lcF (vs : List Nat) (fi : FI) (fg : D → Env → Option Env) (ft : FB) (fe : FE) : FE := fun ρ => (fi ρ).bind fun p => (goLc vs fg ft fe p.1 (wipeD p.2 vs)).bind fun q => if q.1.length ≤ smallL then some (.lst true q.1, q.2) else none
def yesF : FB := fun ρ => some (true, ρ)
section
variable {K : PySem.W.Frag} {G H : Hp} {σ : L2.St} {ρ : Env} {F : Nat → List Addr}
theorem REnv.drop2 (r : REnv K G H σ ρ F) (i : Nat) : REnv K G H (σ.set i none) (ρ.set i none) (fset F i []) := by
  have d := r.drop i
  refine ⟨d.sub, by rw [List.length_set]; exact d.len, fun j e q => ?_, d.off, d.dis⟩
  obtain ⟨v, e1, e2⟩ := d.at_ j e q
  have : j ≠ i := fun z => by
    subst z
    rw [getS_set] at q
    by_cases hl : j < ρ.length
    · rw [if_pos ⟨rfl, hl⟩] at q; cases q
    · rw [if_neg (fun z => hl z.2)] at q; exact hl (r.lt q)
  exact ⟨v, by rw [List.getElem?_set_ne (Ne.symm this)]; exact e1, e2⟩
theorem REnv.wipe (r : REnv K G H σ ρ F) : ∀ vs : List Nat, ∃ F', REnv K G H (L2.wipe σ vs) (wipeD ρ vs) F' ∧ ∀ a, own F' a → own F a
  | [] => ⟨F, r, fun _ h => h⟩
  | v :: vs => by
    obtain ⟨F', r', s⟩ := r.wipe vs
    exact ⟨_, r'.drop2 v, fun a h => s a ((own_set h).elim id fun z => nomatch z)⟩
theorem getS_wipe : ∀ {vs : List Nat} {i : Nat} {d : D}, getS (wipeD ρ vs) i = some d → i ∉ vs
  | [], _, _, _ => List.not_mem_nil
  | v :: vs, i, d, h => by
    unfold wipeD at h
    rw [getS_set] at h
    intro hm
    rcases List.mem_cons.mp hm with z | z
    · subst z
      by_cases hl : i < (wipeD ρ vs).length
      · rw [if_pos ⟨rfl, hl⟩] at h; cases h
      · rw [if_neg (fun z => hl z.2)] at h
        unfold getS at h
        rw [List.getElem?_eq_none (by omega)] at h; cases h
    · by_cases hv : i = v ∧ v < (wipeD ρ vs).length
      · rw [if_pos hv] at h; cases h
      · rw [if_neg hv] at h; exact getS_wipe h z
/-- nothing is known of the wiped slots: any values may stand there -/
theorem REnv.unwipe {vs : List Nat} (r : REnv K G H (L2.wipe σ vs) ρ F) (h : ∀ i d, getS ρ i = some d → i ∉ vs) : REnv K G H σ ρ F := by
  refine ⟨r.sub, by rw [← r.len, wipe_length], fun i d q => ?_, r.off, r.dis⟩
  obtain ⟨v, e, hr⟩ := r.at_ i d q
  exact ⟨v, by rw [← wipe_out (h i d q)]; exact e, hr⟩
theorem wipe_pin {vs : List Nat} {σ σ' : L2.St} (p : Pin (fun j => !vs.contains j) (L2.wipe σ vs) σ') : L2.wipe σ' vs = L2.wipe σ vs := by
  have none_in : ∀ (τ : L2.St) (us : List Nat) (i : Nat), i ∈ us → i < τ.length → (L2.wipe τ us)[i]? = some none := by
    intro τ us
    induction us with
    | nil => intro i h; cases h
    | cons u us ih =>
      intro i h hl
      unfold L2.wipe
      by_cases hu : u = i
      · subst hu; rw [List.getElem?_set_self (by rw [wipe_length]; exact hl)]
      · rw [List.getElem?_set_ne hu]
        rcases List.mem_cons.mp h with z | z
        · exact absurd z.symm hu
        · exact ih i z hl
  apply List.ext_getElem?
  intro i
  by_cases hi : i ∈ vs
  · by_cases hl : i < σ.length
    · rw [none_in _ _ _ hi (by rw [p.1, wipe_length]; exact hl), none_in _ _ _ hi hl]
    · rw [List.getElem?_eq_none (by rw [wipe_length, p.1, wipe_length]; omega), List.getElem?_eq_none (by rw [wipe_length]; omega)]
  · rw [wipe_out hi]
    exact p.2 i (by simpa using hi)
theorem Reps.snoc : ∀ {vs : List V} {ds : List D} {L M : List Addr} {v : V} {d : D}, Reps K G H vs ds L → Rep K G H v d M → (∀ a ∈ L, a ∉ M) → Reps K G H (vs ++ [v]) (ds ++ [d]) (L ++ M)
  | _, _, _, M, v, d, .nil, h, n => by
    have := Reps.cons h (.nil (K := K) (G := G) (H := H)) (fun a _ z => nomatch z)
    rw [List.append_nil] at this
    exact this
  | _, _, _, M, v, d, .cons (L := L1) (M := L2) hv hr hn, h, n => by
    have := Reps.cons hv (hr.snoc h fun a ha => n a (List.mem_append_right _ ha)) (fun a ha hm => (List.mem_append.mp hm).elim (hn a ha) (n a (List.mem_append_left _ ha)))
    rw [← List.append_assoc] at this
    exact this
theorem goLc_len {vs : List Nat} {fg : D → Env → Option Env} {ft : FB} {fe : FE} {ds : List D} {ρ ρ' : Env} {xs : List D} (h : goLc vs fg ft fe ds ρ = some (xs, ρ')) (hv : ∀ i d, getS ρ i = some d → i ∉ vs) : ∀ i d, getS ρ' i = some d → i ∉ vs := by
  induction ds generalizing ρ xs with
  | nil => unfold goLc at h; cases h; exact hv
  | cons d ds ih =>
    unfold goLc at h
    cases h1 : fg d ρ with
    | none => rw [h1] at h; cases h
    | some ρ1 =>
      rw [h1] at h
      have h2 : (ft ρ1).bind (fun b => if b.1 = true then (fe b.2).bind fun q => (goLc vs fg ft fe ds (wipeD q.2 vs)).bind fun r => some (q.1 :: r.1, r.2) else goLc vs fg ft fe ds (wipeD b.2 vs)) = some (xs, ρ') := h
      cases h3 : ft ρ1 with
      | none => rw [h3] at h2; cases h2
      | some b =>
        rw [h3] at h2
        have h4 : (if b.1 = true then (fe b.2).bind fun q => (goLc vs fg ft fe ds (wipeD q.2 vs)).bind fun r => some (q.1 :: r.1, r.2) else goLc vs fg ft fe ds (wipeD b.2 vs)) = some (xs, ρ') := h2
        by_cases hb : b.1 = true
        · rw [if_pos hb] at h4
          cases h5 : fe b.2 with
          | none => rw [h5] at h4; cases h4
          | some q =>
            rw [h5] at h4
            have h6 : (goLc vs fg ft fe ds (wipeD q.2 vs)).bind (fun r => some (q.1 :: r.1, r.2)) = some (xs, ρ') := h4
            cases h7 : goLc vs fg ft fe ds (wipeD q.2 vs) with
            | none => rw [h7] at h6; cases h6
            | some r => rw [h7] at h6; cases h6; exact ih h7 (fun i d q => getS_wipe q)
        · rw [if_neg hb] at h4
          exact ih h4 (fun i d q => getS_wipe q)
theorem simE_lc {wi : TI} {g : TG} {tt : TT} {te : TE} {vs : List Nat} {fi : FI} {fg : D → Env → Option Env} {ft : FB} {fe : FE} (hi : SimI K wi fi) (hg : SimG K (fun j => !vs.contains j) g fg) (ht : SimT K tt ft) (he : SimE K te fe) : SimE K (tLc wi g tt te vs) (lcF vs fi fg ft fe) := by
  intro ρ d ρ' e σ G H F r Q q
  unfold lcF at e
  cases hf : fi ρ with
  | none => rw [hf] at e; cases e
  | some p =>
    obtain ⟨ds, ρ1⟩ := p
    rw [hf] at e
    have e1 : (goLc vs fg ft fe ds (wipeD ρ1 vs)).bind (fun q => if q.1.length ≤ smallL then some (D.lst true q.1, q.2) else none) = some (d, ρ') := e
    cases hgo : goLc vs fg ft fe ds (wipeD ρ1 vs) with
    | none => rw [hgo] at e1; cases e1
    | some pq =>
      obtain ⟨xs, ρe⟩ := pq
      rw [hgo] at e1
      have e2 : (if xs.length ≤ smallL then some (D.lst true xs, ρe) else none) = some (d, ρ') := e1
      by_cases hz : xs.length ≤ smallL
      · rw [if_pos hz] at e2; cases e2
        have hwe : ∀ i d, getS ρ' i = some d → i ∉ vs := goLc_len hgo (fun i d q => getS_wipe q)
        refine hi ρ ds ρ1 hf σ G H F r _ fun J G1 H1 F1 t1 r1 jo Dl hDl => ?_
        obtain ⟨F0, r0, s0⟩ := r1.wipe vs
        have tn : Tr G1 H1 (own F1) G1 (upd H1 Dl (.lst [])) (fun a => own F1 a ∨ a = Dl) := Tr.newO r1.sub hDl
        have nD : ¬ own F1 Dl := fun ⟨j, hj⟩ => by obtain ⟨_, vs, ee, ld⟩ := r1.owned j _ hj; rw [hDl] at ee; cases ee
        have gD : G1 Dl = none := r1.sub.free hDl
        have r0' : REnv K G1 (upd H1 Dl (.lst [])) (L2.wipe σ vs) (wipeD ρ1 vs) F0 := r0.tr (Tr.newO (A := fun _ => False) r0.sub hDl) (fun _ _ z => z)
        -- the word
        let Wd : Nat → Hp → Prop := fun i H' => ∃ accV accD rest L ρi Gi Fi, goLc vs fg ft fe (ds.drop i) ρi = some (rest, ρ') ∧ accD ++ rest = xs ∧ H' Dl = some (.lst accV) ∧ Gi Dl = none ∧ Dl ∉ L ∧ ¬ own Fi Dl ∧ Reps K Gi H' accV accD L ∧ (∀ a ∈ L, ¬ own Fi a) ∧ REnv K Gi H' (L2.wipe σ vs) ρi Fi ∧ Tr G1 H1 (own F1) Gi H' (fun a => own Fi a ∨ a ∈ Dl :: L)
        refine ⟨fun i m H' => m = ds.length - i ∧ i ≤ ds.length ∧ Wd i H', ⟨ds.length, by omega, Nat.zero_le _, [], [], xs, [], wipeD ρ1 vs, G1, F0, hgo, rfl, upd_same, gD, List.not_mem_nil, fun z => nD (s0 _ z), .nil, fun a z => (nomatch z), r0', tn.post fun a h => ?_⟩, ?_⟩
        · rcases h with h | h
          · exact .inl (s0 a h)
          · exact .inr (by simpa using h)
        rintro i m H' ⟨rfl, hle, accV, accD, rest, L, ρi, Gi, Fi, eg, ex, hD, hGD, nDL, nDF, hR, nLF, ri, ti⟩
        have sH : Same G1 H' := ti.g.trans ti.sub
        by_cases hlt : i < ds.length
        · refine .inr ⟨jo.goes i H' hlt sH, fun H2 => ∃ m', m' < ds.length - i ∧ (m' = ds.length - (i + 1) ∧ i + 1 ≤ ds.length ∧ Wd (i + 1) H2), fun _ h => h, fun x H2 hy => ?_⟩
          have hd : ds[i]? = some ds[i] := List.getElem?_eq_getElem hlt
          obtain ⟨G2, t2, rv⟩ := jo.yields i ds[i] Gi H' x H2 hd ti.g ri.sub hy
          have r2 := ri.tr t2 (fun _ _ z => z)
          have hR2 := hR.tr t2 (fun _ _ z => z)
          have hD2 := t2.keep Dl _ hD (fun z => z)
          have hGD2 : G2 Dl = none := (t2.keepG Dl _ hD (fun z => z)).trans hGD
          have ti2 : Tr G1 H1 (own F1) G2 H2 (fun a => own Fi a ∨ a ∈ Dl :: L) := ti.trans (t2.wk (fun _ z => z.elim) fun a h => .inr (.inl h))
          rw [show ds.drop i = ds[i] :: ds.drop (i + 1) from List.drop_eq_getElem_cons hlt] at eg
          have eg1 : (fg ds[i] ρi).bind (fun ρ1 => (ft ρ1).bind fun b => if b.1 = true then (fe b.2).bind fun q => (goLc vs fg ft fe (ds.drop (i + 1)) (wipeD q.2 vs)).bind fun r => some (q.1 :: r.1, r.2) else goLc vs fg ft fe (ds.drop (i + 1)) (wipeD b.2 vs)) = some (rest, ρ') := eg
          cases hg1 : fg ds[i] ρi with
          | none => rw [hg1] at eg1; cases eg1
          | some ρ2 =>
            rw [hg1] at eg1
            have eg2 : (ft ρ2).bind (fun b => if b.1 = true then (fe b.2).bind fun q => (goLc vs fg ft fe (ds.drop (i + 1)) (wipeD q.2 vs)).bind fun r => some (q.1 :: r.1, r.2) else goLc vs fg ft fe (ds.drop (i + 1)) (wipeD b.2 vs)) = some (rest, ρ') := eg1
            refine hg ds[i] ρi ρ2 hg1 x (L2.wipe σ vs) G2 H2 Fi [] r2 rv (fun a z => nomatch z) _ fun σ3 G3 H3 F3 t3 r3 p3 => ?_
            have nA3 : ∀ a ∈ Dl :: L, ¬ (own Fi a ∨ a ∈ ([] : List Addr)) := fun a ha z => by
              rcases z with z | z
              · rcases List.mem_cons.mp ha with y | y
                · subst y; exact nDF z
                · exact nLF a y z
              · cases z
            have own2 : ∀ a ∈ Dl :: L, G2 a = none ∧ ∃ o, H2 a = some o ∧ LD o := fun a ha => by
              rcases List.mem_cons.mp ha with y | y
              · subst y; exact ⟨hGD2, _, hD2, .l _⟩
              · exact hR2.owned a y
            have ap3 := t3.apart own2 nA3
            have hR3 := hR2.tr t3 (fun a ha => nA3 a (List.mem_cons_of_mem _ ha))
            have hD3 := t3.keep Dl _ hD2 (nA3 Dl List.mem_cons_self)
            have hGD3 : G3 Dl = none := (t3.keepG Dl _ hD2 (nA3 Dl List.mem_cons_self)).trans hGD2
            refine ⟨wipe_pin p3, ?_⟩
            cases ht1 : ft ρ2 with
            | none => rw [ht1] at eg2; cases eg2
            | some b =>
              obtain ⟨b, ρ4⟩ := b
              rw [ht1] at eg2
              have eg3 : (if b = true then (fe ρ4).bind fun q => (goLc vs fg ft fe (ds.drop (i + 1)) (wipeD q.2 vs)).bind fun r => some (q.1 :: r.1, r.2) else goLc vs fg ft fe (ds.drop (i + 1)) (wipeD ρ4 vs)) = some (rest, ρ') := eg2
              refine ht ρ2 b ρ4 ht1 σ3 G3 H3 F3 r3 _ fun G4 H4 F4 t4 r4 => ?_
              have own3 : ∀ a ∈ Dl :: L, G3 a = none ∧ ∃ o, H3 a = some o ∧ LD o := fun a ha => by
                rcases List.mem_cons.mp ha with y | y
                · subst y; exact ⟨hGD3, _, hD3, .l _⟩
                · exact hR3.owned a y
              have ap4 := t4.apart own3 ap3
              have hR4 := hR3.tr t4 (fun a ha => ap3 a (List.mem_cons_of_mem _ ha))
              have hD4 := t4.keep Dl _ hD3 (ap3 Dl List.mem_cons_self)
              have hGD4 : G4 Dl = none := (t4.keepG Dl _ hD3 (ap3 Dl List.mem_cons_self)).trans hGD3
              have t34 : Tr G2 H2 (own Fi) G4 H4 (own F4) := (t3.wk (fun a h => h.elim id fun z => nomatch z) fun a h => .inl h).trans t4
              -- behind the turn so far
              have tlong : Tr G1 H1 (own F1) G4 H4 (fun a => own F4 a ∨ a ∈ Dl :: L) := ti2.trans (t34.wk (fun a h => .inl h) fun a h => by
                rcases h with h | h
                · exact .inl h
                · exact .inr (.inl (.inr h)))
              cases b with
              | false =>
                rw [if_neg Bool.false_ne_true] at eg3
                rw [if_neg Bool.false_ne_true]
                obtain ⟨F5, r5, s5⟩ := r4.wipe vs
                rw [wipe_pin p3] at r5
                refine ⟨_, by omega, rfl, hlt, accV, accD, rest, L, _, G4, F5, eg3, ex, hD4, hGD4, nDL, fun z => ap4 Dl List.mem_cons_self (s5 _ z), hR4, fun a ha z => ap4 a (List.mem_cons_of_mem _ ha) (s5 a z), r5, tlong.post fun a h => h.imp (s5 a) id⟩
              | true =>
                rw [if_pos rfl] at eg3
                rw [if_pos rfl]
                cases he1 : fe ρ4 with
                | none => rw [he1] at eg3; cases eg3
                | some qd =>
                  obtain ⟨y, ρ5⟩ := qd
                  rw [he1] at eg3
                  have eg4 : (goLc vs fg ft fe (ds.drop (i + 1)) (wipeD ρ5 vs)).bind (fun r => some (y :: r.1, r.2)) = some (rest, ρ') := eg3
                  cases hgo2 : goLc vs fg ft fe (ds.drop (i + 1)) (wipeD ρ5 vs) with
                  | none => rw [hgo2] at eg4; cases eg4
                  | some rr =>
                    obtain ⟨rest2, ρr⟩ := rr
                    rw [hgo2] at eg4; cases eg4
                    refine he ρ4 y ρ5 he1 σ3 G4 H4 F4 r4 _ fun v G5 H5 F5 M t5 r5 rv5 n5 => ?_
                    have own4 : ∀ a ∈ Dl :: L, G4 a = none ∧ ∃ o, H4 a = some o ∧ LD o := fun a ha => by
                      rcases List.mem_cons.mp ha with y | y
                      · subst y; exact ⟨hGD4, _, hD4, .l _⟩
                      · exact hR4.owned a y
                    have ap5 := t5.apart own4 ap4
                    have hR5 := hR4.tr t5 (fun a ha => ap4 a (List.mem_cons_of_mem _ ha))
                    have hD5 := t5.keep Dl _ hD4 (ap4 Dl List.mem_cons_self)
                    have hGD5 : G5 Dl = none := (t5.keepG Dl _ hD4 (ap4 Dl List.mem_cons_self)).trans hGD4
                    obtain ⟨F6, r6, s6⟩ := r5.wipe vs
                    rw [wipe_pin p3] at r6
                    have nDM : Dl ∉ M := fun z => ap5 Dl List.mem_cons_self (.inr z)
                    have nLM : ∀ a ∈ L, a ∉ M := fun a ha z => ap5 a (List.mem_cons_of_mem _ ha) (.inr z)
                    have sn := hR5.snoc rv5 nLM
                    have kp : ∀ {L0 : List Addr}, Dl ∉ L0 → Keep G5 H5 G5 (upd H5 Dl (.lst (accV ++ [v]))) L0 := fun {L0} hn0 => ⟨Same.refl _, fun _ _ h => h, fun b hb => upd_ne fun z => hn0 (z ▸ hb)⟩
                    have nDLM : Dl ∉ L ++ M := fun z => (List.mem_append.mp z).elim nDL nDM
                    have tw : Tr G5 H5 (fun b => b = Dl) G5 (upd H5 Dl (.lst (accV ++ [v]))) (fun b => b = Dl) := Tr.write r5.sub hGD5 rfl ⟨_, hD5⟩
                    have nD6 : ∀ a, own F6 a → a ≠ Dl := fun a h z => ap5 Dl List.mem_cons_self (.inl (s6 _ (z ▸ h)))
                    have hlen : accV.length = accD.length := hR.length
                    refine ⟨accV, hD5, ?_, _, by omega, rfl, hlt, accV ++ [v], accD ++ [y], rest2, L ++ M, _, G5, F6, hgo2, by rw [List.append_assoc]; exact ex, upd_same, hGD5, nDLM, fun z => nD6 _ z rfl, sn.keep (kp nDLM), fun a ha z => ?_, r6.tr tw nD6, ?_⟩
                    · have : accD.length ≤ smallL := by
                        have h1 : accD.length ≤ xs.length := by rw [← ex, List.length_append]; omega
                        omega
                      rw [hlen]
                      exact Nat.lt_of_le_of_lt this (by decide)
                    · rcases List.mem_append.mp ha with w | w
                      · exact ap5 a (List.mem_cons_of_mem _ w) (.inl (s6 a z))
                      · exact n5 a w (s6 a z)
                    · refine (tlong.trans (t5.wk (A2 := fun a => own F5 a ∨ a ∈ Dl :: (L ++ M)) (B := fun a => own F4 a ∨ a ∈ Dl :: L) (fun a h => .inl h) fun a h => ?_)).trans (tw.wk (fun b z => .inr (z ▸ List.mem_cons_self)) fun a h => ?_)
                      · rcases h with h | h
                        · exact .inl (.inl h)
                        · rcases List.mem_cons.mp h with z | z
                          · exact .inr (.inl (.inr (z ▸ List.mem_cons_self)))
                          · rcases List.mem_append.mp z with y | y
                            · exact .inr (.inl (.inr (List.mem_cons_of_mem _ y)))
                            · exact .inl (.inr y)
                      · rcases h with h | h
                        · exact .inr (.inl (.inl (s6 a h)))
                        · exact .inr (.inl (.inr h))
        · have ei : i = ds.length := by omega
          subst ei
          rw [List.drop_length] at eg
          cases eg
          rw [List.append_nil] at ex
          subst ex
          have ru := ri.unwipe hwe
          refine .inl ⟨jo.stops H' sH, q (.ref Dl) Gi H' Fi (Dl :: L) (t1.trans ti) ru (.lstO hGD hD nDL hR) fun a ha => ?_⟩
          rcases List.mem_cons.mp ha with z | z
          · subst z; exact nDF
          · exact nLF a z
      · rw [if_neg hz] at e2; cases e2
end
end VS
set_option Elab.async false
set_option linter.all false
set_option maxRecDepth 100000
namespace VS
open PySem PySem.Spec PyProof.Rows L2
/-- name op= e: what stands in the slot bears nothing owned -/
def augF (i : Nat) (g : List D → Option D) (o : Op) : FS := fun ρ => (getS ρ i).bind fun d0 => if noOwn d0 = true then (evOps [o] ρ).bind fun p => (fetch [o] p.1 p.2).bind fun ds => (g (d0 :: ds)).bind fun d => some (.nx (p.2.set i (some d))) else none
section
variable {K : PySem.W.Frag} {pn : Nat → Bool} {W : WX}
theorem Reps.setAt : ∀ {G H : Hp} {vs : List V} {ds : List D} {L M : List Addr} {v : V} {d : D} (j : Nat), Reps K G H vs ds L → Rep K G H v d M → (∀ a ∈ L, a ∉ M) → ∃ N, Reps K G H (vs.set j v) (ds.set j d) N ∧ ∀ a ∈ N, a ∈ L ∨ a ∈ M
  | _, _, _, _, _, M, v, d, j, .nil, h, n => ⟨[], .nil, fun a z => (nomatch z)⟩
  | _, _, _, _, _, M, v, d, 0, .cons (L := L1) (M := L2) hv hr hn, h, n =>
    ⟨M ++ L2, .cons h hr fun a ha hm => n a (List.mem_append_right _ hm) ha, fun a ha => (List.mem_append.mp ha).elim .inr fun z => .inl (List.mem_append_right _ z)⟩
  | _, _, _, _, _, M, v, d, j + 1, .cons (L := L1) (M := L2) hv hr hn, h, n => by
    obtain ⟨N, q, s⟩ := hr.setAt j h fun a ha => n a (List.mem_append_right _ ha)
    refine ⟨L1 ++ N, .cons hv q fun a ha hm => ?_, fun a ha => ?_⟩
    · rcases s a hm with z | z
      · exact hn a ha z
      · exact n a (List.mem_append_left _ ha) z
    · rcases List.mem_append.mp ha with z | z
      · exact .inl (List.mem_append_left _ z)
      · exact (s a z).imp (List.mem_append_right _) id
/-- x[i] = v -/
theorem simG_sub {k : Nat} {ti : TE} {oi : Op} (hi : SimO K ti oi) : SimG K pn (gSub (tVar k) ti rSetL) (tgSub k oi) := by
  intro d ρ ρ' e v σ G H F L r hv nn Q q
  unfold tgSub at e
  cases h0 : getS ρ k with
  | none => rw [h0] at e; cases e
  | some d0 =>
    rw [h0] at e
    obtain ⟨w, hw, hr0⟩ := r.at_ k d0 h0
    have e0 : (evOps [oi] ρ).bind (fun p => (fetch [oi] p.1 p.2).bind fun ds => subPut p.2 k d ds (getS p.2 k)) = some ρ' := e
    cases he : evOps [oi] ρ with
    | none => rw [he] at e0; cases e0
    | some p =>
      obtain ⟨ts, ρ1⟩ := p
      rw [he] at e0
      have e1 : (fetch [oi] ts ρ1).bind (fun ds => subPut ρ1 k d ds (getS ρ1 k)) = some ρ' := e0
      cases hf : fetch [oi] ts ρ1 with
      | none => rw [hf] at e1; cases e1
      | some ds =>
        rw [hf] at e1
        have e2 : subPut ρ1 k d ds (getS ρ1 k) = some ρ' := e1
        have key := simA_cons (ta := tNil) (ops := []) hi simA_nil ρ ts ρ1 he σ G H F r (fun vs H1 => ∀ x, vs = [x] → rSetL w x v H1 fun H2 => Q σ H2) fun vs G1 H1 F1 M t1 r1 ok n1 x ev => ?_
        · have k2 : ti σ H fun x H1 => ∀ y, [x] = [y] → rSetL w y v H1 fun H2 => Q σ H2 := key
          have m : (fun (x : V) H1 => ∀ y, [x] = [y] → rSetL w y v H1 fun H2 => Q σ H2) = (fun x H1 => rSetL w x v H1 fun H2 => Q σ H2) := by
            funext x H1
            exact propext ⟨fun h => h x rfl, fun h y e => by cases e; exact h⟩
          rw [m] at k2
          exact ⟨w, hw, k2⟩
        · subst ev
          have rl := ok.get r1 hf
          cases rl with
          | cons rx rr =>
            cases rr
            rename_i dx Lx
            cases dx with
            | int i =>
              cases rx
              cases h1 : getS ρ1 k with
              | none => rw [h1] at e2; cases e2
              | some d1 =>
                rw [h1] at e2
                cases d1 with
                | lst o xs =>
                  cases o with
                  | false => cases e2
                  | true =>
                    have e3 : (ixN xs.length i).bind (fun j => some (ρ1.set k (some (.lst true (xs.set j d))))) = some ρ' := e2
                    cases hj : ixN xs.length i with
                    | none => rw [hj] at e3; cases e3
                    | some j =>
                      rw [hj] at e3; cases e3
                      obtain ⟨w', hw', hrep⟩ := r1.at_ k _ h1
                      rw [hw] at hw'; cases hw'
                      generalize hFk : F1 k = Fk at hrep
                      cases hrep with
                      | lstO hG hH hn hr =>
                        rename_i a vs La
                        have hsub : ∀ b ∈ a :: La, own F1 b := fun b hb => ⟨k, by rw [hFk]; exact hb⟩
                        have apv : ∀ b ∈ L, ¬ (own F1 b ∨ b ∈ M) := t1.apart hv.owned nn
                        have hv1 := hv.tr t1 nn
                        obtain ⟨N, hN, sN⟩ := hr.setAt j hv1 fun b hb hbL => apv b hbL (.inl (hsub b (List.mem_cons_of_mem _ hb)))
                        have naN : a ∉ N := fun z => (sN a z).elim hn fun y => apv a y (.inl (hsub a List.mem_cons_self))
                        refine ⟨a, vs, i, j, rfl, rfl, hH, by rw [hr.length]; exact hj, ?_⟩
                        have tw : Tr G1 H1 (fun b => b = a) G1 (upd H1 a (.lst (vs.set j v))) (fun b => b = a) := Tr.write r1.sub hG rfl ⟨_, hH⟩
                        have rd := (r1.drop k).tr tw fun b ⟨jj, hjj⟩ z => by
                          subst z
                          by_cases hji : jj = k
                          · subst hji; rw [fset_same] at hjj; cases hjj
                          · rw [fset_ne hji] at hjj; exact r1.dis jj k hji _ hjj (by rw [hFk]; exact List.mem_cons_self)
                        have hnew : Rep K G1 (upd H1 a (.lst (vs.set j v))) (.ref a) (.lst true (xs.set j d)) (a :: N) := .lstO hG upd_same naN (hN.keep ⟨Same.refl _, fun _ _ h => h, fun b hb => upd_ne fun z => naN (z ▸ hb)⟩)
                        have rp := rd.re (i := k) (by rw [List.length_set]; exact r1.lt h1) hw hnew (fun b hb jj hjk hbj => by
                          rw [fset_ne hjk] at hbj
                          rcases List.mem_cons.mp hb with z | z
                          · subst z; exact r1.dis jj k hjk _ hbj (by rw [hFk]; exact List.mem_cons_self)
                          · rcases sN b z with y | y
                            · exact r1.dis jj k hjk _ hbj (by rw [hFk]; exact List.mem_cons_of_mem _ y)
                            · exact apv b y (.inl ⟨jj, hbj⟩))
                        rw [List.set_set] at rp
                        have t1' : Tr G H (fun a => own F a ∨ a ∈ L) G1 H1 (fun a => own F1 a ∨ a ∈ L) := t1.wk (fun a h => .inl h) fun a h => by
                          rcases h with h | h
                          · exact .inl (.inl h)
                          · exact .inr (.inl (.inr h))
                        refine q σ G1 _ _ (t1'.trans (tw.wk (fun b z => .inl (z ▸ hsub a List.mem_cons_self)) fun b hb => .inr (.inl ?_))) rp Pin.refl
                        obtain ⟨jj, hjj⟩ := hb
                        by_cases hji : jj = k
                        · subst hji
                          rw [fset_same] at hjj
                          rcases List.mem_cons.mp hjj with z | z
                          · exact .inl (z ▸ hsub a List.mem_cons_self)
                          · rcases sN b z with y | y
                            · exact .inl (hsub b (List.mem_cons_of_mem _ y))
                            · exact .inr y
                        · rw [fset_ne hji, fset_ne hji] at hjj; exact .inl ⟨jj, hjj⟩
                | _ => cases e2
            | _ => cases e2
end
section
variable {X : Cx} {pn : Nat → Bool} {W : WX} {e a b : Expr} {es : List Expr} {pos : Pos}
theorem pgf_sub {k : Nat} {o i : Expr} {oi : Op} (ho : PE X o (tVar k)) (hi : POf X i oi) (ha : ∀ v, assign (.Subscript o i pos) X.env v = (do
      let ov ← holding [v] (eval o X.env)
      let iv ← holding [v, ov] (eval i X.env)
      standAt pos
      holding [v, ov, iv] (setItem ov iv v)
      release [v, ov, iv] []) := by intro _; rfl) : PGf X pn (.Subscript o i pos) (tgSub k oi) := by
  obtain ⟨te, p1, s1⟩ := hi.ex
  exact .mk (pg_sub ho p1 set_list ha) (simG_sub s1)
theorem pf_tup {x1} {ops : List Op} (h : PAf X es ops) : PEf X (.Tuple es x1 pos) (tupF ops) := .mk (pe_tup h) (simE_tup (simA_of ops))
theorem pf_lst {ops : List Op} (h : PAf X es ops) : PEf X (.List es pos) (lstF ops) := .mk (pe_lst h) (simE_lst (simA_of ops))
theorem pf_lc {elt tg iter : Expr} {ifs : List Expr} {scope : Scope} {own : List (Str × Nat)} {fi : FI} {fg : D → Env → Option Env} {ft : FB} {fe : FE} (hc : X.calm = true) (hN : X.N.Nodup) (hi : PIf X tg iter fi) (ok : BlkOk X.N X.env.scope scope own)
    (hg : ∀ (s : Shared) (H : Hp) (C : Addr) (cl : List (Str × Addr)) (fp : List Addr), PGf (X.blk s H scope (compEnvC scope cl C X.env) fp) (fun j => !(own.map (·.2)).contains j) tg fg)
    (ht : ∀ (s : Shared) (H : Hp) (C : Addr) (cl : List (Str × Addr)) (fp : List Addr), PTs (X.blk s H scope (compEnvC scope cl C X.env) fp) ifs (ttOf X.K ft))
    (he : ∀ (s : Shared) (H : Hp) (C : Addr) (cl : List (Str × Addr)) (fp : List Addr), PEf (X.blk s H scope (compEnvC scope cl C X.env) fp) elt fe) (hs : ∀ x, foldedSetIterable iter X.env x = pure x := by intro _; rfl) :
    PEf X (.ListComp elt [⟨tg, iter, ifs, 0⟩] scope pos) (lcF (own.map (·.2)) fi fg ft fe) :=
  .mk (pe_lc hc hN hi ok hg ht he hs) (simE_lc (simI_of fi) (simG_of fg) (simT_of' ft) (simE_of fe))
theorem ptsf_nil : PTs X [] (ttOf X.K yesF) := ⟨fun pins s σ H Q I ⟨ρ, b, ρ', G, F, ee, r, q⟩ => by
  cases ee
  exact pts_nil.run pins s σ H Q I (q G H F (Tr.refl r.sub) r)⟩
theorem ptsf_one {c : Expr} {f : FB} (h : PTf X c f) : PTs X [c] (ttOf X.K f) := pts_one h
end
end VS
set_option Elab.async false
set_option linter.all false
set_option maxRecDepth 100000
namespace PySem
open Sem (wp)
open AutoSeq1 (wpAny_loadPart')
/-- enumerate(v), v one that begins -/
theorem vs_enum_new {v : Value} {o : Obj} {H : Heap → Prop} (B : Begins v o H) :
    Meets (Builtin.«enumerate.__new__» ⟨[.type "enumerate", v], []⟩) (fun _ R s => H s.heap ∧
      R (.ok (.ret (.ref (s.heap.push o).objs.size))) { s with heap := (s.heap.push o).push { cls := .type "enumerate", data := .fields #[.none, .bool false, .ref s.heap.objs.size, rawInt 0, .none, .none] } }) :=
  .of_wp fun prog w A R s h => by
    obtain ⟨hp, g, d, tk, os⟩ := s; obtain ⟨h1, h⟩ := h
    have hsub := sub_enumerate
    have q1 : ∀ {A' : Around} {E : Value → Shared → Prop} {Q : Value → Shared → Prop}, Q (.ref hp.objs.size) ⟨hp.push o, g, d, tk, os⟩ → wpAny (model prog w) A' (pyIter v) Q E ⟨hp, g, d, tk, os⟩ :=
      fun q => B.iter prog w _ _ ⟨hp, g, d, tk, os⟩ _ h1 q
    wp_walk using q1
    refine wpAny_stack_any fun st => wpAny_pure ?_
    split
    · rename_i c _ _ _ _ _
      cases (c == Value.type "enumerate")
      · wp_walk using q1
        exact ⟨_, rfl, h⟩
      · wp_walk using q1
        exact ⟨_, rfl, h⟩
    · wp_walk using q1
      exact ⟨_, rfl, h⟩
section
variable {prog : Program} {w : World} {A : Around} {E : Value → Shared → Prop} {s : Shared}
theorem vs_enum_begins {v : Value} {o : Obj} {H : Heap → Prop} {Q : Value → Shared → Prop} (B : Begins v o H) (h1 : H s.heap)
    (h : ∀ h', IsEnum h' (s.heap.objs.size + 1) s.heap.objs.size 0 .none → h'.get? s.heap.objs.size = some o → h'.objs.size = s.heap.objs.size + 2 →
      (∀ b o, s.heap.get? b = some o → h'.get? b = some o) → Q (.ref (s.heap.objs.size + 1)) { s with heap := h' }) :
    wpAny (model prog w) A (call (.type "enumerate") [v]) Q E s := by
  refine callType_new F.called_enumerate (by decide) (F.typeCall_enumerate_1 _) (F.newCall_enumerate_1 _) (fun obj => F.args_object_init_2 obj _) F.entry_enumerate_new
    (vs_enum_new B) ⟨h1, ?_⟩
  have hz : (s.heap.push o).objs.size = s.heap.objs.size + 1 := Heap.size_push ..
  show _ ∧ _
  rw [hz]
  have he : IsEnum ((s.heap.push o).push { cls := .type "enumerate", data := .fields #[.none, .bool false, .ref s.heap.objs.size, rawInt 0, .none, .none] }) (s.heap.objs.size + 1) s.heap.objs.size 0 .none := by
    have := Heap.get?_push_size (s.heap.push o) (o := { cls := .type "enumerate", data := .fields #[.none, .bool false, .ref s.heap.objs.size, rawInt 0, .none, .none] }) rfl
    rw [hz] at this; exact this
  refine ⟨⟨_, he, rfl⟩, h _ he (Heap.get?_push_of_some _ (Heap.get?_push_size _ B.free)) (by rw [Heap.size_push, hz]) fun b o x => Heap.get?_push_of_some _ (Heap.get?_push_of_some _ x)⟩
end
end PySem
namespace VS
open PySem PySem.Spec PyProof.Rows L2
/-- the tuple at a, each item in a new pair -/
def IteT (K : PySem.W.Frag) (a : Addr) : It :=
  ⟨fun i H => ∃ (xs : List V) (x : V), SqT K H a xs ∧ xs[i]? = some x, fun i H v H' => ∃ T x, v = .ref T ∧ H T = none ∧ H' = upd H T (.tup [.int (i : Nat), x]) ∧ ∀ xs, SqT K H a xs → xs[i]? = some x, fun i H => ∃ xs : List V, SqT K H a xs ∧ xs.length ≤ i⟩
theorem turn_enumT {P : Program} {w : World} {K : PySem.W.Frag} {elts : List Expr} {kk : Nat} {tpos : Pos} (a e it : Addr) :
    Turn P w K (.Tuple elts kk tpos) (IteT K a) [e, it] e (fun i h => (∃ old, IsEnum h e it ((i : Nat) : Int) old) ∧ h.IsTupleIter it a i ∧ e ≠ it ∧ a ≠ it ∧ a ≠ e) where
  mem := by simp
  obj := fun i h st b hb => by
    obtain ⟨⟨old, he⟩, ⟨o, ho, hc, hd⟩, _⟩ := st
    have e' : b = e ∨ b = it := by simpa using hb
    rcases e' with z | z
    · rw [z]; exact ⟨_, he, fun v q => nomatch q⟩
    · rw [z]; exact ⟨o, ho, fun v q => by rw [hd] at q; cases q⟩
  keep := fun i h h' st k => let ⟨⟨old, he⟩, hi, hne⟩ := st; ⟨⟨old, k e (by simp) _ he⟩, hi.at fun o q => k it (by simp) o q, hne⟩
  item := by
    intro X hP hw hK hc i pins s σ H E I hf st hg
    subst hP hw hK
    obtain ⟨⟨old, he⟩, hit, hne, hai, hae⟩ := st
    obtain ⟨xs, x, hq, hx⟩ := hg
    obtain ⟨its, rv, p, hz⟩ := I.tuple hq
    obtain ⟨u, hu, ru⟩ := rv.get hx
    have hel : e < s.heap.objs.size := Heap.lt_size he
    have hil : it < s.heap.objs.size := by obtain ⟨_, q, _⟩ := hit; exact Heap.lt_size q
    have hh : X.A.in1.handled = none := I.ok.hd hc
    have hlt : i < its.toArray.size := by
      have := (List.getElem?_eq_some_iff.mp hu).1
      simpa using this
    refine wpAny_pyNext_enum_itemD (Draws.tuple hh it a hai its.toArray) he ⟨hit, p⟩ hlt hne (by simp only [List.mem_cons, List.not_mem_nil, or_false, not_or]; exact ⟨hne, fun z => hae z.symm⟩) fun x' h' tk hx' ho hst' hT hsz hk => ?_
    have ex : x' = u := by
      have : its.toArray[i]? = some u := by simpa using hu
      rw [this] at hx'; cases hx'; rfl
    subst ex
    refine ⟨_, rfl, wpAny_letOwnedTupleGo_enum (s := { s with heap := h', toks := tk + 1 }) ho fun h'' he' sb => ?_⟩
    have hT2 : h''.get? s.heap.objs.size = some { cls := .type "tuple", data := .seq #[.int i tk, x'] } := (sb.2 _ (Nat.ne_of_gt hel)).trans hT
    have new : ObjOk X.prog X.w (upd H s.heap.objs.size (.tup [.int (i : Nat), x])) h'' s.heap.objs.size (.tup [.int (i : Nat), x]) :=
      ⟨by show 2 ≤ sizeLine; decide, [.int i tk, x'], .cons ⟨_, rfl⟩ (.cons ru .nil), ⟨_, hT2, rfl, _, rfl⟩⟩
    have I1 : Inv X pins σ (upd H s.heap.objs.size (.tup [.int (i : Nat), x])) { s with heap := h'', toks := tk + 1 } :=
      I.turnedNew (ch := [e, it]) (fun b ob hb q => (sb.2 b (fun z => hb (by simp [z]))).trans (hk b ob (fun z => hb (by simp [z])) (fun z => hb (by simp [z])) q)) hf (Nat.le_refl _) new
    refine ⟨.ref s.heap.objs.size, _, I1, rfl, ⟨_, x, rfl, I.hok.fresh (Nat.le_refl _), rfl, fun ys hy => by rw [I.tuple_inj hy hq]; exact hx⟩, ⟨⟨x', ?_⟩, hst'.1.at fun o q => (sb.2 it (Ne.symm hne)).trans q, hne, hai, hae⟩, fun b hb => ?_⟩
    · have e1 : ((i + 1 : Nat) : Int) = (i : Int) + 1 := by omega
      rw [e1]; exact he'
    · have hb' : b < s.heap.objs.size := by
        have e' : b = e ∨ b = it := by simpa using hb
        rcases e' with z | z
        · rw [z]; exact hel
        · rw [z]; exact hil
      rw [upd_ne (Nat.ne_of_lt hb')]
      exact (hf b hb).1
  done := by
    intro X hP hw hK hc i pins s σ H E I hf st hg
    subst hP hw hK
    obtain ⟨⟨old, he⟩, hit, hne, hai, hae⟩ := st
    obtain ⟨xs, hq, hx⟩ := hg
    obtain ⟨its, rv, p, hz⟩ := I.tuple hq
    obtain ⟨f0, f1, f2, f3, f4, f5⟩ := hf it (by simp)
    have hl := rv.length
    have hh : X.A.in1.handled = none := I.ok.hd hc
    have hT : s.TypeIs (.ref e) "enumerate" := ⟨_, he, rfl⟩
    unfold pyNext
    refine wpAny_bind (wpAny_attempt (wpAny_callSpecial?_slot (name := Str.ofString "__next__") hT F.slot_enumerate_next
      (wpAny_call_entry F.slot_enumerate_next hT F.entry_enumerate_next ?_ (F.args_enumerate_next_1 _))))
    show wpAny _ _ (field (.ref e) 2 >>= _) _ _ _
    refine wpAny_bind (wpAny_field he rfl (x := .ref it) rfl ?_)
    refine wpAny_bind (wpAny_nextOf_tuple_end (i := i) hh hit p (by simp; omega) fun h' x he' hx' => ?_)
    obtain ⟨o, ho, hc'⟩ := hx'
    refine wpAny_bind (wpAny_isInstance (T := "StopIteration") (b := true) ⟨o, ho, hc'⟩ isSubtype_stop ?_)
    exact wpAny_pure ⟨rfl, I.turned (t' := s.toks) (fun b o hb q => he' b o hb q) f0 f1 f3 f4 f5⟩
  self := fun A i s Q E st h => let ⟨⟨_, he⟩, _⟩ := st; wpAny_pyIter_enum he h
theorem walk_enumT {K : PySem.W.Frag} {a : Addr} {xs : List V} : Walk (IteT K a) xs.length (fun H => SqT K H a xs) (YPair (fun i => some (.int (i : Nat))) (fun i => xs[i]?)) := by
  refine ⟨fun i _ hi q => ⟨xs, xs[i], q, by simp [hi]⟩, fun _ q => ⟨xs, q, Nat.le_refl _⟩, fun i H v H' _ q y => ?_⟩
  obtain ⟨T, x, h1, h2, h3, h4⟩ := y
  exact ⟨T, .int (i : Nat), x, h1, h2, h3, rfl, h4 xs q⟩
def iEnumA (K : PySem.W.Frag) (te : TE) : TI := fun σ H R => te σ H fun v H1 => ∃ a xs, v = .ref a ∧ ((SqL K H1 a xs ∧ R (Ite K a) H1) ∨ (SqT K H1 a xs ∧ R (IteT K a) H1))
theorem pi_enumA {X : Cx} {e : Expr} {te : TE} {p pos tpos : Pos} {elts : List Expr} {kk : Nat} (hg : Gl X "enumerate") (hm : X.mg "enumerate" = none) (he : PE X e te) (hs : starEach [e] X.env = [(false, eval e X.env)] := by rfl) :
    PI X (.Tuple elts kk tpos) (.Call (.Name "enumerate" p) [e] [] pos) (iEnumA X.K te) := by
  refine ⟨fun pins s σ H R I h => ?_⟩
  have ha : PA X [e] (tCons te tNil) := pa_cons he pa_nil hs
  have h' : (tCons te tNil) σ H fun vs H1 => ∃ v, vs = [v] ∧ ∃ a xs, v = .ref a ∧ ((SqL X.K H1 a xs ∧ R (Ite X.K a) H1) ∨ (SqT X.K H1 a xs ∧ R (IteT X.K a) H1)) := by
    show te σ H fun x H1 => ∃ v, [x] = [v] ∧ ∃ a xs, v = .ref a ∧ ((SqL X.K H1 a xs ∧ R (Ite X.K a) H1) ∨ (SqT X.K H1 a xs ∧ R (IteT X.K a) H1))
    have m : (fun (x : V) H1 => ∃ v, [x] = [v] ∧ ∃ a xs, v = .ref a ∧ ((SqL X.K H1 a xs ∧ R (Ite X.K a) H1) ∨ (SqT X.K H1 a xs ∧ R (IteT X.K a) H1))) = (fun v H1 => ∃ a xs, v = .ref a ∧ ((SqL X.K H1 a xs ∧ R (Ite X.K a) H1) ∨ (SqT X.K H1 a xs ∧ R (IteT X.K a) H1))) := by
      funext x H1
      exact propext ⟨fun ⟨v, e, q⟩ => by cases e; exact q, fun q => ⟨x, rfl, q⟩⟩
    rw [m]
    exact h
  refine Call_ (ld_blt I hg hm boot_enumerate (PyProof.Rows.callWith_type1 (thn (ha.run pos pins s σ H _ I h') fun us s1 ⟨vs, H1, I1, r1, q1⟩ => ?_) hs rfl))
  obtain ⟨v, ex, a, xs, ev, q1⟩ := q1
  subst ex; subst ev
  cases r1 with
  | cons r rr =>
    cases rr
    cases r
    rcases q1 with ⟨hq, q⟩ | ⟨hq, q⟩
    · obtain ⟨its, rv, p', hz⟩ := I1.list hq
      refine call_enumerate_list p'.isList fun h' he hit hsz hk => wpAny_pyIter_enum he ?_
      have I2 : Inv X pins σ H1 { s1 with heap := h' } := I1.kept (t' := s1.toks) hk
      refine ⟨s1.heap.objs.size + 1, [s1.heap.objs.size + 1, s1.heap.objs.size], _, _, H1, rfl, I2, turn_enum a (s1.heap.objs.size + 1) s1.heap.objs.size, ⟨⟨.none, he⟩, hit, Nat.succ_ne_self _⟩, fun b hb => ?_, q⟩
      have e' : b = s1.heap.objs.size + 1 ∨ b = s1.heap.objs.size := by simpa using hb
      have hle : s1.heap.objs.size ≤ b := by
        rcases e' with z | z
        · rw [z]; exact Nat.le_add_right _ _
        · rw [z]; exact Nat.le_refl _
      exact I1.fpOk hle (I1.hok.fresh hle)
    · obtain ⟨its, rv, p', hz⟩ := I1.tuple hq
      have hal : a < s1.heap.objs.size := by obtain ⟨o, ho, _⟩ := id p'; exact Heap.lt_size ho
      refine vs_enum_begins (begins_tuple a its.toArray) p' fun h' he hit hsz hk => wpAny_pyIter_enum he ?_
      have I2 : Inv X pins σ H1 { s1 with heap := h' } := I1.kept (t' := s1.toks) hk
      refine ⟨s1.heap.objs.size + 1, [s1.heap.objs.size + 1, s1.heap.objs.size], _, _, H1, rfl, I2, turn_enumT a (s1.heap.objs.size + 1) s1.heap.objs.size, ⟨⟨.none, he⟩, ⟨_, hit, rfl, rfl⟩, Nat.succ_ne_self _, Nat.ne_of_lt hal, Nat.ne_of_lt (Nat.lt_succ_of_lt hal)⟩, fun b hb => ?_, q⟩
      have e' : b = s1.heap.objs.size + 1 ∨ b = s1.heap.objs.size := by simpa using hb
      have hle : s1.heap.objs.size ≤ b := by
        rcases e' with z | z
        · rw [z]; exact Nat.le_add_right _ _
        · rw [z]; exact Nat.le_refl _
      exact I1.fpOk hle (I1.hok.fresh hle)
/-- a list, a tuple or a text walked -/
def iSeq (K : PySem.W.Frag) (tl : TE) : TI := fun σ H R => tl σ H fun x H1 => (∃ a, x = .ref a ∧ (((∃ xs, SqL K H1 a xs) ∧ R (Itl K a) H1) ∨ ((∃ xs, SqT K H1 a xs) ∧ R (Itt K a) H1)))
theorem pi_seq {X : Cx} {tg l : Expr} {tl : TE} (hl : PE X l tl) : PI X tg l (iSeq X.K tl) := by
  refine ⟨fun pins s σ H R I h => ?_⟩
  refine thn (hl.run pins s σ H _ I h) fun v s1 ⟨x, H1, I1, r1, q1⟩ => ?_
  obtain ⟨a, e, q1⟩ := q1
  subst e
  cases r1
  rcases q1 with ⟨⟨xs, hq⟩, q⟩ | ⟨⟨xs, hq⟩, q⟩
  · obtain ⟨its, rv, p, hz⟩ := I1.list hq
    refine wpAny_pyIter_list p.isList ?_
    refine ⟨s1.heap.objs.size, [s1.heap.objs.size], _, _, H1, rfl, I1.kept (t' := s1.toks) fun b o e => Heap.get?_push_of_some _ e, turn_list a _, ⟨_, Heap.get?_push_size _ rfl, rfl, rfl⟩, fun b hb => ?_, q⟩
    have e : b = s1.heap.objs.size := by simpa using hb
    subst e
    exact I1.fpOk (Nat.le_refl _) (I1.hok.fresh (Nat.le_refl _))
  · obtain ⟨its, rv, p, hz⟩ := I1.tuple hq
    refine wpAny_pyIter_tuple (show s1.heap.IsTuple a its.toArray from p) ?_
    refine ⟨s1.heap.objs.size, [s1.heap.objs.size], _, _, H1, rfl, I1.kept (t' := s1.toks) fun b o e => Heap.get?_push_of_some _ e, turn_tuple a _, ⟨_, Heap.get?_push_size _ rfl, rfl, rfl⟩, fun b hb => ?_, q⟩
    have e : b = s1.heap.objs.size := by simpa using hb
    subst e
    exact I1.fpOk (Nat.le_refl _) (I1.hok.fresh (Nat.le_refl _))
def seqD : D → Option (List D)
  | .lst _ xs => some (freezes xs)
  | .tup xs => some (freezes xs)
  | .scr ns => some (ns.map .int)
  | _ => none
def itSeq (f : FE) : FI := fun ρ => (f ρ).bind fun p => (seqD p.1).bind fun xs => some (xs, p.2)
def itEnum (f : FE) : FI := fun ρ => (f ρ).bind fun p => (seqD p.1).bind fun xs => some (((intsTo 0 xs.length).zip xs).map fun q => .tup [q.1, q.2], p.2)
def rng1D : List D → Option (List D)
  | [.int j] => if -4611686018427387904 ≤ j ∧ j < 4611686018427387904 then some (intsTo 0 j.toNat) else none
  | _ => none
def rng2D : List D → Option (List D)
  | [.int i, .int j] => if -4611686018427387904 ≤ i ∧ i < 4611686018427387904 ∧ -4611686018427387904 ≤ j ∧ j < 4611686018427387904 then some (intsTo i (j - i).toNat) else none
  | _ => none
def rng3D : List D → Option (List D)
  | [.int i, .int j, .int c] => if c = -1 ∧ -4611686018427387904 ≤ i ∧ i < 4611686018427387904 ∧ -4611686018427387904 ≤ j ∧ j < 4611686018427387904 then some (intsBy i (-1) (i - j).toNat)
    else if 0 < c ∧ c < 1000000 ∧ -1000000000 ≤ i ∧ i < 1000000000 ∧ -1000000000 ≤ j ∧ j < 1000000000 then some (intsBy i c (if i < j then (j - i - 1) / c + 1 else 0).toNat) else none
  | _ => none
def itRg (rd : List D → Option (List D)) (ops : List Op) : FI := fun ρ => (evOps ops ρ).bind fun p => (fetch ops p.1 p.2).bind fun ds => (rd ds).bind fun xs => some (xs, p.2)
section
variable {K : PySem.W.Frag} {pn : Nat → Bool} {W : WX}
theorem intsTo_len (lo : Int) (n : Nat) : (intsTo lo n).length = n := by unfold intsTo; rw [List.length_map, List.length_range]
theorem reps_ints {G H : Hp} : ∀ ns : List Int, Reps K G H (ns.map V.int) (ns.map D.int) []
  | [] => .nil
  | n :: ns => Reps.cons (.int n) (reps_ints ns) fun a z => nomatch z
/-- a value made, then frozen -/
theorem simE_frz {te : TE} {f : FE} (h : SimE K te f) {ρ : Env} {d : D} {ρ' : Env} (e : f ρ = some (d, ρ')) {σ : L2.St} {G H : Hp} {F : Nat → List Addr} (r : REnv K G H σ ρ F) (Q : VK)
    (q : ∀ v G' H' F', Tr G H (own F) G' H' (own F') → REnv K G' H' σ ρ' F' → Rep K G' H' v (freeze d) [] → Q v H') : te σ H Q :=
  h ρ d ρ' e σ G H F r Q fun v G1 H1 F1 L t1 r1 rv n1 => by
    obtain ⟨G2, t2, r2, rv2⟩ := r1.frz rv n1
    exact q v G2 H1 F1 (t1.trans t2) r2 rv2
theorem simI_seq {te : TE} {f : FE} (h : SimE K te f) : SimI K (iSeq K te) (itSeq f) := by
  intro ρ ds ρ' e σ G H F r R q
  unfold itSeq at e
  cases hf : f ρ with
  | none => rw [hf] at e; cases e
  | some p =>
    obtain ⟨d, ρ1⟩ := p
    rw [hf] at e
    have e1 : (seqD d).bind (fun xs => some (xs, ρ1)) = some (ds, ρ') := e
    cases d with
    | lst o xs =>
      cases e1
      refine simE_frz h hf r _ fun v G' H' F' t' r' rv => ?_
      cases rv with
      | lstS hs hr _ => exact ⟨_, rfl, .inl ⟨⟨_, SqL.of (r'.sub _ _ hs)⟩, q _ G' H' F' t' r' (jok_list (SqL.of hs) hr)⟩⟩
    | scr ns =>
      cases e1
      refine simE_frz h hf r _ fun v G' H' F' t' r' rv => ?_
      cases rv with
      | scr hs => exact ⟨_, rfl, .inl ⟨⟨_, Same.seq r'.sub hs⟩, q _ G' H' F' t' r' (jok_list (H0 := H') hs (reps_ints ns))⟩⟩
    | tup xs =>
      cases e1
      refine simE_frz h hf r _ fun v G' H' F' t' r' rv => ?_
      cases rv with
      | tup hs hr => exact ⟨_, rfl, .inr ⟨⟨_, Same.seqT r'.sub hs⟩, q _ G' H' F' t' r' (jok_tup hs hr)⟩⟩
    | _ => cases e1
theorem simI_enum {te : TE} {f : FE} (h : SimE K te f) : SimI K (iEnumA K te) (itEnum f) := by
  intro ρ ds ρ' e σ G H F r R q
  unfold itEnum at e
  cases hf : f ρ with
  | none => rw [hf] at e; cases e
  | some p =>
    obtain ⟨d, ρ1⟩ := p
    rw [hf] at e
    have e1 : (seqD d).bind (fun xs => some (((intsTo 0 xs.length).zip xs).map (fun q => D.tup [q.1, q.2]), ρ1)) = some (ds, ρ') := e
    have hint : ∀ (n : Nat) (i : Nat) (d : D) (x : V) (G : Hp) (H : Hp), (intsTo 0 n)[i]? = some d → some (V.int (i : Nat)) = some x → Rep K G H x d [] := fun n i d x G H hd hx => by
      have hi : i < n := by rw [← intsTo_len 0 n]; exact (List.getElem?_eq_some_iff.mp hd).1
      unfold intsTo at hd
      rw [List.getElem?_map, List.getElem?_range hi] at hd
      cases hd; cases hx
      have : (0 : Int) + (i : Nat) = (i : Nat) := Int.zero_add _
      show Rep K G H (.int ((i : Nat) : Int)) (.int (0 + ((i : Nat) : Int))) []
      rw [this]
      exact .int _
    cases d with
    | lst o xs =>
      cases e1
      refine simE_frz h hf r _ fun v G' H' F' t' r' rv => ?_
      cases rv with
      | lstS hs hr _ =>
        refine ⟨_, _, rfl, .inl ⟨SqL.of (r'.sub _ _ hs), q _ G' H' F' t' r' (jok_pair walk_enum (fun H s => SqL.of (s _ _ hs)) (by rw [intsTo_len, hr.length]) hr.length.symm (fun i d x G H hd hx _ => hint _ i d x G H hd hx) fun i d x G H hd hx s => ?_)⟩⟩
        obtain ⟨M, q1, s1⟩ := hr.get0 hx hd
        have : M = [] := List.eq_nil_iff_forall_not_mem.mpr fun a ha => nomatch s1 a ha
        subst this
        exact q1.far s
    | scr ns =>
      cases e1
      refine simE_frz h hf r _ fun v G' H' F' t' r' rv => ?_
      cases rv with
      | scr hs =>
        have hr := reps_ints (K := K) (G := G') (H := H') ns
        refine ⟨_, _, rfl, .inl ⟨Same.seq r'.sub hs, q _ G' H' F' t' r' (jok_pair walk_enum (fun H s => Same.seq s hs) (by rw [intsTo_len, hr.length]) hr.length.symm (fun i d x G H hd hx _ => hint _ i d x G H hd hx) fun i d x G H hd hx s => ?_)⟩⟩
        obtain ⟨M, q1, s1⟩ := hr.get0 hx hd
        have : M = [] := List.eq_nil_iff_forall_not_mem.mpr fun a ha => nomatch s1 a ha
        subst this
        exact q1.far s
    | tup xs =>
      cases e1
      refine simE_frz h hf r _ fun v G' H' F' t' r' rv => ?_
      cases rv with
      | tup hs hr =>
        refine ⟨_, _, rfl, .inr ⟨Same.seqT r'.sub hs, q _ G' H' F' t' r' (jok_pair walk_enumT (fun H s => Same.seqT s hs) (by rw [intsTo_len, hr.length]) hr.length.symm (fun i d x G H hd hx _ => hint _ i d x G H hd hx) fun i d x G H hd hx s => ?_)⟩⟩
        obtain ⟨M, q1, s1⟩ := hr.get0 hx hd
        have : M = [] := List.eq_nil_iff_forall_not_mem.mpr fun a ha => nomatch s1 a ha
        subst this
        exact q1.far s
    | _ => cases e1
theorem simI_rngs {ta : TA} {ops : List Op} {rd : List D → Option (List D)} {w : List V → Hp → (It → Hp → Prop) → Prop} (h : SimA K ta ops)
    (hw : ∀ G H vs ds xs R, RepL K G H vs ds → rd ds = some xs → (∀ J, JOk K J G xs → R J H) → w vs H R) :
    SimI K (fun σ H R => ta σ H fun vs H1 => w vs H1 R) (itRg rd ops) := by
  intro ρ ds ρ' e σ G H F r R q
  unfold itRg at e
  cases he : evOps ops ρ with
  | none => rw [he] at e; cases e
  | some p =>
    obtain ⟨ts, ρ1⟩ := p
    rw [he] at e
    have e1 : (fetch ops ts ρ1).bind (fun ds => (rd ds).bind fun xs => some (xs, ρ1)) = some (ds, ρ') := e
    cases hf : fetch ops ts ρ1 with
    | none => rw [hf] at e1; cases e1
    | some es =>
      rw [hf] at e1
      have e2 : (rd es).bind (fun xs => some (xs, ρ1)) = some (ds, ρ') := e1
      cases hr : rd es with
      | none => rw [hr] at e2; cases e2
      | some xs =>
        rw [hr] at e2; cases e2
        refine h ρ ts ρ' he σ G H F r _ fun vs G1 H1 F1 M t1 r1 ok n1 => ?_
        exact hw G1 H1 vs es _ R (ok.get r1 hf) hr fun J jo => q J G1 H1 F1 (t1.post fun a h => .inl h) r1 jo
theorem simI_rng1 {ta : TA} {ops : List Op} (h : SimA K ta ops) : SimI K (iRng1 ta) (itRg rng1D ops) := by
  refine simI_rngs (w := fun vs H1 R => ∃ j : Int, vs = [.int j] ∧ -(2 ^ 62) ≤ j ∧ j < 2 ^ 62 ∧ R (Itr 0 j.toNat) H1) h fun G H vs ds xs R rl hr q => ?_
  unfold rng1D at hr
  split at hr
  · cases rl with
    | cons r1 rr =>
      cases rr; cases r1
      split at hr
      · rename_i hb
        cases hr
        exact ⟨_, rfl, by omega, by omega, q _ jok_range⟩
      · cases hr
  · cases hr
theorem rgC_pos {i j c : Int} (h0 : 0 < c) (h1 : c < 1000000) (h2 : -1000000000 ≤ i) (h3 : i < 1000000000) (h4 : -1000000000 ≤ j) (h5 : j < 1000000000) : RgC i j c (if i < j then (j - i - 1) / c + 1 else 0).toNat := by
  have hs : Builtin.Range.rangeSize i j c = (if i < j then (j - i - 1) / c + 1 else 0) := by
    unfold Builtin.Range.rangeSize; rw [if_pos h0]
  have hnn : 0 ≤ (if i < j then (j - i - 1) / c + 1 else 0) := by
    split
    · have := Int.ediv_nonneg (a := j - i - 1) (b := c) (by omega) (by omega)
      omega
    · exact Int.le_refl _
  have hub : (if i < j then (j - i - 1) / c + 1 else 0) ≤ 2000000000 := by
    split
    · have := Int.ediv_le_self (a := j - i - 1) c (by omega)
      omega
    · omega
  refine ⟨by omega, by omega, ?_, by rw [hs]; omega⟩
  unfold Builtin.Range.small
  rw [hs]
  simp only [Builtin.Range.rangeFitsLong, Bool.and_eq_true, Bool.or_eq_true, decide_eq_true_eq, beq_iff_eq, show c > 0 from h0, if_true]
  refine ⟨⟨⟨⟨⟨by omega, by omega⟩, by omega, by omega⟩, by omega, by omega⟩, ?_, ?_⟩, .inr ⟨by omega, by omega⟩⟩ <;> omega
theorem simI_rng3 {ta : TA} {ops : List Op} (h : SimA K ta ops) : SimI K (iRng3 ta) (itRg rng3D ops) := by
  refine simI_rngs (w := fun vs H1 R => ∃ (i j c : Int) (n : Nat), vs = [.int i, .int j, .int c] ∧ RgC i j c n ∧ R (Itc i c n) H1) h fun G H vs ds xs R rl hr q => ?_
  unfold rng3D at hr
  split at hr
  · cases rl with
    | cons r1 rr =>
      cases rr with
      | cons r2 rr =>
        cases rr with
        | cons r3 rr =>
          cases rr; cases r1; cases r2; cases r3
          split at hr
          · rename_i hb
            cases hr
            obtain ⟨rfl, b1, b2, b3, b4⟩ := hb
            exact ⟨_, _, _, _, rfl, RgC.neg (by omega) (by omega) (by omega) (by omega), q _ jok_rangeC⟩
          · split at hr
            · rename_i hb
              cases hr
              obtain ⟨b0, b1, b2, b3, b4, b5⟩ := hb
              exact ⟨_, _, _, _, rfl, rgC_pos b0 b1 b2 b3 b4 b5, q _ jok_rangeC⟩
            · cases hr
  · cases hr
end
section
variable {X : Cx} {tg e e2 : Expr} {es : List Expr} {p pos tpos : Pos} {elts : List Expr} {kk : Nat}
theorem pif_seq {f : FE} (h : PEf X e f) : PIf X tg e (itSeq f) := .mk (pi_seq h) (simI_seq (simE_of f))
theorem pif_enum {f : FE} (hg : Gl X "enumerate") (hm : X.mg "enumerate" = none) (h : PEf X e f) (hs : starEach [e] X.env = [(false, eval e X.env)] := by rfl) : PIf X (.Tuple elts kk tpos) (.Call (.Name "enumerate" p) [e] [] pos) (itEnum f) := .mk (pi_enumA hg hm h hs) (simI_enum (simE_of f))
theorem pif_rng1 {o : Op} {a : Expr} (hg : Gl X "range") (hm : X.mg "range" = none) (ha : PAf X [a] [o]) (hs : starEach [a] X.env = [(false, eval a X.env)] := by rfl) : PIf X tg (.Call (.Name "range" p) [a] [] pos) (itRg rng1D [o]) := .mk (pi_range1 hg hm ha hs) (simI_rng1 (simA_of _))
theorem pif_rng3 {a b c : Expr} {ops : List Op} (hg : Gl X "range") (hm : X.mg "range" = none) (ha : PAf X [a, b, c] ops) (hs : starEach [a, b, c] X.env = (false, eval a X.env) :: starEach [b, c] X.env := by rfl) (hpl : (backTo pos (starEach [b, c] X.env)).any (·.1) = false := by rfl) : PIf X tg (.Call (.Name "range" p) [a, b, c] [] pos) (itRg rng3D ops) := .mk (pi_range3 hg hm ha hs hpl) (simI_rng3 (simA_of _))
end
end VS
set_option Elab.async false
set_option linter.all false
set_option maxRecDepth 100000
namespace VS
open PySem PySem.Spec PyProof.Rows L2
/-! ### values by cases -/
section
variable {K : PySem.W.Frag} {G H G' H' : Hp}
theorem Rep.lstInv {v : V} {o : Bool} {xs : List D} {L : List Addr} (h : Rep K G H v (.lst o xs) L) (s : Same G H) : ∃ a vs M, v = .ref a ∧ H a = some (.lst vs) ∧ Reps K G H vs xs M ∧ ∀ x ∈ M, x ∈ L := by
  cases h with
  | lstS hs hr e => exact ⟨_, _, _, rfl, s _ _ hs, hr, fun x h => h⟩
  | lstO hg hh hn hr => exact ⟨_, _, _, rfl, hh, hr, fun x h => List.mem_cons_of_mem _ h⟩
theorem Rep.tupInv {v : V} {xs : List D} {L : List Addr} (h : Rep K G H v (.tup xs) L) (s : Same G H) : ∃ a vs, v = .ref a ∧ SqT K H a vs ∧ Reps K G H vs xs L := by
  cases h with
  | tup hs hr => exact ⟨_, _, rfl, Same.seqT s hs, hr⟩
theorem Reps.to0 {vs : List V} {xs : List D} {L : List Addr} (h : Reps K G H vs xs L) (n : noOwns xs = true) : Reps K G H vs xs [] := by
  have := h.noL n
  subst this
  exact h
theorem Reps.cons0 {v : V} {d : D} {vs : List V} {ds : List D} (h : Rep K G H v d []) (r : Reps K G H vs ds []) : Reps K G H (v :: vs) (d :: ds) [] := Reps.cons h r fun a z => nomatch z
theorem Reps.uncons {v : V} {d : D} {vs : List V} {ds : List D} {L : List Addr} (h : Reps K G H (v :: vs) (d :: ds) L) (e : L = []) : Rep K G H v d [] ∧ Reps K G H vs ds [] := by
  cases h with
  | cons h r n =>
    obtain ⟨e1, e2⟩ := List.append_eq_nil_iff.mp e
    subst e1; subst e2
    exact ⟨h, r⟩
theorem Reps.append0 : ∀ {vs us : List V} {xs ys : List D}, Reps K G H vs xs [] → Reps K G H us ys [] → Reps K G H (vs ++ us) (xs ++ ys) []
  | [], us, xs, ys, h, r => by cases h; exact r
  | v :: vs, us, [], ys, h, r => by cases h
  | v :: vs, us, x :: xs, ys, h, r => by
    obtain ⟨h1, h2⟩ := h.uncons rfl
    exact Reps.cons0 h1 (h2.append0 r)
theorem Reps.take0 : ∀ {vs : List V} {xs : List D} (n : Nat), Reps K G H vs xs [] → Reps K G H (vs.take n) (xs.take n) []
  | vs, xs, 0, h => .nil
  | [], xs, n + 1, h => by cases h; exact .nil
  | v :: vs, [], n + 1, h => by cases h
  | v :: vs, x :: xs, n + 1, h => by
    obtain ⟨h1, h2⟩ := h.uncons rfl
    exact Reps.cons0 h1 (h2.take0 n)
theorem Reps.drop0 : ∀ {vs : List V} {xs : List D} (n : Nat), Reps K G H vs xs [] → Reps K G H (vs.drop n) (xs.drop n) []
  | vs, xs, 0, h => h
  | [], xs, n + 1, h => by cases h; exact .nil
  | v :: vs, [], n + 1, h => by cases h
  | v :: vs, x :: xs, n + 1, h => (h.uncons rfl).2.drop0 n
theorem Reps.reverse0 : ∀ {vs : List V} {xs : List D}, Reps K G H vs xs [] → Reps K G H vs.reverse xs.reverse []
  | [], xs, h => by cases h; exact .nil
  | v :: vs, [], h => by cases h
  | v :: vs, x :: xs, h => by
    obtain ⟨h1, h2⟩ := h.uncons rfl
    rw [List.reverse_cons, List.reverse_cons]
    exact h2.reverse0.append0 (Reps.cons0 h1 .nil)
theorem Reps.rep0 {vs : List V} {xs : List D} (h : Reps K G H vs xs []) : ∀ n : Nat, Reps K G H (List.replicate n vs).flatten (List.replicate n xs).flatten []
  | 0 => .nil
  | n + 1 => by
    rw [List.replicate_succ, List.replicate_succ, List.flatten_cons, List.flatten_cons]
    exact h.append0 (h.rep0 n)
theorem Reps.get1 {vs : List V} {xs : List D} {L : List Addr} {i : Nat} {d : D} (h : Reps K G H vs xs L) (e : xs[i]? = some d) (n : noOwn d = true) : ∃ v, vs[i]? = some v ∧ Rep K G H v d [] := by
  have hl := h.length
  have hi : i < vs.length := by rw [hl]; exact (List.getElem?_eq_some_iff.mp e).1
  obtain ⟨M, q, _⟩ := h.get0 (List.getElem?_eq_getElem hi) e
  have := q.noL n
  subst this
  exact ⟨_, List.getElem?_eq_getElem hi, q⟩
/-- a new list, a new tuple, as what an operation leaves -/
theorem new_lst {p : Addr} {vs : List V} {xs : List D} (s : Same G H) (hp : H p = none) (r : Reps K G H vs xs []) : Tr G H (fun _ => False) G (upd H p (.lst vs)) (fun a => a ∈ [p]) ∧ Rep K G (upd H p (.lst vs)) (.ref p) (.lst true xs) [p] := by
  have t := Tr.newO (A := fun _ => False) (o := .lst vs) s hp
  refine ⟨t.post fun a h => .inr (by simpa using h), .lstO (s.free hp) upd_same List.not_mem_nil (r.far (Same.refl _))⟩
theorem new_tup {p : Addr} {vs : List V} {xs : List D} (s : Same G H) (hp : H p = none) (r : Reps K G H vs xs []) : ∃ G', Tr G H (fun _ => False) G' (upd H p (.tup vs)) (fun a => a ∈ ([] : List Addr)) ∧ Rep K G' (upd H p (.tup vs)) (.ref p) (.tup xs) [] := by
  have t := Tr.newG (A := fun _ => False) (o := .tup vs) s hp
  exact ⟨_, t.post fun a h => (by cases h), .tup (.inl (.inl upd_same)) (r.far t.g)⟩
theorem fin0 {v : V} {d : D} {Q : VK} (s : Same G H) (r : Rep K G H v d []) (q : ∀ v G' H' L, Tr G H (fun _ => False) G' H' (fun a => a ∈ L) → Rep K G' H' v d L → Q v H') : Q v H := q v G H [] ((Tr.refl s).post fun a h => (by cases h)) r
theorem RepL.one {vs : List V} {d : D} (h : RepL K G H vs [d]) : ∃ v L, vs = [v] ∧ Rep K G H v d L := by
  cases h with
  | cons h r => cases r; exact ⟨_, _, rfl, h⟩
theorem RepL.two {vs : List V} {d e : D} (h : RepL K G H vs [d, e]) : ∃ v u L M, vs = [v, u] ∧ Rep K G H v d L ∧ Rep K G H u e M := by
  cases h with
  | cons h r =>
    obtain ⟨u, M, rfl, h2⟩ := r.one
    exact ⟨_, _, _, _, rfl, h, h2⟩
end
/-! ### + -/
section
variable {X : Cx}
def rAddA (K : PySem.W.Frag) : R2 := fun x y H Q => rI0 (fun i j => .int (i + j)) x y H Q ∨ ((∃ i j, x = .str i ∧ y = .str j ∧ i.length + j.length ≤ sizeLine ∧ Q (.str (i ++ j)) H) ∨ (rCat x y H Q ∨ rCatA K x y H Q))
theorem op_addA : OpR X (binaryOp .Add) (rAddA X.K) := op_add.or (op_add_str.or (op_cat.or op_catA))
end
def addD : List D → Option D
  | [.int a, .int b] => some (.int (a + b))
  | [.str a, .str b] => if a.length + b.length ≤ smallL then some (.str (a ++ b)) else none
  | [.lst _ xs, .lst _ ys] => if noOwns xs = true ∧ noOwns ys = true ∧ xs.length + ys.length ≤ smallL then some (.lst true (xs ++ ys)) else none
  | [.tup xs, .tup ys] => if noOwns xs = true ∧ noOwns ys = true ∧ xs.length + ys.length ≤ smallL then some (.tup (xs ++ ys)) else none
  | _ => none
section
variable {K : PySem.W.Frag}
theorem vok_add : VOk K (r2L (rAddA K)) addD := by
  intro G H vs ds d s rl e Q q
  unfold addD at e
  split at e
  · obtain ⟨v, u, L, M, rfl, r1, r2⟩ := rl.two
    cases e; cases r1; cases r2
    exact .inl ⟨_, _, rfl, rfl, fin0 s (.int _) q⟩
  · obtain ⟨v, u, L, M, rfl, r1, r2⟩ := rl.two
    split at e
    · rename_i hz
      cases e; cases r1; cases r2
      exact .inr (.inl ⟨_, _, rfl, rfl, small_line hz, fin0 s (.str _) q⟩)
    · cases e
  · obtain ⟨v, u, L, M, rfl, r1, r2⟩ := rl.two
    split at e
    · rename_i hz
      cases e
      obtain ⟨a, vs, L1, rfl, h1, h2, _⟩ := r1.lstInv s
      obtain ⟨b, us, L2, rfl, h3, h4, _⟩ := r2.lstInv s
      refine .inr (.inr (.inl ⟨a, b, vs, us, rfl, rfl, h1, h3, by rw [h2.length, h4.length]; exact small_line hz.2.2, fun p hp => ?_⟩))
      obtain ⟨t, r⟩ := new_lst s hp ((h2.to0 hz.1).append0 (h4.to0 hz.2.1))
      exact q _ _ _ _ t r
    · cases e
  · obtain ⟨v, u, L, M, rfl, r1, r2⟩ := rl.two
    split at e
    · rename_i hz
      cases e
      obtain ⟨a, vs, rfl, h1, h2⟩ := r1.tupInv s
      obtain ⟨b, us, rfl, h3, h4⟩ := r2.tupInv s
      have q2 := h2.to0 hz.1
      have q4 := h4.to0 hz.2.1
      have e1 : L = [] := h2.noL hz.1
      have e2 : M = [] := h4.noL hz.2.1
      subst e1; subst e2
      refine .inr (.inr (.inr ⟨a, b, vs, us, rfl, rfl, h1, h3, by rw [h2.length, h4.length]; exact small_line hz.2.2, fun ez => ?_, fun _ ez => ?_, fun _ _ p hp => ?_⟩))
      · subst ez
        have := q2.length
        have : ‹List D› = ‹List D› := rfl
        cases q2
        exact fin0 s r2 q
      · subst ez
        cases q4
        rw [List.append_nil] at q
        exact fin0 s r1 q
      · obtain ⟨G', t, r⟩ := new_tup s hp (q2.append0 q4)
        exact q _ _ _ _ t r
    · cases e
  · cases e
/-! ### the other operators of ints -/
def subD : List D → Option D
  | [.int a, .int b] => some (.int (a - b))
  | _ => none
theorem vok_sub : VOk K (r2L (rI0 fun i j => .int (i - j))) subD := by
  intro G H vs ds d s rl e Q q
  unfold subD at e
  split at e
  · obtain ⟨v, u, L, M, rfl, r1, r2⟩ := rl.two
    cases e; cases r1; cases r2
    exact ⟨_, _, rfl, rfl, fin0 s (.int _) q⟩
  · cases e
def mulOk (i j : Int) : Bool := decide (-18446744073709551616 < i ∧ i < 18446744073709551616) || decide (-18446744073709551616 < j ∧ j < 18446744073709551616) || decide (i.natAbs.log2 + j.natAbs.log2 < 1000000)
theorem mulOk_ok {i j : Int} (h : mulOk i j = true) : IntMulOk i j := by
  unfold mulOk at h
  simp only [Bool.or_eq_true, decide_eq_true_eq] at h
  rcases h with (h | h) | h
  · exact CMul.ok (.inl (by omega))
  · exact CMul.ok (.inr (by omega))
  · exact CMulW.ok h
def rMulI : R2 := rI (fun i j => mulOk i j = true) (fun i j => .int (i * j))
def rMulA (K : PySem.W.Frag) : R2 := fun x y H Q => rMulI x y H Q ∨ (rRep x y H Q ∨ rRepT K x y H Q)
section
variable {X : Cx}
theorem op_mulI : OpR X (binaryOp .Mult) rMulI := opI fun _ _ _ _ _ _ _ hc q => mul_int q (mulOk_ok hc)
theorem op_mulA : OpR X (binaryOp .Mult) (rMulA X.K) := op_mulI.or (op_rep.or op_repT)
end
def mulD : List D → Option D
  | [.int a, .int b] => if mulOk a b = true then some (.int (a * b)) else none
  | [.lst _ xs, .int k] => if noOwns xs = true ∧ -1000000 ≤ k ∧ k ≤ 1000000 ∧ xs.length * k.toNat ≤ smallL then some (.lst true (List.replicate k.toNat xs).flatten) else none
  | _ => none
theorem vok_mul : VOk K (r2L (rMulA K)) mulD := by
  intro G H vs ds d s rl e Q q
  unfold mulD at e
  split at e
  · obtain ⟨v, u, L, M, rfl, r1, r2⟩ := rl.two
    split at e
    · rename_i hz
      cases e; cases r1; cases r2
      exact .inl ⟨_, _, rfl, rfl, hz, fin0 s (.int _) q⟩
    · cases e
  · obtain ⟨v, u, L, M, rfl, r1, r2⟩ := rl.two
    split at e
    · rename_i hz
      cases e; cases r2
      obtain ⟨a, vs, L1, rfl, h1, h2, _⟩ := r1.lstInv s
      obtain ⟨z1, z2, z3, z4⟩ := hz
      refine .inr (.inl ⟨a, _, vs, rfl, rfl, h1, by omega, by omega, by rw [h2.length]; exact small_line z4, fun p hp => ?_⟩)
      obtain ⟨t, r⟩ := new_lst s hp ((h2.to0 z1).rep0 _)
      exact q _ _ _ _ t r
    · cases e
  · cases e
def fdivOk (j : Int) : Bool := decide (j ≠ 0 ∧ j.natAbs < 1073741824) || decide (0 < j ∧ j.natAbs.log2 < 9000)
def rFdiv : R2 := rI (fun _ j => fdivOk j = true) fun i j => .int (i.fdiv j)
theorem op_fdivA {X : Cx} : OpR X (binaryOp .FloorDiv) rFdiv := opI fun i j _ _ _ _ _ hc q => by
  unfold fdivOk at hc
  simp only [Bool.or_eq_true, decide_eq_true_eq] at hc
  rcases hc with h | h
  · exact floordiv_int h.1 q (.inl (PyProof.noPylong_small h.2))
  · exact floordiv_int (by omega) q (.inl (PyProof.noPylong_of_log2 h.2))
def fdivD : List D → Option D
  | [.int a, .int b] => if fdivOk b = true then some (.int (a.fdiv b)) else none
  | _ => none
theorem vok_fdiv : VOk K (r2L rFdiv) fdivD := by
  intro G H vs ds d s rl e Q q
  unfold fdivD at e
  split at e
  · obtain ⟨v, u, L, M, rfl, r1, r2⟩ := rl.two
    split at e
    · rename_i hz
      cases e; cases r1; cases r2
      exact ⟨_, _, rfl, rfl, hz, fin0 s (.int _) q⟩
    · cases e
  · cases e
def modD : List D → Option D
  | [.int a, .int b] => if b ≠ 0 then some (.int (a.fmod b)) else none
  | _ => none
theorem vok_mod : VOk K (r2L (rI (fun _ j => j ≠ 0) fun i j => .int (i.fmod j))) modD := by
  intro G H vs ds d s rl e Q q
  unfold modD at e
  split at e
  · obtain ⟨v, u, L, M, rfl, r1, r2⟩ := rl.two
    split at e
    · rename_i hz
      cases e; cases r1; cases r2
      exact ⟨_, _, rfl, rfl, hz, fin0 s (.int _) q⟩
    · cases e
  · cases e
def powOk (a n : Int) : Bool := decide (0 ≤ n) && decide ((Builtin.Int.intBits a : Int) * n ≤ 134217728)
def rPow : R2 := rI (fun i j => powOk i j = true) fun i j => .int (i ^ j.toNat)
theorem op_powA {X : Cx} : OpR X (binaryOp .Pow) rPow := opI fun i j _ _ _ _ _ hc q => by
  unfold powOk at hc
  simp only [Bool.and_eq_true, decide_eq_true_eq] at hc
  exact pow_int hc.1 (by have := hc.2; omega) q
def powD : List D → Option D
  | [.int a, .int b] => if powOk a b = true then some (.int (a ^ b.toNat)) else none
  | _ => none
theorem vok_pow : VOk K (r2L rPow) powD := by
  intro G H vs ds d s rl e Q q
  unfold powD at e
  split at e
  · obtain ⟨v, u, L, M, rfl, r1, r2⟩ := rl.two
    split at e
    · rename_i hz
      cases e; cases r1; cases r2
      exact ⟨_, _, rfl, rfl, hz, fin0 s (.int _) q⟩
    · cases e
  · cases e
def negD : List D → Option D
  | [.int a] => some (.int (-a))
  | _ => none
theorem vok_neg : VOk K (r1L (rU fun i => .int (-i))) negD := by
  intro G H vs ds d s rl e Q q
  unfold negD at e
  split at e
  · obtain ⟨v, L, rfl, r1⟩ := rl.one
    cases e; cases r1
    exact ⟨_, rfl, fin0 s (.int _) q⟩
  · cases e
end
end VS
set_option Elab.async false
set_option linter.all false
set_option maxRecDepth 100000
namespace VS
open PySem PySem.Spec PyProof.Rows L2
/-! ### == and its like -/
mutual
def pyD : D → PyData
  | .non => .none
  | .bl b => .bool b
  | .int i => .int i
  | .str s => .str s
  | .tup xs => .tuple (pyDs xs)
  | .lst _ xs => .list (pyDs xs)
  | .scr ns => .list (ns.map .int)
  | .ty _ => .none
  | .exc _ _ => .none
  | .dct _ _ => .none
def pyDs : List D → List PyData
  | [] => []
  | x :: r => pyD x :: pyDs r
end
mutual
def noTy : D → Bool
  | .ty _ => false
  | .exc _ _ => false
  | .dct _ _ => false
  | .tup xs => noTys xs
  | .lst _ xs => noTys xs
  | _ => true
def noTys : List D → Bool
  | [] => true
  | x :: r => noTy x && noTys r
end
def eqOk (d : D) : Bool := noTy d && SeqAt.shaped (pyD d)
section
variable {K : PySem.W.Frag} {G H : Hp}
theorem dpAll_ints : ∀ ns : List Int, DpAll K H (ns.map V.int) (ns.map PyData.int)
  | [] => .nil
  | n :: ns => .cons (.int n) (dpAll_ints ns)
mutual
theorem Rep.dp {v : V} {d : D} {L : List Addr} (s : Same G H) (r : Rep K G H v d L) (h : noTy d = true) : Dp K H v (pyD d) := by
  cases r with
  | non => exact .non
  | bl b => exact .bl b
  | int i => exact .int i
  | str x => exact .str x
  | ty n => cases h
  | exc _ _ _ _ => cases h
  | dctS _ => cases h
  | dctO _ _ => cases h
  | scr q => exact .lst (Same.seq s q) (dpAll_ints _)
  | tup q r => exact .tup (Same.seqT s q) (Reps.dp s r h)
  | lstS q r e => exact .lst (SqL.of (s _ _ q)) (Reps.dp s r h)
  | lstO _ q _ r => exact .lst (SqL.of q) (Reps.dp s r h)
theorem Reps.dp {vs : List V} {ds : List D} {L : List Addr} (s : Same G H) (r : Reps K G H vs ds L) (h : noTys ds = true) : DpAll K H vs (pyDs ds) := by
  cases r with
  | nil => exact .nil
  | cons q r n =>
    simp only [noTys, Bool.and_eq_true] at h
    exact .cons (Rep.dp s q h.1) (Reps.dp s r h.2)
end
end
def deq (x y : D) : Bool := PyData.eqv (pyD x) (pyD y)
def eqD : List D → Option D
  | [x, y] => if eqOk x = true ∧ eqOk y = true then some (.bl (deq x y)) else none
  | _ => none
def neD : List D → Option D
  | [x, y] => if eqOk x = true ∧ eqOk y = true then some (.bl (!deq x y)) else none
  | _ => none
theorem eqOk_split {d : D} (h : eqOk d = true) : noTy d = true ∧ SeqAt.shaped (pyD d) = true := by
  unfold eqOk at h
  exact Bool.and_eq_true_iff.mp h
section
variable {K : PySem.W.Frag}
theorem vok_eq : VOk K (r2L (rEqD K)) eqD := by
  intro G H vs ds d s rl e Q q
  unfold eqD at e
  split at e
  · obtain ⟨v, u, L, M, rfl, r1, r2⟩ := rl.two
    split at e
    · rename_i hz
      cases e
      obtain ⟨a1, a2⟩ := eqOk_split hz.1
      obtain ⟨b1, b2⟩ := eqOk_split hz.2
      exact ⟨_, _, r1.dp s a1, r2.dp s b1, a2, b2, fin0 s (.bl _) q⟩
    · cases e
  · cases e
theorem vok_ne : VOk K (r2L (rNeD K)) neD := by
  intro G H vs ds d s rl e Q q
  unfold neD at e
  split at e
  · obtain ⟨v, u, L, M, rfl, r1, r2⟩ := rl.two
    split at e
    · rename_i hz
      cases e
      obtain ⟨a1, a2⟩ := eqOk_split hz.1
      obtain ⟨b1, b2⟩ := eqOk_split hz.2
      exact ⟨_, _, r1.dp s a1, r2.dp s b1, a2, b2, fin0 s (.bl _) q⟩
    · cases e
  · cases e
/-! order of ints -/
def cmpD (p : Int → Int → Bool) : List D → Option D
  | [.int a, .int b] => some (.bl (p a b))
  | _ => none
theorem vok_cmp {p : Int → Int → Bool} : VOk K (r2L (rI0 fun i j => .bl (p i j))) (cmpD p) := by
  intro G H vs ds d s rl e Q q
  unfold cmpD at e
  split at e
  · obtain ⟨v, u, L, M, rfl, r1, r2⟩ := rl.two
    cases e; cases r1; cases r2
    exact ⟨_, _, rfl, rfl, fin0 s (.bl _) q⟩
  · cases e
def ltD := cmpD fun i j => decide (i < j)
def leD := cmpD fun i j => decide (i ≤ j)
def gtD := cmpD fun i j => decide (j < i)
def geD := cmpD fun i j => decide (j ≤ i)
theorem vok_lt : VOk K (r2L (rI0 fun i j => .bl (decide (i < j)))) ltD := vok_cmp
theorem vok_le : VOk K (r2L (rI0 fun i j => .bl (decide (i ≤ j)))) leD := vok_cmp
theorem vok_gt : VOk K (r2L (rI0 fun i j => .bl (decide (j < i)))) gtD := vok_cmp
theorem vok_ge : VOk K (r2L (rI0 fun i j => .bl (decide (j ≤ i)))) geD := vok_cmp
/-! is None; is of bools, of a bool and something else -/
def isNon : D → Bool
  | .non => true
  | _ => false
def isNonD : List D → Option D
  | [x, .non] => some (.bl (isNon x))
  | _ => none
def notNonD : List D → Option D
  | [x, .non] => some (.bl (!isNon x))
  | _ => none
theorem Rep.isNon {G H : Hp} {v : V} {d : D} {L : List Addr} (r : Rep K G H v d L) : decide (v = .non) = VS.isNon d := by
  cases r <;> rfl
theorem vok_isNon : VOk K (r2L (fun x y H Q => y = .non ∧ Q (.bl (decide (x = .non))) H)) isNonD := by
  intro G H vs ds d s rl e Q q
  unfold isNonD at e
  split at e
  · obtain ⟨v, u, L, M, rfl, r1, r2⟩ := rl.two
    cases e; cases r2
    refine ⟨rfl, ?_⟩
    rw [r1.isNon]
    exact fin0 s (.bl _) q
  · cases e
/-! x[i] -/
def ixD : List D → Option D
  | [.lst _ xs, .int i] => (atI xs i).bind fun d => if noOwn d = true then some d else none
  | [.tup xs, .int i] => (atI xs i).bind fun d => if noOwn d = true then some d else none
  | [.scr ns, .int i] => (atI ns i).bind fun d => some (.int d)
  | [.str z, .int i] => if z.length ≤ smallL then (atI z.cps.toList i).bind fun c => some (.str ⟨#[c]⟩) else none
  | _ => none
theorem atI_len {α β : Type} {xs : List α} {ys : List β} (h : xs.length = ys.length) {i : Int} {y : β} (e : atI ys i = some y) : ∃ j, ixN xs.length i = some j ∧ ys[j]? = some y := by
  unfold atI at e
  rw [← h] at e
  cases hj : ixN xs.length i with
  | none => rw [hj] at e; cases e
  | some j => rw [hj] at e; exact ⟨j, rfl, e⟩
theorem atI_of {α : Type} {xs : List α} {i : Int} {j : Nat} {x : α} (h : ixN xs.length i = some j) (e : xs[j]? = some x) : atI xs i = some x := by
  unfold atI
  rw [h]
  exact e
theorem vok_ix : VOk K (r2L (rIx K)) ixD := by
  intro G H vs ds d s rl e Q q
  unfold ixD at e
  split at e
  · obtain ⟨v, u, L, M, rfl, r1, r2⟩ := rl.two
    rename_i xs i
    cases hx : atI xs i with
    | none => rw [hx] at e; cases e
    | some d0 =>
      rw [hx] at e
      have e1 : (if noOwn d0 = true then some d0 else none) = some d := e
      split at e1
      · rename_i hn
        cases e1; cases r2
        obtain ⟨a, vs, L1, rfl, h1, h2, _⟩ := r1.lstInv s
        obtain ⟨j, hj, hd⟩ := atI_len h2.length hx
        obtain ⟨w, hw, hr⟩ := h2.get1 hd hn
        exact .inl ⟨a, vs, _, w, rfl, rfl, SqL.of h1, atI_of hj hw, fin0 s hr q⟩
      · cases e1
  · obtain ⟨v, u, L, M, rfl, r1, r2⟩ := rl.two
    rename_i xs i
    cases hx : atI xs i with
    | none => rw [hx] at e; cases e
    | some d0 =>
      rw [hx] at e
      have e1 : (if noOwn d0 = true then some d0 else none) = some d := e
      split at e1
      · rename_i hn
        cases e1; cases r2
        obtain ⟨a, vs, rfl, h1, h2⟩ := r1.tupInv s
        obtain ⟨j, hj, hd⟩ := atI_len h2.length hx
        obtain ⟨w, hw, hr⟩ := h2.get1 hd hn
        exact .inr (.inl ⟨a, vs, _, w, rfl, rfl, h1, atI_of hj hw, fin0 s hr q⟩)
      · cases e1
  · obtain ⟨v, u, L, M, rfl, r1, r2⟩ := rl.two
    rename_i ns i
    cases hx : atI ns i with
    | none => rw [hx] at e; cases e
    | some d0 =>
      rw [hx] at e
      cases e; cases r2
      cases r1 with
      | scr h1 =>
        rename_i a
        obtain ⟨j, hj, hd⟩ := atI_len (xs := ns.map V.int) (by rw [List.length_map]) hx
        exact .inl ⟨a, _, _, .int d0, rfl, rfl, Same.seq s h1, atI_of hj (by rw [List.getElem?_map, hd]; rfl), fin0 s (.int _) q⟩
  · obtain ⟨v, u, L, M, rfl, r1, r2⟩ := rl.two
    rename_i z i
    split at e
    · rename_i hz
      cases hx : atI z.cps.toList i with
      | none => rw [hx] at e; cases e
      | some c =>
        rw [hx] at e
        cases e; cases r2; cases r1
        exact .inr (.inr ⟨_, _, c, rfl, rfl, small_line hz, hx, fin0 s (.str _) q⟩)
    · cases e
  · cases e
/-! len, list(), tuple() -/
def lenD : List D → Option D
  | [.lst _ xs] => some (.int (xs.length : Nat))
  | [.tup xs] => some (.int (xs.length : Nat))
  | [.scr ns] => some (.int (ns.length : Nat))
  | _ => none
theorem vok_len : VOk K (fun xs H Q => ∃ p ys, xs = [.ref p] ∧ (SqL K H p ys ∨ SqT K H p ys) ∧ Q (.int ys.length) H) lenD := by
  intro G H vs ds d s rl e Q q
  unfold lenD at e
  split at e
  · obtain ⟨v, L, rfl, r1⟩ := rl.one
    cases e
    obtain ⟨a, vs, L1, rfl, h1, h2, _⟩ := r1.lstInv s
    exact ⟨a, vs, rfl, .inl (SqL.of h1), by rw [h2.length]; exact fin0 s (.int _) q⟩
  · obtain ⟨v, L, rfl, r1⟩ := rl.one
    cases e
    obtain ⟨a, vs, rfl, h1, h2⟩ := r1.tupInv s
    exact ⟨a, vs, rfl, .inr h1, by rw [h2.length]; exact fin0 s (.int _) q⟩
  · obtain ⟨v, L, rfl, r1⟩ := rl.one
    cases e
    cases r1 with
    | scr h1 => exact ⟨_, _, rfl, .inl (Same.seq s h1), by rw [List.length_map]; exact fin0 s (.int _) q⟩
  · cases e
def lenStrD : List D → Option D
  | [.str z] => if z.length ≤ smallL then some (.int (z.length : Nat)) else none
  | _ => none
def listD : List D → Option D
  | [.lst _ xs] => if noOwns xs = true then some (.lst true xs) else none
  | [.tup xs] => if noOwns xs = true then some (.lst true xs) else none
  | _ => none
theorem vok_list : VOk K (fun xs H Q => ∃ p ys, xs = [.ref p] ∧ (SqL K H p ys ∨ SqT K H p ys) ∧ ∀ l, H l = none → Q (.ref l) (upd H l (.lst ys))) listD := by
  intro G H vs ds d s rl e Q q
  unfold listD at e
  split at e
  · obtain ⟨v, L, rfl, r1⟩ := rl.one
    split at e
    · rename_i hn
      cases e
      obtain ⟨a, vs, L1, rfl, h1, h2, _⟩ := r1.lstInv s
      refine ⟨a, vs, rfl, .inl (SqL.of h1), fun p hp => ?_⟩
      obtain ⟨t, r⟩ := new_lst s hp (h2.to0 hn)
      exact q _ _ _ _ t r
    · cases e
  · obtain ⟨v, L, rfl, r1⟩ := rl.one
    split at e
    · rename_i hn
      cases e
      obtain ⟨a, vs, rfl, h1, h2⟩ := r1.tupInv s
      refine ⟨a, vs, rfl, .inr h1, fun p hp => ?_⟩
      obtain ⟨t, r⟩ := new_lst s hp (h2.to0 hn)
      exact q _ _ _ _ t r
    · cases e
  · cases e
def tupleD : List D → Option D
  | [.lst _ xs] => if noOwns xs = true then some (.tup xs) else none
  | [.tup xs] => if noOwns xs = true then some (.tup xs) else none
  | _ => none
theorem vok_tuple : VOk K (fun xs H Q => ∃ p ys, xs = [.ref p] ∧ ((SqL K H p ys ∧ ∀ l, H l = none → Q (.ref l) (upd H l (.tup ys))) ∨ (SqT K H p ys ∧ Q (.ref p) H))) tupleD := by
  intro G H vs ds d s rl e Q q
  unfold tupleD at e
  split at e
  · obtain ⟨v, L, rfl, r1⟩ := rl.one
    split at e
    · rename_i hn
      cases e
      obtain ⟨a, vs, L1, rfl, h1, h2, _⟩ := r1.lstInv s
      refine ⟨a, vs, rfl, .inl ⟨SqL.of h1, fun p hp => ?_⟩⟩
      obtain ⟨G', t, r⟩ := new_tup s hp (h2.to0 hn)
      exact q _ _ _ _ t r
    · cases e
  · obtain ⟨v, L, rfl, r1⟩ := rl.one
    split at e
    · rename_i hn
      cases e
      have e0 := r1.noL (d := .tup _) hn
      subst e0
      obtain ⟨a, vs, rfl, h1, h2⟩ := r1.tupInv s
      exact ⟨a, vs, rfl, .inr ⟨h1, fin0 s r1 q⟩⟩
    · cases e
  · cases e
/-! int(), max, min, abs -/
def intD : List D → Option D
  | [.int i] => some (.int i)
  | [.bl b] => some (.int (if b then 1 else 0))
  | _ => none
theorem vok_int : VOk K (fun xs H Q => (∃ i, xs = [.int i] ∧ Q (.int i) H) ∨ ∃ k, xs = [.bl k] ∧ Q (.int (if k then 1 else 0)) H) intD := by
  intro G H vs ds d s rl e Q q
  unfold intD at e
  split at e
  · obtain ⟨v, L, rfl, r1⟩ := rl.one
    cases e; cases r1
    exact .inl ⟨_, rfl, fin0 s (.int _) q⟩
  · obtain ⟨v, L, rfl, r1⟩ := rl.one
    cases e; cases r1
    exact .inr ⟨_, rfl, fin0 s (.int _) q⟩
  · cases e
def absD : List D → Option D
  | [.int i] => some (.int (if i < 0 then -i else i))
  | _ => none
def max2D : List D → Option D
  | [.int i, .int j] => some (.int (if j > i then j else i))
  | _ => none
def min2D : List D → Option D
  | [.int i, .int j] => some (.int (if j < i then j else i))
  | _ => none
theorem vok_max2 : VOk K (fun xs H Q => ∃ i j, xs = [.int i, .int j] ∧ Q (.int (if j > i then j else i)) H) max2D := by
  intro G H vs ds d s rl e Q q
  unfold max2D at e
  split at e
  · obtain ⟨v, u, L, M, rfl, r1, r2⟩ := rl.two
    cases e; cases r1; cases r2
    exact ⟨_, _, rfl, fin0 s (.int _) q⟩
  · cases e
theorem vok_min2 : VOk K (fun xs H Q => ∃ i j, xs = [.int i, .int j] ∧ Q (.int (if j < i then j else i)) H) min2D := by
  intro G H vs ds d s rl e Q q
  unfold min2D at e
  split at e
  · obtain ⟨v, u, L, M, rfl, r1, r2⟩ := rl.two
    cases e; cases r1; cases r2
    exact ⟨_, _, rfl, fin0 s (.int _) q⟩
  · cases e
end
end VS
set_option Elab.async false
set_option linter.all false
set_option maxRecDepth 100000
namespace VS
open PySem PySem.Spec PyProof.Rows L2
/-! ### slices -/
def rSlX (K : PySem.W.Frag) : V → Option Int → Option Int → Hp → VK → Prop := fun x lo hi H Q => rSlL K x lo hi H Q ∨ rSlA K x lo hi H Q
theorem sl_x {X : Cx} : SlR X (rSlX X.K) := sl_list.or sl_tupA
def cutD (xs : List D) (lo hi : Option Int) : List D := (xs.drop (HT.sIx xs.length 0 lo)).take (HT.sIx xs.length xs.length hi - HT.sIx xs.length 0 lo)
def cutOf (lo hi : Option Int) : D → Option D
  | .lst _ xs => if noOwns xs = true then some (.lst true (cutD xs lo hi)) else none
  | .tup xs => if noOwns xs = true then some (.tup (cutD xs lo hi)) else none
  | _ => none
/-- the parts of a slice that are written, as operands -/
def partD (wl wh : Bool) : List D → Option D
  | [x] => if wl = false ∧ wh = false then cutOf none none x else none
  | [x, .int i] => if wl = true ∧ wh = false then cutOf (some i) none x else if wl = false ∧ wh = true then cutOf none (some i) x else none
  | [x, .int i, .int j] => if wl = true ∧ wh = true then cutOf (some i) (some j) x else none
  | _ => none
section
variable {K : PySem.W.Frag}
theorem cut_ok {G H : Hp} {x : V} {d d' : D} {L : List Addr} {lo hi : Option Int} {Q : VK} (s : Same G H) (r : Rep K G H x d L) (e : cutOf lo hi d = some d')
    (q : ∀ v G' H' L, Tr G H (fun _ => False) G' H' (fun a => a ∈ L) → Rep K G' H' v d' L → Q v H') : rSlX K x lo hi H Q := by
  cases d with
  | lst o xs =>
    have e' : (if noOwns xs = true then some (D.lst true (cutD xs lo hi)) else none) = some d' := e
    split at e'
    · rename_i hn
      cases e'
      obtain ⟨a, vs, L1, rfl, h1, h2, _⟩ := r.lstInv s
      refine .inl ⟨a, vs, rfl, SqL.of h1, fun p hp => ?_⟩
      have h0 := h2.to0 hn
      have h3 : Reps K G H (cutV vs lo hi) (cutD xs lo hi) [] := by
        unfold cutV cutD
        rw [h0.length]
        exact (h0.drop0 _).take0 _
      obtain ⟨t, rr⟩ := new_lst s hp h3
      exact q _ _ _ _ t rr
    · cases e'
  | tup xs =>
    have e' : (if noOwns xs = true then some (D.tup (cutD xs lo hi)) else none) = some d' := e
    split at e'
    · rename_i hn
      cases e'
      have e0 := r.noL (d := .tup xs) hn
      subst e0
      obtain ⟨a, vs, rfl, h1, h2⟩ := r.tupInv s
      have hl := h2.length
      refine .inr ⟨a, vs, rfl, h1, fun hw => ?_, fun hw p hp => ?_⟩
      · rw [hl] at hw
        have : cutD xs lo hi = xs := by
          unfold cutD
          rw [hw.1, hw.2, List.drop_zero, Nat.sub_zero, List.take_length]
        rw [this] at q
        exact fin0 s r q
      · have h3 : Reps K G H (cutV vs lo hi) (cutD xs lo hi) [] := by
          unfold cutV cutD
          rw [hl]
          exact (h2.drop0 _).take0 _
        obtain ⟨G', t, rr⟩ := new_tup s hp h3
        exact q _ _ _ _ t rr
    · cases e'
  | _ => cases e
theorem vok_slL : VOk K (fun vs H Q => match vs with | [x, y] => ∃ i, y = .int i ∧ rSlX K x (some i) none H Q | _ => False) (partD true false) := by
  intro G H vs ds d s rl e Q q
  unfold partD at e
  split at e
  · rw [if_neg (by simp)] at e; cases e
  · obtain ⟨v, u, L, M, rfl, r1, r2⟩ := rl.two
    rw [if_pos ⟨rfl, rfl⟩] at e
    cases r2
    exact ⟨_, rfl, cut_ok s r1 e q⟩
  · rw [if_neg (by simp)] at e; cases e
  · cases e
theorem vok_slH : VOk K (fun vs H Q => match vs with | [x, y] => ∃ i, y = .int i ∧ rSlX K x none (some i) H Q | _ => False) (partD false true) := by
  intro G H vs ds d s rl e Q q
  unfold partD at e
  split at e
  · rw [if_neg (by simp)] at e; cases e
  · obtain ⟨v, u, L, M, rfl, r1, r2⟩ := rl.two
    rw [if_neg (by simp), if_pos ⟨rfl, rfl⟩] at e
    cases r2
    exact ⟨_, rfl, cut_ok s r1 e q⟩
  · rw [if_neg (by simp)] at e; cases e
  · cases e
theorem vok_slB : VOk K (fun vs H Q => match vs with | [x, y, z] => ∃ i j, y = .int i ∧ z = .int j ∧ rSlX K x (some i) (some j) H Q | _ => False) (partD true true) := by
  intro G H vs ds d s rl e Q q
  unfold partD at e
  split at e
  · rw [if_neg (by simp)] at e; cases e
  · rw [if_neg (by simp), if_neg (by simp)] at e; cases e
  · rw [if_pos ⟨rfl, rfl⟩] at e
    cases rl with
    | cons r1 rl =>
      obtain ⟨v, u, L, M, rfl, r2, r3⟩ := rl.two
      cases r2; cases r3
      exact ⟨_, _, rfl, rfl, cut_ok s r1 e q⟩
  · cases e
end
section
variable {X : Cx} {e a b : Expr} {p2 pos : Pos}
theorem pf_slL {o oa : Op} (h : POf X e o) (ha : POf X a oa) : PEf X (.Subscript e (.Slice (some a) none none p2) pos) (opF (partD true false) [o, oa]) := by
  obtain ⟨te, p1, s1⟩ := h.ex
  obtain ⟨ta, p3, s3⟩ := ha.ex
  exact .mk (pe_slice sl_x p1 (po_some p3) po_none) (simE_op (simA_cons s1 (simA_cons s3 simA_nil)) vok_slL)
theorem pf_slH {o oa : Op} (h : POf X e o) (ha : POf X a oa) : PEf X (.Subscript e (.Slice none (some a) none p2) pos) (opF (partD false true) [o, oa]) := by
  obtain ⟨te, p1, s1⟩ := h.ex
  obtain ⟨ta, p3, s3⟩ := ha.ex
  exact .mk (pe_slice sl_x p1 po_none (po_some p3)) (simE_op (simA_cons s1 (simA_cons s3 simA_nil)) vok_slH)
theorem simE_eta {K : PySem.W.Frag} {t u : TE} {f : FE} (h : SimE K t f) (e : ∀ σ H Q, t σ H Q → u σ H Q) : SimE K u f := fun ρ d ρ' ee σ G H F r Q q => e σ H Q (h ρ d ρ' ee σ G H F r Q q)
end
/-! ### list(range(..)) -/
def rRg : List V → Hp → VK → Prop := fun vs H Q => ∃ (i j c : Int) (n : Nat), (vs = [.int j] ∧ i = 0 ∧ c = 1 ∨ vs = [.int i, .int j] ∧ c = 1 ∨ vs = [.int i, .int j, .int c]) ∧ RgC i j c n ∧ n ≤ 2 ^ 24 ∧ ∀ q, H q = none → Q (.ref q) (upd H q (.lst ((List.range n).map fun k => V.int (i + (k : Nat) * c))))
theorem vals_rgC {a c : Int} {n : Nat} {acc : Array Value} (h : ItemsOf (fun i v => ∃ t, v = .int (a + i * c) t) acc n) : Vals ((List.range n).map fun k => V.int (a + (k : Nat) * c)) acc.toList := by
  have e : acc.toList.length = n := by rw [Array.length_toList]; exact h.1
  rw [← e]
  refine vals_of_get acc.toList _ fun j u hj => ?_
  obtain ⟨t, rfl⟩ := h.2 j u (by rw [← hj, Array.getElem?_toList])
  exact ⟨t, rfl⟩
section
variable {X : Cx} {a b c : Expr} {ta : TA} {p p2 pos pos2 : Pos}
/-- range(..), then list of it -/
theorem list_of_rg {pins : List (Addr × Obj)} {σ : L2.St} {H1 : Hp} {s1 : Shared} {Q : VK} {i j k : Int} {n : Nat} {t u v : Tok} {tk : Nat} (hc : X.calm = true) (I1 : Inv X pins σ H1 s1) (h : RgC i j k n) (hn : n ≤ 2 ^ 24)
    (q : ∀ q, H1 q = none → Q (.ref q) (upd H1 q (.lst ((List.range n).map fun m => V.int (i + (m : Nat) * k))))) :
    wpAny (model X.prog X.w) X.A (call (.type "list") [.ref s1.heap.objs.size]) (EP X pins σ Q) X.xe { s1 with heap := s1.heap.push { cls := .type "range", data := .fields #[.int i t, .int j u, .int k v] }, toks := tk } := by
  obtain ⟨c0, c1, c2, c3⟩ := h
  have I2 : Inv X pins σ H1 { s1 with heap := s1.heap.push { cls := .type "range", data := .fields #[.int i t, .int j u, .int k v] }, toks := tk } := I1.kept (t' := tk) fun b o e => Heap.get?_push_of_some _ e
  refine call_list_range (n := n) (I2.ok.hd hc) (IsRange.new _ _ _ _ _ _ _) c2 c3 hn fun h' tk' acc c' hk e' hi => ?_
  refine ⟨.ref _, upd H1 _ (.lst ((List.range n).map fun m => V.int (i + (m : Nat) * k))), I2.laid hk (Nat.le_refl _) (show ObjOk X.prog X.w _ _ _ (.lst _) from ⟨?_, acc.toList, c', vals_rgC hi, ?_⟩), rfl, q _ (I2.hok.fresh (Nat.le_refl _))⟩
  · rw [List.length_map, List.length_range, sizeLine_eq]; omega
  · rw [Array.toArray_toList]; exact e'
theorem pe_lrg1 (hc : X.calm = true) (hgl : Gl X "list") (hml : X.mg "list" = none) (hg : Gl X "range") (hm : X.mg "range" = none) (ha : PA X [a] ta) (hs : starEach [a] X.env = [(false, eval a X.env)] := by rfl)
    (hs2 : starEach [Expr.Call (.Name "range" p) [a] [] pos] X.env = [(false, eval (Expr.Call (.Name "range" p) [a] [] pos) X.env)] := by rfl) :
    PE X (.Call (.Name "list" p2) [.Call (.Name "range" p) [a] [] pos] [] pos2) (fun σ H Q => ta σ H fun vs H1 => vs.length = 1 ∧ rRg vs H1 Q) := by
  refine ⟨fun pins s σ H Q I h => ?_⟩
  refine Call_ (ld_blt I hgl hml boot_list (PyProof.Rows.callWith_type1 (args_cons ?_ hs2) hs2))
  refine Call_ (ld_blt I hg hm boot_range (PyProof.Rows.callWith_type1 (thn (ha.run pos pins s σ H _ I h) fun us s1 ⟨vs, H1, I1, r1, q1⟩ => ?_) hs rfl))
  obtain ⟨hl, i, j, k, n, hv, hr, hn, q⟩ := q1
  rcases hv with ⟨e, rfl, rfl⟩ | ⟨e, _⟩ | e
  · subst e
    cases r1 with
    | cons r rr =>
      cases rr
      obtain ⟨t, rfl⟩ := r
      exact call_range_1 (args_nil (list_of_rg hc I1 hr hn q))
  · subst e; cases hl
  · subst e; cases hl
theorem pe_lrg3 (hc : X.calm = true) (hgl : Gl X "list") (hml : X.mg "list" = none) (hg : Gl X "range") (hm : X.mg "range" = none) (ha : PA X [a, b, c] ta) (hs : starEach [a, b, c] X.env = (false, eval a X.env) :: starEach [b, c] X.env := by rfl) (hpl : (backTo pos (starEach [b, c] X.env)).any (·.1) = false := by rfl)
    (hs2 : starEach [Expr.Call (.Name "range" p) [a, b, c] [] pos] X.env = [(false, eval (Expr.Call (.Name "range" p) [a, b, c] [] pos) X.env)] := by rfl) :
    PE X (.Call (.Name "list" p2) [.Call (.Name "range" p) [a, b, c] [] pos] [] pos2) (fun σ H Q => ta σ H fun vs H1 => vs.length = 3 ∧ rRg vs H1 Q) := by
  refine ⟨fun pins s σ H Q I h => ?_⟩
  refine Call_ (ld_blt I hgl hml boot_list (PyProof.Rows.callWith_type1 (args_cons ?_ hs2) hs2))
  refine Call_ (ld_blt I hg hm boot_range (PyProof.Rows.callWith_type1 (thn (ha.run pos pins s σ H _ I h) fun us s1 ⟨vs, H1, I1, r1, q1⟩ => ?_) hs hpl))
  obtain ⟨hl, i, j, k, n, hv, hr, hn, q⟩ := q1
  rcases hv with ⟨e, rfl, rfl⟩ | ⟨e, rfl⟩ | e
  · subst e; cases hl
  · subst e; cases hl
  · subst e
    cases r1 with
    | cons r rr =>
      cases rr with
      | cons r' rr =>
        cases rr with
        | cons r'' rr =>
          cases rr
          obtain ⟨t, rfl⟩ := r
          obtain ⟨t', rfl⟩ := r'
          obtain ⟨t'', rfl⟩ := r''
          exact call_range_3 hr.1 (args_nil (list_of_rg hc I1 hr hn q)) (.inl (PyProof.noPylong_small hr.2.1))
end
def lrgD (rd : List D → Option (List D)) : List D → Option D := fun ds => (rd ds).bind fun xs => if xs.length ≤ smallL then some (.lst true xs) else none
section
variable {K : PySem.W.Frag}
theorem reps_by {G H : Hp} (lo c : Int) (n : Nat) : Reps K G H ((List.range n).map fun k => V.int (lo + (k : Nat) * c)) (intsBy lo c n) [] := by
  unfold intsBy
  have : ∀ l : List Nat, Reps K G H (l.map fun k => V.int (lo + (k : Nat) * c)) (l.map fun i => D.int (lo + (i : Nat) * c)) [] := fun l => by
    induction l with
    | nil => exact .nil
    | cons x l ih => exact Reps.cons (.int _) ih fun a z => nomatch z
  exact this _
theorem intsBy_len (lo c : Int) (n : Nat) : (intsBy lo c n).length = n := by unfold intsBy; rw [List.length_map, List.length_range]
theorem intsTo_by (lo : Int) (n : Nat) : intsTo lo n = intsBy lo 1 n := by
  unfold intsTo intsBy
  congr 1
  funext i
  rw [Int.mul_one]
theorem lrg_fin {G H : Hp} {Q : VK} {d : D} {vs : List V} {i j c : Int} {n : Nat} (s : Same G H) (hv : vs = [.int j] ∧ i = 0 ∧ c = 1 ∨ vs = [.int i, .int j] ∧ c = 1 ∨ vs = [.int i, .int j, .int c]) (hr : RgC i j c n)
    (e : (if (intsBy i c n).length ≤ smallL then some (D.lst true (intsBy i c n)) else none) = some d) (q : ∀ v G' H' L, Tr G H (fun _ => False) G' H' (fun a => a ∈ L) → Rep K G' H' v d L → Q v H') : rRg vs H Q := by
  split at e
  · rename_i hz
    cases e
    rw [intsBy_len] at hz
    refine ⟨i, j, c, n, hv, hr, Nat.le_trans hz (by decide), fun p hp => ?_⟩
    obtain ⟨t, r⟩ := new_lst s hp (reps_by (K := K) (G := G) (H := H) i c n)
    exact q _ _ _ _ t r
  · cases e
theorem rgC_one {i j : Int} (h1 : -4611686018427387904 ≤ i) (h2 : i < 4611686018427387904) (h3 : -4611686018427387904 ≤ j) (h4 : j < 4611686018427387904) : RgC i j 1 (j - i).toNat :=
  ⟨by decide, by decide, small_one (by omega) (by omega) (by omega) (by omega), rangeSize_nat i j⟩
theorem vok_lrg1 : VOk K (fun vs H Q => vs.length = 1 ∧ rRg vs H Q) (lrgD rng1D) := by
  intro G H vs ds d s rl e Q q
  unfold lrgD rng1D at e
  split at e
  · obtain ⟨v, L, rfl, r1⟩ := rl.one
    cases r1
    split at e
    · rename_i hb
      have e' : (if (intsTo 0 _).length ≤ smallL then some (D.lst true (intsTo 0 _)) else none) = some d := e
      rw [intsTo_by] at e'
      refine ⟨rfl, lrg_fin s (.inl ⟨rfl, rfl, rfl⟩) ?_ e' q⟩
      have := rgC_one (i := 0) (by omega) (by omega) hb.1 hb.2
      rw [Int.sub_zero] at this
      exact this
    · cases e
  · cases e
theorem vok_lrg3 : VOk K (fun vs H Q => vs.length = 3 ∧ rRg vs H Q) (lrgD rng3D) := by
  intro G H vs ds d s rl e Q q
  unfold lrgD rng3D at e
  split at e
  · cases rl with
    | cons r0 rl =>
      obtain ⟨v, u, L, M, rfl, r1, r2⟩ := rl.two
      cases r0; cases r1; cases r2
      split at e
      · rename_i hb
        obtain ⟨rfl, b1, b2, b3, b4⟩ := hb
        exact ⟨rfl, lrg_fin s (.inr (.inr rfl)) (RgC.neg (by omega) (by omega) (by omega) (by omega)) e q⟩
      · split at e
        · rename_i hb
          obtain ⟨b0, b1, b2, b3, b4, b5⟩ := hb
          exact ⟨rfl, lrg_fin s (.inr (.inr rfl)) (rgC_pos b0 b1 b2 b3 b4 b5) e q⟩
        · cases e
  · cases e
end
section
variable {X : Cx} {a b c : Expr} {p p2 pos pos2 : Pos} {ops : List Op}
theorem pf_lrg1 (hc : X.calm = true) (hgl : Gl X "list") (hml : X.mg "list" = none) (hg : Gl X "range") (hm : X.mg "range" = none) (ha : PAf X [a] ops) (hs : starEach [a] X.env = [(false, eval a X.env)] := by rfl)
    (hs2 : starEach [Expr.Call (.Name "range" p) [a] [] pos] X.env = [(false, eval (Expr.Call (.Name "range" p) [a] [] pos) X.env)] := by rfl) : PEf X (.Call (.Name "list" p2) [.Call (.Name "range" p) [a] [] pos] [] pos2) (opF (lrgD rng1D) ops) := .mk (pe_lrg1 hc hgl hml hg hm ha hs hs2) (simE_op (simA_of _) vok_lrg1)
theorem pf_lrg3 (hc : X.calm = true) (hgl : Gl X "list") (hml : X.mg "list" = none) (hg : Gl X "range") (hm : X.mg "range" = none) (ha : PAf X [a, b, c] ops) (hs : starEach [a, b, c] X.env = (false, eval a X.env) :: starEach [b, c] X.env := by rfl) (hpl : (backTo pos (starEach [b, c] X.env)).any (·.1) = false := by rfl)
    (hs2 : starEach [Expr.Call (.Name "range" p) [a, b, c] [] pos] X.env = [(false, eval (Expr.Call (.Name "range" p) [a, b, c] [] pos) X.env)] := by rfl) : PEf X (.Call (.Name "list" p2) [.Call (.Name "range" p) [a, b, c] [] pos] [] pos2) (opF (lrgD rng3D) ops) := .mk (pe_lrg3 hc hgl hml hg hm ha hs hpl hs2) (simE_op (simA_of _) vok_lrg3)
end
end VS
set_option Elab.async false
set_option linter.all false
set_option maxRecDepth 100000
namespace VS
open PySem PySem.Spec PyProof.Rows L2
/-! ### methods of lists -/
def appD : List D → List D → Option (D × List D) := fun xs ds => match ds with
  | [d] => if xs.length < smallL then some (.non, xs ++ [d]) else none
  | _ => none
def popD : List D → List D → Option (D × List D) := fun xs ds => match ds with
  | [] => (xs[xs.length - 1]?).bind fun d => some (d, xs.eraseIdx (xs.length - 1))
  | _ => none
def popAtD : List D → List D → Option (D × List D) := fun xs ds => match ds with
  | [.int i] => if -1000000000 ≤ i ∧ i < 1000000000 then (ixN xs.length i).bind fun k => (xs[k]?).bind fun d => some (d, xs.eraseIdx k) else none
  | _ => none
def insD : List D → List D → Option (D × List D) := fun xs ds => match ds with
  | [.int i, d] => if 0 ≤ i ∧ i < 1000000 ∧ noOwns xs = true ∧ noOwn d = true ∧ xs.length < smallL then some (.non, xs.take i.toNat ++ [d] ++ xs.drop i.toNat) else none
  | _ => none
def revD : List D → List D → Option (D × List D) := fun xs ds => match ds with
  | [] => if noOwns xs = true then some (.non, xs.reverse) else none
  | _ => none
section
variable {K : PySem.W.Frag} {G H : Hp}
theorem Reps.erase : ∀ {vs : List V} {xs : List D} {L : List Addr} {k : Nat} {d : D}, Reps K G H vs xs L → xs[k]? = some d → ∃ v M N, vs[k]? = some v ∧ Rep K G H v d M ∧ Reps K G H (vs.eraseIdx k) (xs.eraseIdx k) N ∧ (∀ a ∈ M, a ∈ L) ∧ (∀ a ∈ N, a ∈ L) ∧ (∀ a ∈ N, a ∉ M)
  | _, _, _, k, d, .nil, e => by simp at e
  | _, _, _, 0, d, .cons (L := L) (M := M) h r n, e => by
    simp at e; subst e
    exact ⟨_, L, M, rfl, h, r, fun a ha => List.mem_append_left _ ha, fun a ha => List.mem_append_right _ ha, fun a ha hm => n a hm ha⟩
  | _, _, _, k + 1, d, .cons (v := v0) (L := L) (M := M) h r n, e => by
    obtain ⟨v, M1, N1, h1, h2, h3, h4, h5, h6⟩ := r.erase (k := k) (by simpa using e)
    refine ⟨v, M1, L ++ N1, by simpa using h1, h2, .cons h h3 fun a ha hm => n a ha (h5 a hm), fun a ha => List.mem_append_right _ (h4 a ha), fun a ha => ?_, fun a ha => ?_⟩
    · rcases List.mem_append.mp ha with z | z
      · exact List.mem_append_left _ z
      · exact List.mem_append_right _ (h5 a z)
    · rcases List.mem_append.mp ha with z | z
      · exact fun hm => n a z (h4 a hm)
      · exact h6 a z
theorem eraseIdx_last {α : Type} : ∀ xs : List α, xs.eraseIdx (xs.length - 1) = xs.dropLast
  | [] => rfl
  | [x] => rfl
  | x :: y :: r => by
    have ih := eraseIdx_last (y :: r)
    show x :: (y :: r).eraseIdx (r.length) = x :: (y :: r).dropLast
    rw [← ih]
    rfl
end
section
variable {K : PySem.W.Frag}
theorem mok_app : MOk K rAppend appD := by
  intro G H a vs us xs ds L M d xs' s hG hH hr hrs nLM e Q q
  unfold appD at e
  split at e
  · rename_i d0
    split at e
    · rename_i hz
      cases e
      cases hrs with
      | cons hv rr nn =>
        cases rr
        rename_i v L1
        rw [List.append_nil] at nLM q
        refine ⟨a, vs, v, rfl, rfl, hH, ?_, q .non (vs ++ [v]) (L ++ L1) [] (hr.snoc hv nLM) .non (fun b hb => List.mem_append.mp hb) (fun b hb => (by cases hb)) (fun b _ hb => (by cases hb))⟩
        rw [hr.length]
        exact Nat.lt_of_lt_of_le hz (by decide)
    · cases e
  · cases e
theorem mok_pop : MOk K rPop popD := by
  intro G H a vs us xs ds L M d xs' s hG hH hr hrs nLM e Q q
  unfold popD at e
  split at e
  · cases hx : xs[xs.length - 1]? with
    | none => rw [hx] at e; cases e
    | some d0 =>
      rw [hx] at e; cases e
      cases hrs
      obtain ⟨v, M1, N1, h1, h2, h3, h4, h5, h6⟩ := hr.erase hx
      have hl := hr.length
      rw [← hl] at h1 h3
      refine ⟨a, vs, v, rfl, rfl, hH, h1, ?_⟩
      rw [← eraseIdx_last]
      rw [hl] at h3 ⊢
      exact q v _ N1 M1 h3 h2 (fun b hb => .inl (h5 b hb)) (fun b hb => .inl (h4 b hb)) h6
  · cases e
theorem mok_popAt : MOk K rPopAt popAtD := by
  intro G H a vs us xs ds L M d xs' s hG hH hr hrs nLM e Q q
  unfold popAtD at e
  split at e
  · rename_i i
    split at e
    · rename_i hb
      cases hk : ixN xs.length i with
      | none => rw [hk] at e; cases e
      | some k =>
        rw [hk] at e
        have e1 : (xs[k]?).bind (fun d => some (d, xs.eraseIdx k)) = some (d, xs') := e
        cases hx : xs[k]? with
        | none => rw [hx] at e1; cases e1
        | some d0 =>
          rw [hx] at e1; cases e1
          cases hrs with
          | cons hv rr nn =>
            cases rr; cases hv
            obtain ⟨v, M1, N1, h1, h2, h3, h4, h5, h6⟩ := hr.erase hx
            have hl := hr.length
            obtain ⟨q1, q2, q3, q4⟩ := ixN_seq hk
            rw [← hl] at q1
            exact ⟨a, vs, i, k, v, rfl, rfl, hH, by omega, by omega, q1, h1, q v _ N1 M1 h3 h2 (fun b hb => .inl (h5 b hb)) (fun b hb => .inl (h4 b hb)) h6⟩
    · cases e
  · cases e
theorem mok_rev : MOk K rReverse revD := by
  intro G H a vs us xs ds L M d xs' s hG hH hr hrs nLM e Q q
  unfold revD at e
  split at e
  · split at e
    · rename_i hz
      cases e
      cases hrs
      exact ⟨a, vs, rfl, rfl, hH, q .non _ [] [] (hr.to0 hz).reverse0 .non (fun b hb => (by cases hb)) (fun b hb => (by cases hb)) (fun b _ hb => (by cases hb))⟩
    · cases e
  · cases e
end
section
variable {X : Cx} {o e : Expr} {es : List Expr} {i : Nat} {ops : List Op} {o1 : Op} {apos cpos : Pos}
theorem pf_append (ho : PE X o (tVar i)) (ha : PAf X (e :: es) ops) (hbase : attributeBase o "append" X.env (eval o X.env) = eval o X.env := by rfl)
    (hfew : ((backTo cpos (starEach (e :: es) X.env)).all (fun x => !x.1) && (backToKw cpos (keywordEach [] X.env)).all (fun x => x.1.isSome)
      && decide ((e :: es).length + ([] : List Keyword).length + (if ([] : List Keyword).isEmpty then 0 else 1) < 30)) = true := by rfl)
    (hline : (apos.endLine == cpos.line) = true := by rfl) (hs : starEach (e :: es) X.env = (false, eval e X.env) :: starEach es X.env := by rfl) (hplain : (backTo cpos (starEach es X.env)).any (·.1) = false := by rfl) :
    PEf X (.Call (.Attribute o "append" apos) (e :: es) [] cpos) (mutF i appD ops) :=
  .mk (pe_bm PySem.F.plainAttrs_list PySem.F.slot_list_append PySem.F.type_list_append mt_append ho ha hbase hfew hline hs hplain) (simE_mut rfl (simA_of ops) mok_app)
theorem pf_popAt (ho : PE X o (tVar i)) (ha : PAf X (e :: es) ops) (hbase : attributeBase o "pop" X.env (eval o X.env) = eval o X.env := by rfl)
    (hfew : ((backTo cpos (starEach (e :: es) X.env)).all (fun x => !x.1) && (backToKw cpos (keywordEach [] X.env)).all (fun x => x.1.isSome)
      && decide ((e :: es).length + ([] : List Keyword).length + (if ([] : List Keyword).isEmpty then 0 else 1) < 30)) = true := by rfl)
    (hline : (apos.endLine == cpos.line) = true := by rfl) (hs : starEach (e :: es) X.env = (false, eval e X.env) :: starEach es X.env := by rfl) (hplain : (backTo cpos (starEach es X.env)).any (·.1) = false := by rfl) :
    PEf X (.Call (.Attribute o "pop" apos) (e :: es) [] cpos) (mutF i popAtD ops) :=
  .mk (pe_bm PySem.F.plainAttrs_list PySem.F.slot_list_pop PySem.F.type_list_pop mt_popAt ho ha hbase hfew hline hs hplain) (simE_mut rfl (simA_of ops) mok_popAt)
theorem bm0_bm {K : PySem.W.Frag} {T : String} {r : V → List V → Hp → VK → Prop} {to : TE} : tBM0 K T r to = tBM K T r to tNil := rfl
theorem pf_pop (ho : PE X o (tVar i)) (hbase : attributeBase o "pop" X.env (eval o X.env) = eval o X.env := by rfl) (hline : (apos.endLine == cpos.line) = true := by rfl) : PEf X (.Call (.Attribute o "pop" apos) [] [] cpos) (mutF i popD []) :=
  .mk (pe_bm0 PySem.F.plainAttrs_list PySem.F.slot_list_pop PySem.F.type_list_pop mt_pop ho hbase hline) (bm0_bm ▸ simE_mut rfl simA_nil mok_pop)
theorem pf_reverse (ho : PE X o (tVar i)) (hbase : attributeBase o "reverse" X.env (eval o X.env) = eval o X.env := by rfl) (hline : (apos.endLine == cpos.line) = true := by rfl) : PEf X (.Call (.Attribute o "reverse" apos) [] [] cpos) (mutF i revD []) :=
  .mk (pe_bm0 PySem.F.plainAttrs_list PySem.F.slot_list_reverse PySem.F.type_list_reverse mt_reverse ho hbase hline) (bm0_bm ▸ simE_mut rfl simA_nil mok_rev)
end
/-! ### isinstance of built-in types -/
def tyName : D → Option String
  | .non => some "NoneType"
  | .bl _ => some "bool"
  | .int _ => some "int"
  | .str _ => some "str"
  | .tup _ => some "tuple"
  | .lst _ _ => some "list"
  | .scr _ => some "list"
  | .ty _ => none
  | .exc _ _ => none
  | .dct _ _ => none
def anyB (t : String) : List String → Option Bool
  | [] => some false
  | n :: ns => match kitB t n with
    | some true => some true
    | some false => anyB t ns
    | none => none
def isiD (n : String) : List D → Option D
  | [d] => (tyName d).bind fun t => (kitB t n).bind fun b => some (.bl b)
  | _ => none
def isiTD (ns : List String) : List D → Option D
  | [d] => if ns.length ≤ smallL then (tyName d).bind fun t => (anyB t ns).bind fun b => some (.bl b) else none
  | _ => none
section
variable {K : PySem.W.Frag} {G H : Hp}
theorem Rep.tyx {v : V} {d : D} {L : List Addr} {t : String} (s : Same G H) (r : Rep K G H v d L) (h : tyName d = some t) : TyX K H v (.type t) := by
  cases r with
  | non => cases h; exact .base .non
  | bl b => cases h; exact .base (.bl b)
  | int i => cases h; exact .base (.int i)
  | str x => cases h; exact .base (.str x)
  | ty n => cases h
  | exc _ _ _ _ => cases h
  | dctS _ => cases h
  | dctO _ _ => cases h
  | scr q =>
    cases h
    rcases Same.seq s q with (q | ⟨o, q⟩) | ⟨o, its, n, hk, hc, _⟩
    · exact .base (.lst q)
    · exact .base (.frz q)
    · exact .kList hk hc
  | tup q r =>
    cases h
    rcases Same.seqT s q with (q | ⟨o, q⟩) | ⟨o, its, n, hk, hc, _⟩
    · exact .base (.tup q)
    · exact .fTuple q
    · exact .kTuple hk hc
  | lstS q r e => cases h; exact .base (.lst (s _ _ q))
  | lstO _ q _ r => cases h; exact .base (.lst q)
theorem vok_isi {n : String} : VOk K (fun vs H Q => match vs with | [x] => rIsi K [x, .ty n] H Q | _ => False) (isiD n) := by
  intro G H vs ds d s rl e Q q
  unfold isiD at e
  split at e
  · rename_i d0
    obtain ⟨v, L, rfl, r1⟩ := rl.one
    cases ht : tyName d0 with
    | none => rw [ht] at e; cases e
    | some t =>
      rw [ht] at e
      have e1 : (kitB t n).bind (fun b => some (D.bl b)) = some d := e
      cases hb : kitB t n with
      | none => rw [hb] at e1; cases e1
      | some b =>
        rw [hb] at e1; cases e1
        exact ⟨v, .ty n, .type t, .type n, b, rfl, .ty n, r1.tyx s ht, kit_ty hb, fin0 s (.bl _) q⟩
  · cases e
theorem kitAny_of {t : String} : ∀ {ns : List String} {b : Bool}, anyB t ns = some b → PySem.W.kitAny K (.type t) (ns.map Value.type) = some b
  | [], b, h => by cases h; exact kitAny_nil
  | n :: ns, b, h => by
    unfold anyB at h
    split at h
    · rename_i hk
      cases h
      exact kitAny_cons (kit_ty hk) (fun z => nomatch z) (fun _ => rfl)
    · rename_i hk
      exact kitAny_cons (kit_ty hk) (fun _ => kitAny_of h) (fun z => nomatch z)
    · cases h
theorem clsVs : ∀ ns : List String, Paired ClsV (ns.map V.ty) (ns.map Value.type)
  | [] => .nil
  | n :: ns => .cons (.ty n) (clsVs ns)
theorem vok_isiT {ns : List String} : VOk K (fun vs H Q => match vs with | [x] => (ns.map V.ty).length ≤ sizeLine ∧ ∀ p, H p = none → rIsiT K [x, .ref p] (upd H p (.tup (ns.map V.ty))) Q | _ => False) (isiTD ns) := by
  intro G H vs ds d s rl e Q q
  unfold isiTD at e
  split at e
  · rename_i d0
    obtain ⟨v, L, rfl, r1⟩ := rl.one
    split at e
    · rename_i hz
      cases ht : tyName d0 with
      | none => rw [ht] at e; cases e
      | some t =>
        rw [ht] at e
        have e1 : (anyB t ns).bind (fun b => some (D.bl b)) = some d := e
        cases hb : anyB t ns with
        | none => rw [hb] at e1; cases e1
        | some b =>
          rw [hb] at e1; cases e1
          refine ⟨by rw [List.length_map]; exact small_line hz, fun p hp => ?_⟩
          have t1 := Tr.newG (A := fun _ => False) (o := .tup (ns.map V.ty)) s hp
          exact ⟨v, p, _, .type t, _, b, rfl, upd_same, clsVs ns, (r1.tr t1 (fun _ _ z => z)).tyx t1.sub ht, kitAny_of hb, q _ _ _ [] (t1.post fun a z => (by cases z)) (.bl _)⟩
    · cases e
  · cases e
end
section
variable {X : Cx} {e : Expr} {p p2 p3 p4 pos : Pos} {k : Nat}
theorem pe_tyn {x : Str} {n : String} (hg : Gl X x) (hm : X.mg x = none) (hv : bootBuiltins x = some (.type n)) (hn : x ≠ "__name__" := by decide) (hd : (x == ("__debug__" : Str)) = false := by decide) : PE X (.Name x p) (tC (.ty n)) := pe_bltn hg hm hv rfl hn hd
theorem pf_isi {x : Str} {n : String} {o : Op} (hgi : Gl X "isinstance") (hmi : X.mg "isinstance" = none) (h : POf X e o) (ht : PE X (.Name x p2) (tC (.ty n)))
    (hs : starEach [e, Expr.Name x p2] X.env = (false, eval e X.env) :: starEach [Expr.Name x p2] X.env := by rfl) (hs2 : starEach [Expr.Name x p2] X.env = (false, eval (Expr.Name x p2) X.env) :: starEach [] X.env := by rfl) (hpl : (backTo pos (starEach [Expr.Name x p2] X.env)).any (·.1) = false := by rfl) :
    PEf X (.Call (.Name "isinstance" p) [e, .Name x p2] [] pos) (opF (isiD n) [o]) := by
  obtain ⟨te, p1, s1⟩ := h.ex
  refine PEf.mk (pe_callB call_isi hgi hmi boot_isinstance (pa_cons p1 (pa_cons ht pa_nil hs2) hs) (by decide) (by decide) hs hpl) ?_
  exact simE_op (ta := tCons te tNil) (r := fun vs H Q => match vs with | [x] => rIsi X.K [x, .ty n] H Q | _ => False) (simA_cons s1 simA_nil) vok_isi
theorem pf_isiT2 {x y : Str} {n m : String} {o : Op} (hgi : Gl X "isinstance") (hmi : X.mg "isinstance" = none) (h : POf X e o) (ht : PE X (.Name x p2) (tC (.ty n))) (ht2 : PE X (.Name y p3) (tC (.ty m)))
    (hs : starEach [e, Expr.Tuple [.Name x p2, .Name y p3] k p4] X.env = (false, eval e X.env) :: starEach [Expr.Tuple [.Name x p2, .Name y p3] k p4] X.env := by rfl) (hs2 : starEach [Expr.Tuple [.Name x p2, .Name y p3] k p4] X.env = (false, eval (Expr.Tuple [.Name x p2, .Name y p3] k p4) X.env) :: starEach [] X.env := by rfl) (hpl : (backTo pos (starEach [Expr.Tuple [.Name x p2, .Name y p3] k p4] X.env)).any (·.1) = false := by rfl) :
    PEf X (.Call (.Name "isinstance" p) [e, .Tuple [.Name x p2, .Name y p3] k p4] [] pos) (opF (isiTD [n, m]) [o]) := by
  obtain ⟨te, p1, s1⟩ := h.ex
  refine PEf.mk (pe_callB call_isiT hgi hmi boot_isinstance (pa_cons p1 (pa_cons (pe_tup (pa_cons ht (pa_cons ht2 pa_nil))) pa_nil hs2) hs) (by decide) (by decide) hs hpl) ?_
  exact simE_op (ta := tCons te tNil) (r := fun vs H Q => match vs with | [x] => ([n, m].map V.ty).length ≤ sizeLine ∧ ∀ p, H p = none → rIsiT X.K [x, .ref p] (upd H p (.tup ([n, m].map V.ty))) Q | _ => False) (simA_cons s1 simA_nil) vok_isiT
end
end VS
set_option Elab.async false
set_option linter.all false
set_option maxRecDepth 100000
namespace VS
open PySem PySem.Spec PyProof.Rows L2 RZ
def pairD : D → D → Option (List D × List D)
  | .lst _ xs, .lst _ ys => some (freezes xs, freezes ys)
  | .tup xs, .tup ys => some (freezes xs, freezes ys)
  | _, _ => none
def itZip (f g : FE) : FI := fun ρ => (f ρ).bind fun p => (g p.2).bind fun q => (pairD p.1 q.1).bind fun r => some ((r.1.zip r.2).map fun u => .tup [u.1, u.2], q.2)
section
variable {K : PySem.W.Frag}
theorem jok_pair2 {G0 : Hp} {J : It} {n : Nat} {P : Hp → Prop} {xs ys : Nat → Option V} {ds es : List D} (w : Walk J n P (YPair xs ys)) (hP : ∀ H, Same G0 H → P H) (hl : min ds.length es.length = n)
    (hx : ∀ i d x G H, ds[i]? = some d → xs i = some x → Same G0 G → Rep K G H x d []) (hy : ∀ i d x G H, es[i]? = some d → ys i = some x → Same G0 G → Rep K G H x d []) : JOk K J G0 ((ds.zip es).map fun p => .tup [p.1, p.2]) := by
  have hz : ((ds.zip es).map fun p => D.tup [p.1, p.2]).length = n := by rw [List.length_map, List.length_zip]; omega
  refine ⟨fun i H hi s => w.goes i H (by omega) (hP H s), fun H s => by rw [hz]; exact w.stops H (hP H s), fun i d G H x H' hd s1 s2 y => ?_⟩
  have hi : i < n := by rw [← hz]; exact (List.getElem?_eq_some_iff.mp hd).1
  obtain ⟨T, u, v, rfl, hT, rfl, h1, h2⟩ := w.yields i H x H' hi (hP H (s1.trans s2)) y
  have i1 : i < ds.length := by omega
  have i2 : i < es.length := by omega
  have : d = .tup [ds[i], es[i]] := by
    have hzz : (ds.zip es)[i]? = some (ds[i], es[i]) := List.getElem?_zip_eq_some.mpr ⟨List.getElem?_eq_getElem i1, List.getElem?_eq_getElem i2⟩
    rw [List.getElem?_map, hzz] at hd
    exact (Option.some.inj hd).symm
  subst this
  refine ⟨_, Tr.newG s2 hT, .tup (.inl (.inl upd_same)) ?_⟩
  have sn : Same G (upd G T (.tup [u, v])) := (Tr.newG (A := fun _ => False) s2 hT).g
  have r1 := hx i _ u (upd G T (.tup [u, v])) (upd H T (.tup [u, v])) (List.getElem?_eq_getElem i1) h1 (s1.trans sn)
  have r2 := hy i _ v (upd G T (.tup [u, v])) (upd H T (.tup [u, v])) (List.getElem?_eq_getElem i2) h2 (s1.trans sn)
  exact .cons r1 (.cons r2 .nil fun a z => nomatch z) fun a z => nomatch z
theorem walk_zipT {a b : Addr} {xs ys : List V} {n : Nat} (hn : n = min xs.length ys.length) : Walk (ItzT K a b) n (fun H => SqT K H a xs ∧ SqT K H b ys) (YPair (fun i => xs[i]?) (fun i => ys[i]?)) := by
  subst hn
  refine ⟨fun i _ hi q => ?_, fun _ q => ⟨xs, ys, q.1, q.2, by omega⟩, fun i H v H' _ q y => ?_⟩
  · have h1 : i < xs.length := by omega
    have h2 : i < ys.length := by omega
    exact ⟨xs, ys, xs[i], ys[i], q.1, q.2, by simp [h1], by simp [h2]⟩
  · obtain ⟨T, x, y, h1, h2, h3, h4, h5⟩ := y
    exact ⟨T, x, y, h1, h2, h3, h4 xs q.1, h5 ys q.2⟩
theorem Reps.at0 {G0 H0 : Hp} {vs : List V} {ds : List D} (hr : Reps K G0 H0 vs ds []) : ∀ (i : Nat) (d : D) (x : V) (G H : Hp), ds[i]? = some d → vs[i]? = some x → Same G0 G → Rep K G H x d [] := fun i d x G H hd hx s => by
  obtain ⟨M, q1, s1⟩ := hr.get0 hx hd
  have : M = [] := List.eq_nil_iff_forall_not_mem.mpr fun a ha => nomatch s1 a ha
  subst this
  exact q1.far s
theorem simI_zip {ta : TA} {f g : FE} (h : SimA K ta [.t f, .t g]) : SimI K (iZipA K ta) (itZip f g) := by
  intro ρ ds ρ' e σ G H F r R q
  unfold itZip at e
  cases hf : f ρ with
  | none => rw [hf] at e; cases e
  | some p =>
    obtain ⟨d1, ρ1⟩ := p
    rw [hf] at e
    have e1 : (g ρ1).bind (fun q => (pairD d1 q.1).bind fun r => some ((r.1.zip r.2).map (fun u => D.tup [u.1, u.2]), q.2)) = some (ds, ρ') := e
    cases hg : g ρ1 with
    | none => rw [hg] at e1; cases e1
    | some p2 =>
      obtain ⟨d2, ρ2⟩ := p2
      rw [hg] at e1
      have e2 : (pairD d1 d2).bind (fun r => some ((r.1.zip r.2).map (fun u => D.tup [u.1, u.2]), ρ2)) = some (ds, ρ') := e1
      cases hp : pairD d1 d2 with
      | none => rw [hp] at e2; cases e2
      | some pr =>
        obtain ⟨xs, ys⟩ := pr
        rw [hp] at e2; cases e2
        have he : evOps [.t f, .t g] ρ = some ([some d1, some d2], ρ') := by
          unfold evOps
          rw [hf]
          show (evOps [.t g] ρ1).bind (fun p => some (some d1 :: p.1, p.2)) = _
          unfold evOps
          rw [hg]
          rfl
        refine h ρ _ _ he σ G H F r _ fun vs G1 H1 F1 M t1 r1 ok n1 => ?_
        cases ok with
        | t rv1 nn ok =>
          cases ok with
          | t rv2 nn2 ok =>
            cases ok
            rename_i v1 L1 v2 L2
            rw [List.append_nil] at nn n1 t1
            obtain ⟨G2, t2, r2, rv1'⟩ := r1.frz rv1 (fun a ha => n1 a (List.mem_append_left _ ha))
            have rv2' := rv2.tr t2 (fun a ha z => z.elim (n1 a (List.mem_append_right _ ha)) fun y => nn a y ha)
            obtain ⟨G3, t3, r3, rv2''⟩ := r2.frz rv2' (fun a ha => n1 a (List.mem_append_right _ ha))
            have rv1'' := rv1'.tr t3 (fun a z => nomatch z)
            have tt : Tr G H (own F) G3 H1 (own F1) := by
              refine (t1.trans (t2.wk (A2 := fun a => own F1 a ∨ a ∈ L1 ++ L2) (B := fun a => own F1 a ∨ a ∈ L1 ++ L2) (fun a h => h.imp id (List.mem_append_left _)) fun a h => .inr (.inl h))).trans (t3.wk (fun a h => h.imp id (List.mem_append_right _)) fun a h => .inl h)
            unfold pairD at hp
            split at hp
            · cases hp
              cases rv1'' with
              | lstS hs1 hr1 _ =>
                cases rv2'' with
                | lstS hs2 hr2 _ =>
                  refine ⟨_, _, _, _, rfl, .inl ⟨SqL.of (r3.sub _ _ hs1), SqL.of (r3.sub _ _ hs2), q _ G3 H1 F1 tt r3 (jok_pair2 (walk_zip rfl) (fun H s => ⟨SqL.of (s _ _ hs1), SqL.of (s _ _ hs2)⟩) (by rw [hr1.length, hr2.length]) hr1.at0 hr2.at0)⟩⟩
            · cases hp
              cases rv1'' with
              | tup hs1 hr1 =>
                cases rv2'' with
                | tup hs2 hr2 =>
                  refine ⟨_, _, _, _, rfl, .inr ⟨Same.seqT r3.sub hs1, Same.seqT r3.sub hs2, q _ G3 H1 F1 tt r3 (jok_pair2 (walk_zipT rfl) (fun H s => ⟨Same.seqT s hs1, Same.seqT s hs2⟩) (by rw [hr1.length, hr2.length]) hr1.at0 hr2.at0)⟩⟩
            · cases hp
end
section
variable {X : Cx} {e e2 : Expr} {p pos tpos : Pos} {elts : List Expr} {kk : Nat}
theorem pif_zip {f g : FE} (hg : Gl X "zip") (hm : X.mg "zip" = none) (h1 : PEf X e f) (h2 : PEf X e2 g)
    (hs : starEach [e, e2] X.env = (false, eval e X.env) :: starEach [e2] X.env := by rfl) (hs2 : starEach [e2] X.env = (false, eval e2 X.env) :: starEach [] X.env := by rfl) (hpl : (backTo pos (starEach [e2] X.env)).any (·.1) = false := by rfl) : PIf X (.Tuple elts kk tpos) (.Call (.Name "zip" p) [e, e2] [] pos) (itZip f g) :=
  .mk (pi_zipA hg hm (paf_cons (o := .t f) (ops := [.t g]) h1 (paf_cons (o := .t g) (ops := []) h2 paf_nil hs2) hs) hs hpl) (simI_zip (simA_of _))
end
/-- an int, or nothing -/
def asInt (f : FE) : FE := fun ρ => (f ρ).bind fun p => match p.1 with
  | .int i => some (.int i, p.2)
  | _ => none
section
variable {K : PySem.W.Frag}
theorem simE_int {te : TE} {f : FE} (h : SimE K te f) : SimE K (fun σ H Q => te σ H fun x H1 => ∃ i, x = .int i ∧ Q x H1) (asInt f) := by
  intro ρ d ρ' e σ G H F r Q q
  unfold asInt at e
  cases hf : f ρ with
  | none => rw [hf] at e; cases e
  | some p =>
    obtain ⟨d1, ρ1⟩ := p
    rw [hf] at e
    cases d1 with
    | int i =>
      cases e
      refine h ρ _ _ hf σ G H F r _ fun v G1 H1 F1 L t1 r1 rv n1 => ?_
      cases rv
      exact ⟨i, rfl, q _ G1 H1 F1 [] t1 r1 (.int i) n1⟩
    | _ => cases e
end
section
variable {X : Cx} {e a b : Expr} {p2 pos : Pos}
theorem pf_slB {o : Op} {fa fb : FE} (h : POf X e o) (ha : PEf X a fa) (hb : PEf X b fb) : PEf X (.Subscript e (.Slice (some a) (some b) none p2) pos) (opF (partD true true) [o, .t (asInt fa), .t (asInt fb)]) := by
  obtain ⟨te, p1, s1⟩ := h.ex
  refine PEf.mk (pe_slice sl_x p1 (po_some ha) (po_some hb)) ?_
  have := simE_op (simA_cons s1 (simA_cons (o := .t (asInt fa)) (simE_int (simE_of fa)) (simA_cons (o := .t (asInt fb)) (simE_int (simE_of fb)) simA_nil))) (vok_slB (K := X.K))
  refine simE_eta this fun σ H Q q => ?_
  have mono : ∀ {R R' : VK}, (∀ v H, R v H → R' v H) → ∀ {f : FE} {σ : L2.St} {H : Hp}, teOf X.K f σ H R → teOf X.K f σ H R' := by
    intro R R' hR f σ H h
    obtain ⟨ρ, d, ρ', G, F, a1, a2, a3⟩ := h
    exact ⟨ρ, d, ρ', G, F, a1, a2, fun v G' H' F' L t r rv n => hR _ _ (a3 v G' H' F' L t r rv n)⟩
  have q' : te σ H fun x H1 => teOf X.K fa σ H1 fun y H2 => ∃ i, y = .int i ∧ teOf X.K fb σ H2 fun z H3 => ∃ j, z = .int j ∧ ∃ i' j', y = .int i' ∧ z = .int j' ∧ rSlX X.K x (some i') (some j') H3 Q := q
  show te σ H fun x H1 => teOf X.K fa σ H1 fun y H2 => ∃ i, y = .int i ∧ teOf X.K fb σ H2 fun z H3 => ∃ j, z = .int j ∧ rSlX X.K x (some i) (some j) H3 Q
  have m1 : (fun (x : V) (H1 : Hp) => teOf X.K fa σ H1 fun y H2 => ∃ i, y = .int i ∧ teOf X.K fb σ H2 fun z H3 => ∃ j, z = .int j ∧ ∃ i' j', y = .int i' ∧ z = .int j' ∧ rSlX X.K x (some i') (some j') H3 Q) = (fun x H1 => teOf X.K fa σ H1 fun y H2 => ∃ i, y = .int i ∧ teOf X.K fb σ H2 fun z H3 => ∃ j, z = .int j ∧ rSlX X.K x (some i) (some j) H3 Q) := by
    funext x H1
    refine propext ⟨mono fun y H2 ⟨i, e1, r⟩ => ⟨i, e1, mono (fun z H3 ⟨j, e2, i', j', e3, e4, r2⟩ => ⟨j, e2, ?_⟩) r⟩, mono fun y H2 ⟨i, e1, r⟩ => ⟨i, e1, mono (fun z H3 ⟨j, e2, r2⟩ => ⟨j, e2, i, j, e1, e2, r2⟩) r⟩⟩
    rw [e1] at e3; rw [e2] at e4
    cases e3; cases e4
    exact r2
  rw [m1] at q'
  exact q'
end
end VS
set_option Elab.async false
set_option linter.all false
set_option maxRecDepth 100000
namespace VS
open PySem PySem.Spec PyProof.Rows L2 RZ
/-! ### a, b = x, y of plain local names -/
def setAll : List Nat → List D → Env → Env
  | i :: is, d :: ds, ρ => setAll is ds (ρ.set i (some d))
  | _, _, ρ => ρ
def setAllV : List Nat → List V → L2.St → L2.St
  | i :: is, v :: vs, σ => setAllV is vs (σ.set i (some v))
  | _, _, σ => σ
def parF (is : List Nat) (ops : List Op) : FS := fun ρ => (evOps ops ρ).bind fun p => (takeN ops p.1 p.2).bind fun ds => if ds.length = is.length then some (.nx (setAll is ds p.2)) else none
section
variable {K : PySem.W.Frag} {pn : Nat → Bool} {W : WX}
theorem setAll_ok {G H : Hp} : ∀ {is : List Nat} {vs : List V} {ds : List D} {M : List Addr} {σ : L2.St} {ρ : Env} {F : Nat → List Addr}, (∀ i ∈ is, pn i = false) → REnv K G H σ ρ F → Reps K G H vs ds M → (∀ a ∈ M, ¬ own F a) →
    ∃ F', REnv K G H (setAllV is vs σ) (setAll is ds ρ) F' ∧ (∀ a, own F' a → own F a ∨ a ∈ M) ∧ Pin pn σ (setAllV is vs σ)
  | [], vs, ds, M, σ, ρ, F, hp, r, h, n => ⟨F, r, fun a h => .inl h, Pin.refl⟩
  | i :: is, [], ds, M, σ, ρ, F, hp, r, h, n => by
    cases h
    exact ⟨F, r, fun a h => .inl h, Pin.refl⟩
  | i :: is, v :: vs, [], M, σ, ρ, F, hp, r, h, n => by cases h
  | i :: is, v :: vs, d :: ds, _, σ, ρ, F, hp, r, .cons hv hr hn, n => by
    obtain ⟨F1, r1, s1⟩ := r.put' i hv (fun a ha => n a (List.mem_append_left _ ha))
    obtain ⟨F2, r2, s2, p2⟩ := setAll_ok (is := is) (fun j hj => hp j (List.mem_cons_of_mem _ hj)) r1 hr (fun a ha z => (s1 a z).elim (n a (List.mem_append_right _ ha)) fun y => hn a y ha)
    refine ⟨F2, r2, fun a h => ?_, (Pin.set (hp i List.mem_cons_self)).trans p2⟩
    rcases s2 a h with z | z
    · exact (s1 a z).imp id (List.mem_append_left _)
    · exact .inr (List.mem_append_right _ z)
theorem simS_par {t : TS} {ta : TA} {is : List Nat} {ops : List Op} (hp : ∀ i ∈ is, pn i = false) (h : SimA K ta ops) (ht : ∀ (E : Ends) σ H, (ta σ H fun vs H1 => vs.length = is.length ∧ E.nx (setAllV is vs σ) H1) → t E σ H) : SimS K pn W t (parF is ops) := by
  intro ρ o e σ G H F r E q
  unfold parF at e
  cases he : evOps ops ρ with
  | none => rw [he] at e; cases e
  | some p =>
    obtain ⟨ts, ρ1⟩ := p
    rw [he] at e
    have e1 : (takeN ops ts ρ1).bind (fun ds => if ds.length = is.length then some (Out.nx (setAll is ds ρ1)) else none) = some o := e
    cases htk : takeN ops ts ρ1 with
    | none => rw [htk] at e1; cases e1
    | some ds =>
      rw [htk] at e1
      have e2 : (if ds.length = is.length then some (Out.nx (setAll is ds ρ1)) else none) = some o := e1
      split at e2
      · rename_i hl
        cases e2
        refine ht E σ H (h ρ ts ρ1 he σ G H F r _ fun vs G1 H1 F1 M t1 r1 ok n1 => ?_)
        have rs := ok.take r1 htk
        obtain ⟨F2, r2, s2, p2⟩ := setAll_ok (is := is) hp r1 rs n1
        exact ⟨rs.length.trans hl, q _ G1 H1 F2 (t1.post s2) r2 p2⟩
      · cases e2
end
def iaddD : List D → Option D := fun ds => match ds with | [.int a, .int b] => some (.int (a + b)) | _ => none
def isubD : List D → Option D := fun ds => match ds with | [.int a, .int b] => some (.int (a - b)) | _ => none
section
variable {K : PySem.W.Frag}
end
section
variable {X : Cx} {pn : Nat → Bool} {W : WX} {a b c : Expr} {pos px py pz pt : Pos} {kt k2 : Nat} {pt2 : Pos}
theorem psf_par2 {i j : Nat} {x y : Str} {ops : List Op} (hc : X.calm = true) (hN : X.N.Nodup) (hi : X.N[i]? = some x) (hj : X.N[j]? = some y) (hij : i ≠ j) (hp : ∀ k ∈ [i, j], pn k = false)
    (hx : X.env.scope.names.lookup x = some .local) (hy : X.env.scope.names.lookup y = some .local) (ha : PAf X [a, b] ops)
    (hw : swappedStores [.Tuple [.Name x px, .Name y py] kt pt] (.Tuple [a, b] k2 pt2) X.env = pure (some [x, y]))
    (hs : swapsWithSole [.Tuple [.Name x px, .Name y py] kt pt] (.Tuple [a, b] k2 pt2) pos.line X.env = pure false := by rfl) :
    PSf X pn W (.Assign [.Tuple [.Name x px, .Name y py] kt pt] (.Tuple [a, b] k2 pt2) pos) (parF [i, j] ops) :=
  .mk (ps_par hc hN hi hj hij hx hy ha hw hs) (simS_par (ta := taOf X.K ops) hp (simA_of ops) fun E σ H ⟨ρ, ts, ρ', G, F, e, r, q⟩ => ⟨ρ, ts, ρ', G, F, e, r, fun vs G' H' F' M t r' ok n => by
    obtain ⟨hl, q1⟩ := q vs G' H' F' M t r' ok n
    match vs, hl, q1 with
    | [v, w], _, q1 => exact ⟨v, w, rfl, q1⟩⟩)
end
/-! ### how keywords bind -/
/-- the law's call: from the script, whatever the heap -/
def spLaw (K : PySem.W.Frag) : Sp := fun vs H Q _ => ∃ (a : Addr) (ns : List Int), vs = [.ref a] ∧ SqL K H a (ns.map V.int) ∧ ns.length ≤ 63 ∧ ∀ H', Q (.bl true) H'
theorem law_sp {K : PySem.W.Frag} {fn : Fn} (hn : fn.np = 1) (h : ∀ ns : List Int, ns.length ≤ 63 → ∃ os, fn.sem [.scr ns] = some (.bl true, os)) {vs : List V} {H : Hp} {Q : VK} {E : XK} (q : spLaw K vs H Q E) : spOf K fn vs H Q E := by
  obtain ⟨a, ns, rfl, hs, hl, q⟩ := q
  obtain ⟨os, hos⟩ := h ns hl
  refine ⟨H, [.scr ns], [], .bl true, os, Same.refl H, Reps.cons0 (.scr hs) .nil, hn.symm, hos, fun v G' H' P N t ro rv n => ?_⟩
  cases rv
  exact q H'
end VS
set_option Elab.async false
set_option linter.all false
set_option maxRecDepth 100000
namespace VS
open PySem PySem.Spec PyProof.Rows L2 RZ
/-! ### sum, all, any, sorted of whole numbers; in; is of truths -/
def intsOf : List D → Option (List Int)
  | [] => some []
  | .int i :: r => (intsOf r).map (i :: ·)
  | _ :: _ => none
def blsOf : List D → Option (List Bool)
  | [] => some []
  | .bl i :: r => (blsOf r).map (i :: ·)
  | _ :: _ => none
section
variable {K : PySem.W.Frag} {G H : Hp}
theorem Reps.ints : ∀ {vs : List V} {xs : List D} {L : List Addr} {ns : List Int}, Reps K G H vs xs L → intsOf xs = some ns → vs = ns.map V.int ∧ xs = ns.map D.int
  | _, [], _, ns, .nil, e => by cases e; exact ⟨rfl, rfl⟩
  | _, x :: r, _, ns, .cons h hr _, e => by
    cases x with
    | int i =>
      obtain ⟨ms, e1, rfl⟩ := Option.map_eq_some_iff.mp (show (intsOf r).map (i :: ·) = some ns from e)
      cases h
      obtain ⟨h1, h2⟩ := hr.ints e1
      exact ⟨by rw [h1]; rfl, by rw [h2]; rfl⟩
    | _ => cases e
end
theorem intsOf_map (ns : List Int) : intsOf (ns.map D.int) = some ns := by
  induction ns with
  | nil => rfl
  | cons n ns ih => show (intsOf (ns.map D.int)).map (n :: ·) = _; rw [ih]; rfl
def sumD : List D → Option D
  | [.lst _ xs] => (intsOf xs).bind fun ns => some (.int ns.sum)
  | _ => none
def allD : List D → Option D
  | [.lst _ xs] => (blsOf xs).bind fun ns => some (.bl (ns.all id))
  | _ => none
def anyD : List D → Option D
  | [.lst _ xs] => (blsOf xs).bind fun ns => some (.bl (ns.any id))
  | _ => none
def sortI (ns : List Int) : List Int := ns.mergeSort (fun a b => decide (a ≤ b))
theorem sortI_pw (ns : List Int) : (sortI ns).Pairwise (· ≤ ·) := by
  have := List.pairwise_mergeSort (le := fun a b : Int => decide (a ≤ b)) (fun a b c h1 h2 => by simp at h1 h2 ⊢; omega) (fun a b => by simp; omega) ns
  simpa [sortI] using this
theorem sortI_uniq {ns ms : List Int} (h : ms.Perm ns) (hp : ms.Pairwise (· ≤ ·)) : ms = sortI ns :=
  List.Perm.eq_of_pairwise (fun _ _ _ _ a b => Int.le_antisymm a b) hp (sortI_pw ns) (h.trans (List.mergeSort_perm _ _).symm)
def sortedID : List D → Option D
  | [.lst _ xs] => (intsOf xs).bind fun ns => some (.lst true ((sortI ns).map .int))
  | _ => none
section
variable {K : PySem.W.Frag}
theorem vok_sortedI : VOk K (rSortedI K) sortedID := by
  intro G H vs ds d s rl e Q q
  unfold sortedID at e
  split at e
  · obtain ⟨v, L, rfl, r1⟩ := rl.one
    obtain ⟨ns, e1, e2⟩ := Option.bind_eq_some_iff.mp e
    cases e2
    obtain ⟨a, vs, L1, rfl, h1, h2, _⟩ := r1.lstInv s
    obtain ⟨rfl, _⟩ := h2.ints e1
    refine ⟨a, ns, rfl, SqL.of h1, fun ns' p hp hw hn => ?_⟩
    obtain rfl := sortI_uniq hp hw
    obtain ⟨t, r⟩ := new_lst s hn (reps_ints _)
    exact q _ _ _ _ t r
  · cases e
/-! is of truths -/
def isBlD : List D → Option D
  | [.bl a, .bl b] => some (.bl (decide (a = b)))
  | _ => none
def notBlD : List D → Option D
  | [.bl a, .bl b] => some (.bl (!decide (a = b)))
  | _ => none
/-! in: of lists (any data), of tuples (flat items) -/
def flatD : D → Bool
  | .non => true
  | .bl _ => true
  | .int _ => true
  | .str _ => true
  | _ => false
def inD (neg : Bool) : List D → Option D
  | [x, .lst o xs] => if eqOk x = true ∧ eqOk (.lst o xs) = true then some (.bl (if neg then !xs.any fun z => deq z x else xs.any fun z => deq z x)) else none
  | [x, .tup xs] => if flatD x = true ∧ xs.all flatD = true then some (.bl (if neg then !xs.any fun z => deq z x else xs.any fun z => deq z x)) else none
  | _ => none
def rInA (K : PySem.W.Frag) : R2 := fun x y H Q => rInD K x y H Q ∨ rIn K false x y H Q
def rNotInA (K : PySem.W.Frag) : R2 := fun x y H Q => rNotInD K x y H Q ∨ rIn K true x y H Q
end
section
variable {X : Cx}
end
end VS
set_option Elab.async false
set_option linter.all false
set_option maxRecDepth 100000
namespace VS
open PySem PySem.Spec PyProof.Rows L2 RZ
/-! ### methods of a list that only read it -/
def isL : Option D → Bool
  | some (.lst _ _) => true
  | _ => false
def methF (i : Nat) (g : List D → Option D) (ops : List Op) : FE := fun ρ => if isL (getS ρ i) = true then opF g (.b i :: ops) ρ else none
def consV (r : V → List V → Hp → VK → Prop) : List V → Hp → VK → Prop := fun vs H Q => match vs with
  | x :: xs => r x xs H Q
  | [] => False
section
variable {K : PySem.W.Frag}
def indexD : List D → Option D
  | [.lst o xs, d] => if eqOk d = true ∧ eqOk (.lst o xs) = true then (xs.findIdx? fun z => deq z d).map fun j => .int (j : Nat) else none
  | _ => none
theorem pyDs_get (xs : List D) (j : Nat) : (pyDs xs)[j]? = (xs[j]?).map pyD := by
  induction xs generalizing j with
  | nil => simp [pyDs]
  | cons x xs ih => cases j with
    | zero => simp [pyDs]
    | succ j => simp [pyDs, ih]
theorem vok_index : VOk K (consV (rIndexD K)) indexD := by
  intro G H vs ds d s rl e Q q
  unfold indexD at e
  split at e
  · rename_i o xs y
    obtain ⟨v, u, L, M, rfl, r1, r2⟩ := rl.two
    split at e
    · rename_i hz
      obtain ⟨j, hj, rfl⟩ := Option.map_eq_some_iff.mp e
      obtain ⟨a1, a2⟩ := eqOk_split hz.1
      obtain ⟨b1, b2⟩ := eqOk_split hz.2
      obtain ⟨a, ws, L1, rfl, _, _, _⟩ := r1.lstInv s
      obtain ⟨hlt, h1, h2⟩ := List.findIdx?_eq_some_iff_getElem.mp hj
      refine ⟨a, u, pyD y, pyDs xs, j, pyD xs[j], rfl, rfl, by simpa only [pyD] using r1.dp s b1, r2.dp s a1, by simpa only [pyD] using b2, a2, ?_, h1, fun m z' hm hz' => ?_, fin0 s (.int _) q⟩
      · rw [pyDs_get, List.getElem?_eq_getElem hlt]; rfl
      · rw [pyDs_get, List.getElem?_eq_getElem (by omega)] at hz'
        cases hz'
        have := h2 m hm
        simpa [deq] using this
    · cases e
  · cases e
def clrD : List D → List D → Option (D × List D) := fun xs ds => match ds with
  | [] => if noOwns xs = true then some (.non, []) else none
  | _ => none
theorem mok_clr : MOk K rClear clrD := by
  intro G H a vs us xs ds L M d xs' s hG hH hr hrs nLM e Q q
  unfold clrD at e
  split at e
  · split at e
    · rename_i hz
      cases e
      cases hrs
      exact ⟨a, vs, rfl, rfl, hH, q .non _ [] [] .nil .non (fun b hb => (by cases hb)) (fun b hb => (by cases hb)) (fun b _ hb => (by cases hb))⟩
    · cases e
  · cases e
end
section
variable {X : Cx} {o e : Expr} {es : List Expr} {i : Nat} {ops : List Op} {o1 : Op} {apos cpos : Pos}
theorem pf_clear (ho : PE X o (tVar i)) (hbase : attributeBase o "clear" X.env (eval o X.env) = eval o X.env := by rfl) (hline : (apos.endLine == cpos.line) = true := by rfl) : PEf X (.Call (.Attribute o "clear" apos) [] [] cpos) (mutF i clrD []) :=
  .mk (pe_bm0 PySem.F.plainAttrs_list PySem.F.slot_list_clear PySem.F.type_list_clear mt_clear ho hbase hline) (bm0_bm ▸ simE_mut rfl simA_nil mok_clr)
end
/-! ### a < b < c -/
def int1 : List D → Option Int
  | [.int m] => some m
  | _ => none
def int2 : List D → Option (Int × Int)
  | [.int i, .int j] => some (i, j)
  | _ => none
def chainF (p p' : Int → Int → Bool) (o1 o2 o3 : Op) : FE := fun ρ => (evOps [o1, o2] ρ).bind fun P => (fetch [o1, o2] P.1 P.2).bind fun ds => (int2 ds).bind fun ij =>
  if p ij.1 ij.2 = true then (evOps [o3] P.2).bind fun P3 => (fetch [o3] P3.1 P3.2).bind fun es => (int1 es).bind fun m => some (.bl (p' ij.2 m), P3.2) else some (.bl false, P.2)
section
variable {K : PySem.W.Frag}
end
section
variable {X : Cx} {a b c : Expr} {pos : Pos}
end
end VS
namespace VS
open PySem PySem.Spec PyProof.Rows L2 RZ
theorem units65 {k : Nat} {A : Around} (hr : Room k A) : A.units + 65 < cLine := by have := hr.un; omega
end VS
set_option Elab.async false
set_option linter.all false
set_option maxRecDepth 100000
namespace VS
open PySem PySem.Spec PyProof.Rows L2 RZ
/-! ### comb -/
def combD : List D → Option D
  | [.int a, .int b] => if 0 ≤ a ∧ 0 ≤ b ∧ a ≤ 18000 then some (.int (PySem.W.mcComb a b)) else none
  | _ => none
def rComb : List V → Hp → VK → Prop := fun xs H Q => ∃ a b : Int, xs = [.int a, .int b] ∧ 0 ≤ a ∧ 0 ≤ b ∧ a ≤ 18000 ∧ Q (.int (PySem.W.mcComb a b)) H
section
variable {X : Cx} {p pos : Pos} {e : Expr} {es : List Expr} {o : Op} {ops : List Op} {x : Str}
end
/-! ### is True, is False, of truths, numbers and None -/
def isBvD : List D → Option D
  | [.bl a, .bl b] => some (.bl (decide (a = b)))
  | [.int _, .bl _] => some (.bl false)
  | [.non, .bl _] => some (.bl false)
  | _ => none
def notBvD : List D → Option D
  | [.bl a, .bl b] => some (.bl (!decide (a = b)))
  | [.int _, .bl _] => some (.bl true)
  | [.non, .bl _] => some (.bl true)
  | _ => none
def rIsBv : R2 := fun x y H Q => rIsB x y H Q ∨ ∃ b : Bool, y = .bl b ∧ (x = .non ∨ ∃ i, x = .int i) ∧ Q (.bl false) H
def rNotBv : R2 := fun x y H Q => rNotB x y H Q ∨ ∃ b : Bool, y = .bl b ∧ (x = .non ∨ ∃ i, x = .int i) ∧ Q (.bl true) H
/-! ### a list that stands in a list -/
section
variable {K : PySem.W.Frag} {G H : Hp}
end
/-- x[j] != [] -/
def neElF (i j : Nat) : FE := fun ρ => match getS ρ i with
  | some (.lst true xs) => match xs[j]? with
    | some (.lst true ys) => if eqOk (.lst true ys) = true then some (.bl (!deq (.lst true ys) (.lst true [])), ρ) else none
    | _ => none
  | _ => none
/-- x[j].pop() -/
def popElF (i j : Nat) : FE := fun ρ => match getS ρ i with
  | some (.lst true xs) => match xs[j]? with
    | some (.lst true ys) => if noOwns ys = true then (popD ys []).bind fun q => some (q.1, ρ.set i (some (.lst true (xs.set j (.lst true q.2))))) else none
    | _ => none
  | _ => none
section
variable {K : PySem.W.Frag}
end
section
variable {X : Cx} {a : Expr} {i j : Nat} {k : Nat} {p1 p2 p3 apos cpos : Pos}
end
end VS
set_option Elab.async false
set_option linter.all false
set_option maxRecDepth 100000
namespace VS
open PySem PySem.Spec PyProof.Rows L2 RZ
/-! ### sum of a tuple -/
section
variable {prog : Program} {w : World} {A : Around} {E : Value → Shared → Prop} {s : Shared} {l : Addr} {xs : Array (Int × Tok)}
end
def rSumT (K : PySem.W.Frag) : List V → Hp → VK → Prop := fun vs H Q => ∃ (a : Addr) (ns : List Int), vs = [V.ref a] ∧ SqT K H a (ns.map V.int) ∧ Q (.int ns.sum) H
def rSumA (K : PySem.W.Frag) : List V → Hp → VK → Prop := fun vs H Q => rSum K vs H Q ∨ rSumT K vs H Q
def sumAD : List D → Option D
  | [.lst _ xs] => (intsOf xs).bind fun ns => some (.int ns.sum)
  | [.tup xs] => (intsOf xs).bind fun ns => some (.int ns.sum)
  | _ => none
/-! ### count of a whole number in a list of such -/
def countF (k : Int) (f : FE) : FE := fun ρ => (f ρ).bind fun p => match p.1 with
  | .lst _ xs => (intsOf xs).bind fun ns => some (.int (ns.count k : Nat), p.2)
  | _ => none
/-! ### a def that is asked, and hands nothing on: what is shown to it stays the caller's -/
def flat1 : D → Bool
  | .non => true
  | .bl _ => true
  | .int _ => true
  | _ => false
def callRdF (fn : Fn) (ops : List Op) : FE := fun ρ => (evOps ops ρ).bind fun p => (fetch ops p.1 p.2).bind fun ds => (fn.sem (freezes ds)).bind fun q => if flat1 q.1 = true then some (q.1, p.2) else none
theorem RepL.frz {K : PySem.W.Frag} {G H : Hp} (s : Same G H) : ∀ {vs : List V} {ds : List D}, RepL K G H vs ds → Reps K H H vs (freezes ds) []
  | _, _, .nil => .nil
  | _, _, .cons h r => by
    have := Reps.cons (h.frz s fun _ _ => rfl) (RepL.frz s r) (fun a ha => nomatch ha)
    exact this
/-! ### x[j][k] = v -/
def tgElF (i j k : Nat) : D → Env → Option Env := fun d ρ => match getS ρ i with
  | some (.lst true xs) => match xs[j]? with
    | some (.lst true ys) => if noOwns ys = true ∧ noOwn d = true ∧ k < ys.length then some (ρ.set i (some (.lst true (xs.set j (.lst true (ys.set k d)))))) else none
    | _ => none
  | _ => none
theorem ixN_natV {n k : Nat} (h : k < n) : ixN n (k : Nat) = some k := by
  unfold ixN
  rw [if_pos (by omega), if_pos (by omega), Int.toNat_natCast]
/-! the rules -/
section
variable {X : Cx} {pn : Nat → Bool} {W : WX} {k : Nat} {f : Addr} {fd : FuncData} {ps : List Str} {fn : Fn} {x : Str} {p pos apos cpos : Pos} {e o a : Expr} {es : List Expr} {o1 : Op} {ops : List Op}
end
end VS
set_option Elab.async false
set_option linter.all false
set_option maxRecDepth 100000
namespace VS
open PySem PySem.Spec PyProof.Rows L2 RZ
/-! ### xs[::-1] -/
def rRevQ (K : PySem.W.Frag) : V → Hp → VK → Prop := fun x H1 Q => ∃ a xs, x = .ref a ∧ SqL K H1 a xs ∧ ∀ p, H1 p = none → Q (.ref p) (upd H1 p (.lst xs.reverse))
def revLD : List D → Option D
  | [.lst _ xs] => if noOwns xs = true then some (.lst true xs.reverse) else none
  | _ => none
section
variable {X : Cx} {e : Expr} {k : Nat} {p1 p2 p3 pos : Pos} {o : Op}
end
end VS
set_option Elab.async false
set_option linter.all false
set_option maxRecDepth 100000
set_option maxHeartbeats 4000000
namespace VS
open PySem PySem.Spec PyProof.Rows L2 RZ
/-! ### tuple * 0, tuple * 1 -/
def rRepT0 (K : PySem.W.Frag) : R2 := fun x y H Q => ∃ l xs, x = .ref l ∧ y = .int 0 ∧ SqT K H l xs ∧ xs ≠ [] ∧ ∀ p, H p = none → Q (.ref p) (upd H p (.tup []))
def rRepT1 (K : PySem.W.Frag) : R2 := fun x y H Q => ∃ l xs, x = .ref l ∧ y = .int 1 ∧ SqT K H l xs ∧ Q (.ref l) H
section
variable {X : Cx}
def rMulT (K : PySem.W.Frag) : R2 := fun x y H Q => rRepT0 K x y H Q ∨ (rRepT1 K x y H Q ∨ rRepT K x y H Q)
end
def mulTD : List D → Option D
  | [.tup xs, .int k] => if noOwns xs = true ∧ xs ≠ [] ∧ 0 ≤ k ∧ k ≤ 1000 ∧ xs.length ≤ 1000 then some (.tup (List.replicate k.toNat xs).flatten) else none
  | _ => none
end VS
set_option Elab.async false
set_option linter.all false
set_option maxRecDepth 100000
namespace VS
open PySem PySem.Spec PyProof.Rows L2 RZ
/-! ### min of two tuples of ints -/
section
variable {prog : Program} {w : World} {A : Around} {R : Result → Shared → Prop} {I S : Addr} {fp wr : List Addr} {P : Nat → Value → Prop} {St : Nat → Heap → Prop}
end
section
variable {prog : Program} {w : World} {A : Around} {E : Value → Shared → Prop} {s : Shared}
end
def rMinT (K : PySem.W.Frag) : List V → Hp → VK → Prop := fun vs H Q => ∃ (a b : Addr) (ns ms : List Int), vs = [V.ref a, V.ref b] ∧ SqT K H a (ns.map V.int) ∧ SqT K H b (ms.map V.int) ∧ Q (if HT.lexLt ms ns = true then .ref b else .ref a) H
def minTD : List D → Option D
  | [.tup xs, .tup ys] => (intsOf xs).bind fun ns => (intsOf ys).bind fun ms => some (if HT.lexLt ms ns = true then .tup ys else .tup xs)
  | _ => none
end VS
set_option Elab.async false
set_option linter.all false
set_option maxRecDepth 100000
namespace VS
open PySem PySem.Spec PyProof.Rows L2 RZ
/-! ### t1 = t2 = e, of a thing that holds no list of its own -/
def asg2F (f : FE) (g1 g2 : D → Env → Option Env) : FS := fun ρ => (f ρ).bind fun p => if noOwn p.1 = true then (g1 p.1 p.2).bind fun ρ1 => (g2 p.1 ρ1).bind fun ρ2 => some (.nx ρ2) else none
section
variable {X : Cx} {e : Expr} {pos : Pos} {pn : Nat → Bool} {W : WX} {K : PySem.W.Frag}
end
end VS
set_option Elab.async false
set_option linter.all false
set_option maxRecDepth 100000
namespace VS
open PySem PySem.Spec PyProof.Rows L2 RZ
/-! ### xs.extend(ys), xs += ys: ys a list of things that own nothing -/
def extD : List D → List D → Option (D × List D) := fun xs ds => match ds with
  | [.lst _ zs] => if noOwns zs = true ∧ xs.length + zs.length ≤ smallL then some (.non, xs ++ zs) else none
  | _ => none
section
variable {K : PySem.W.Frag} {pn : Nat → Bool} {W : WX}
end
section
variable {X : Cx} {pn : Nat → Bool} {W : WX} {e : Expr} {pos : Pos}
end
end VS
set_option Elab.async false
set_option linter.all false
set_option maxRecDepth 100000
namespace VS
open PySem PySem.Spec PyProof.Rows L2 RZ
/-! ### sorted(xs), xs tuples of one shape, of any depth -/
def rSortedM (K : PySem.W.Frag) : List V → Hp → VK → Prop := fun vs H Q => ∃ (a : Addr) (ys : List V) (ds : List PyData), vs = [V.ref a] ∧ SqL K H a ys ∧ DpAll K H ys ds ∧ PySem.W.AllAlike ds ∧ (∀ d ∈ ds, ∃ x r, d = .tuple (x :: r)) ∧ (∀ d ∈ ds, d.depth ≤ 60) ∧
  ∀ p, H p = none → Q (.ref p) (upd H p (.lst (((ys.zip ds).mergeSort (PySem.W.dataLe false Prod.snd)).map Prod.fst)))
theorem each_zip {h : Heap} : ∀ {ys : List V} {its : List Value} {ds : List PyData} {as : List Addr}, Vals ys its → ReadsAll h its ds as → PySem.W.EachIs (fun v (b : V × PyData) => RelV b.1 v ∧ ∃ as, Reads h v b.2 as) its (ys.zip ds)
  | _, _, _, _, .nil, .nil => .nil
  | _, _, _, _, .cons r1 r2, .cons h1 h2 => .cons ⟨r1, _, h1⟩ (each_zip r2 h2)
theorem each_vals : ∀ {out : List Value} {bs : List (V × PyData)}, PySem.W.EachIs (fun v (b : V × PyData) => RelV b.1 v) out bs → Vals (bs.map Prod.fst) out
  | _, _, .nil => .nil
  | _, _, .cons h t => .cons h (each_vals t)
theorem zip_snd {α β : Type} : ∀ {xs : List α} {ys : List β}, xs.length = ys.length → (xs.zip ys).map Prod.snd = ys
  | [], [], _ => rfl
  | x :: xs, y :: ys, h => by
    simp only [List.zip_cons_cons, List.map_cons]
    rw [zip_snd (by simpa using h)]
  | [], _ :: _, h => by simp at h
  | _ :: _, [], h => by simp at h
theorem dpAll_len {K : PySem.W.Frag} {H : Hp} : ∀ {ys : List V} {ds : List PyData}, DpAll K H ys ds → ys.length = ds.length
  | _, _, .nil => rfl
  | _, _, .cons _ t => by simp [dpAll_len t]
theorem cr_sortedM {X : Cx} (hu : X.A.units + 65 < cLine) : CallR X (.builtin "sorted") (rSortedM X.K) := by
  intro pins s σ H vs us Q I r h
  obtain ⟨a, ys, ds, rfl, hs, hd, hal, hk, hdp, q⟩ := h
  obtain ⟨its, rv, hl, hz⟩ := I.list hs
  rw [Vals.ref1 r]
  obtain ⟨as, ra⟩ := Dp.readsAll I ds ys its hd rv
  have ez := each_zip rv ra
  have hlen := dpAll_len hd
  have e2 : (ys.zip ds).map Prod.snd = ds := zip_snd hlen
  have el : (ys.zip ds).length = ys.length := by rw [List.length_zip]; omega
  refine PySem.W.sorted_data (R := fun v b => RelV b.1 v) (enc := Prod.snd) (bs := ys.zip ds) hl.isList (ez.mono fun _ _ h => h.1) (ez.mono fun _ _ h => h.2) (by rw [e2]; exact hal) (by rw [e2]; exact .inl hk) (by rw [el]; exact hz) (fun b hb => ?_) fun out h1 h2 => ?_
  · have : b.2 ∈ ds := by rw [← e2]; exact List.mem_map_of_mem hb
    have := hdp _ this
    omega
  · have rv2 := each_vals h2
    obtain ⟨ep, he'⟩ := PyProof.Rows.sortedAll_at s.heap its out.toArray
    have hl2 : (((ys.zip ds).mergeSort (PySem.W.dataLe false Prod.snd)).map Prod.fst).length ≤ sizeLine := by
      rw [List.length_map, List.length_mergeSort, el]; exact hz
    exact ⟨.ref _, upd H (s.heap.objs.size + 1) (.lst (((ys.zip ds).mergeSort (PySem.W.dataLe false Prod.snd)).map Prod.fst)), I.laid (t' := s.toks) (fun _ _ => PyProof.Rows.sortedAll_old) (Nat.le_succ _) ⟨hl2, out, ep, rv2, he'⟩, rfl, q _ (I.hok.fresh (Nat.le_succ _))⟩
def tupled : PyData → Bool
  | .tuple (_ :: _) => true
  | _ => false
def shapeOk (ds : List PyData) : Bool := (ds.all fun d => ds.all fun e => PySem.W.alike d e) && (ds.all tupled && ds.all fun d => decide (d.depth ≤ 60))
def sortMD (xs : List D) : List D := xs.mergeSort (PySem.W.dataLe false pyD)
def sortedMD : List D → Option D
  | [.lst _ xs] => if noOwns xs = true ∧ noTys xs = true ∧ shapeOk (pyDs xs) = true then some (.lst true (sortMD xs)) else none
  | _ => none
theorem pyDs_map : ∀ xs : List D, pyDs xs = xs.map pyD
  | [] => rfl
  | x :: xs => by rw [pyDs, pyDs_map xs]; rfl
theorem reps_zip {K : PySem.W.Frag} {G H : Hp} : ∀ {vs : List V} {xs : List D}, Reps K G H vs xs [] → ∃ L : List (V × D), L.map Prod.fst = vs ∧ L.map Prod.snd = xs ∧ ∀ p ∈ L, Rep K G H p.1 p.2 []
  | [], xs, h => by cases h; exact ⟨[], rfl, rfl, fun p hp => (by cases hp)⟩
  | v :: vs, [], h => by cases h
  | v :: vs, x :: xs, h => by
    obtain ⟨h1, h2⟩ : Rep K G H v x [] ∧ Reps K G H vs xs [] := by
      generalize e : ([] : List Addr) = L at h
      cases h with
      | cons hv hr n =>
        obtain ⟨e1, e2⟩ := List.append_eq_nil_iff.mp e.symm
        subst e1; subst e2
        exact ⟨hv, hr⟩
    obtain ⟨L, e1, e2, e3⟩ := reps_zip h2
    refine ⟨(v, x) :: L, by simp [e1], by simp [e2], fun p hp => ?_⟩
    rcases List.mem_cons.mp hp with rfl | hp
    · exact h1
    · exact e3 p hp
theorem reps_of {K : PySem.W.Frag} {G H : Hp} : ∀ {L : List (V × D)}, (∀ p ∈ L, Rep K G H p.1 p.2 []) → Reps K G H (L.map Prod.fst) (L.map Prod.snd) []
  | [], _ => .nil
  | p :: L, h => .cons (L := []) (M := []) (h p (by simp)) (reps_of fun q hq => h q (by simp [hq])) (fun a ha => nomatch ha)
theorem vok_sortedM {K : PySem.W.Frag} : VOk K (rSortedM K) sortedMD := by
  intro G H vs ds d s rl e Q q
  unfold sortedMD at e
  split at e
  · rename_i o xs
    split at e
    · rename_i hz
      cases e
      obtain ⟨v, L, rfl, r1⟩ := rl.one
      obtain ⟨a, us, L1, rfl, h1, h2, _⟩ := r1.lstInv s
      have h0 := h2.to0 hz.1
      obtain ⟨M, m1, m2, m3⟩ := reps_zip h0
      have hs := hz.2.2
      unfold shapeOk at hs
      simp only [Bool.and_eq_true, List.all_eq_true, decide_eq_true_eq] at hs
      refine ⟨a, us, pyDs xs, rfl, SqL.of h1, Reps.dp s h0 hz.2.1, fun d hd d' hd' => hs.1 d hd d' hd', fun d hd => ?_, hs.2.2, fun p hp => ?_⟩
      · have := hs.2.1 d hd
        unfold tupled at this
        split at this
        · exact ⟨_, _, rfl⟩
        · cases this
      · have ez : us.zip (pyDs xs) = M.map fun p => (p.1, pyD p.2) := by
          rw [← m1, ← m2, pyDs_map, List.map_map]
          clear m1 m2 m3
          induction M with
          | nil => rfl
          | cons p M ih => simp only [List.map_cons, List.zip_cons_cons, ih, Function.comp_apply]
        have e1 : ((us.zip (pyDs xs)).mergeSort (PySem.W.dataLe false Prod.snd)) = (M.mergeSort (PySem.W.dataLe false fun p => pyD p.2)).map fun p => (p.1, pyD p.2) := by
          rw [ez]
          exact (List.map_mergeSort (r := PySem.W.dataLe false fun p : V × D => pyD p.2) (s := PySem.W.dataLe false Prod.snd) (f := fun p : V × D => (p.1, pyD p.2)) (l := M) fun a _ b _ => rfl).symm
        have e2 : sortMD xs = (M.mergeSort (PySem.W.dataLe false fun p => pyD p.2)).map Prod.snd := by
          unfold sortMD
          rw [← m2]
          exact (List.map_mergeSort (r := PySem.W.dataLe false fun p : V × D => pyD p.2) (s := PySem.W.dataLe false pyD) (f := Prod.snd) (l := M) fun a _ b _ => rfl).symm
        have rs : Reps K G H ((M.mergeSort (PySem.W.dataLe false fun p => pyD p.2)).map Prod.fst) (sortMD xs) [] := by
          rw [e2]
          exact reps_of fun p hp => m3 p ((List.mergeSort_perm M _).mem_iff.mp hp)
        have e3 : (((us.zip (pyDs xs)).mergeSort (PySem.W.dataLe false Prod.snd)).map Prod.fst) = (M.mergeSort (PySem.W.dataLe false fun p => pyD p.2)).map Prod.fst := by
          rw [e1, List.map_map]; rfl
        rw [e3]
        obtain ⟨t, rr⟩ := new_lst s hp rs
        exact q _ _ _ _ t rr
    · cases e
  · cases e
end VS
set_option Elab.async false
set_option linter.all false
set_option maxRecDepth 100000
namespace VS
open PySem PySem.Spec PyProof.Rows L2 RZ
/-! ### defs with a star parameter: what is left over is a new tuple -/
def spStar (K : PySem.W.Frag) (fn : Fn) (na : Nat) : Sp := fun vs H Q E => ∃ ws rest, vs = ws ++ rest ∧ ws.length = na ∧ rest.length ≤ sizeLine ∧ ∀ p, H p = Option.none → spOf K fn (ws ++ [V.ref p]) (upd H p (.tup rest)) Q E
section
variable {P : Program} {w : World} {K : PySem.W.Frag} {mg : Str → Option Value} {base : Heap}
end
def starD (fn : Fn) (na : Nat) : List D → Option D := fun ds => if noOwns ds = true ∧ na ≤ ds.length ∧ ds.length ≤ smallL then (fn.sem (ds.take na ++ [.tup (ds.drop na)])).bind fun q => if flat1 q.1 = true then some q.1 else none else none
theorem RepL.to0 {K : PySem.W.Frag} {G H : Hp} : ∀ {vs : List V} {ds : List D}, RepL K G H vs ds → noOwns ds = true → Reps K G H vs ds []
  | _, _, .nil, _ => .nil
  | _, _, .cons h r, hn => by
    simp only [noOwns, Bool.and_eq_true] at hn
    have e := h.noL hn.1
    subst e
    exact .cons (L := []) (M := []) h (RepL.to0 r hn.2) (fun a ha => nomatch ha)
section
variable {X : Cx} {k na : Nat} {f : Addr} {fn : Fn} {x : Str} {p pos : Pos} {e : Expr} {es : List Expr} {o : Op} {ops : List Op}
end
end VS
set_option Elab.async false
set_option linter.all false
set_option maxRecDepth 100000
namespace VS
open PySem PySem.Spec PyProof.Rows L2 RZ
/-! ### x[i] op= e, of whole numbers, x a list of its own -/
def elemI : List D → Option D → Option (Int × Int)
  | [.int i], some (.lst true xs) => match atI xs i with
    | some (.int a) => some (i, a)
    | _ => none
  | _, _ => none
def intA1 : List D → Option Int
  | [.int b] => some b
  | _ => none
def augSF (k : Nat) (oi : Op) (f : Int → Int → Int) (o : Op) : FS := fun ρ => (getS ρ k).bind fun _ => (evOps [oi] ρ).bind fun p => (fetch [oi] p.1 p.2).bind fun is => (elemI is (getS p.2 k)).bind fun ix =>
  (evOps [o] p.2).bind fun p2 => (fetch [o] p2.1 p2.2).bind fun ds => (intA1 ds).bind fun b => (tgSub k (.t (litF (.int ix.1))) (.int (f ix.2 b)) p2.2).bind fun ρ' => some (.nx ρ')
section
variable {K : PySem.W.Frag} {pn : Nat → Bool} {W : WX}
end
section
variable {X : Cx} {pn : Nat → Bool} {W : WX} {o i e : Expr} {tpos pos : Pos}
end
end VS
set_option Elab.async false
set_option linter.all false
set_option maxRecDepth 100000
namespace VS
open PySem PySem.Spec PyProof.Rows L2 RZ
/-! ### for x in reversed(xs), reversed(range(..)); a name of the module that holds a tuple of whole numbers -/
def itRev (f : FE) : FI := fun ρ => (f ρ).bind fun p => (seqD p.1).bind fun xs => some (xs.reverse, p.2)
section
variable {K : PySem.W.Frag} {pn : Nat → Bool} {W : WX}
end
section
variable {X : Cx} {tg e : Expr} {p p2 pos pos2 : Pos}
def GTup (K : PySem.W.Frag) (mg : Str → Option Value) (x : Str) (ns : List Int) : Prop := ∃ a, mg x = some (.ref a) ∧ ∀ G H, Rep K G H (.ref a) (.tup (ns.map D.int)) []
end
end VS
set_option Elab.async false
set_option linter.all false
set_option maxRecDepth 100000
namespace VS
open PySem PySem.Spec PyProof.Rows L2 RZ
/-! ### divmod -/
def dvmOk (j : Int) : Bool := decide (j ≠ 0 ∧ j.natAbs.log2 < 9000)
def rDvm : List V → Hp → VK → Prop := fun xs H Q => ∃ i j, xs = [.int i, .int j] ∧ (j ≠ 0 ∧ j.natAbs.log2 < 9000) ∧ ∀ p, H p = none → Q (.ref p) (upd H p (.tup [.int (i.fdiv j), .int (i.fmod j)]))
def dvmD : List D → Option D
  | [.int i, .int j] => if dvmOk j = true then some (.tup [.int (i.fdiv j), .int (i.fmod j)]) else none
  | _ => none
/-! ### any of whole numbers -/
def rAnyI (K : PySem.W.Frag) : List V → Hp → VK → Prop := fun vs H Q => ∃ (a : Addr) (ns : List Int), vs = [V.ref a] ∧ SqL K H a (ns.map V.int) ∧ Q (.bl (ns.any fun n => n != 0)) H
def anyID : List D → Option D
  | [.lst _ xs] => (intsOf xs).bind fun ns => some (.bl (ns.any fun n => n != 0))
  | _ => none
end VS
set_option Elab.async false
set_option linter.all false
set_option maxRecDepth 100000
namespace VS
open PySem PySem.Spec PyProof.Rows L2 RZ
/-! ### a value that is frozen as soon as it is made -/
def frzF (f : FE) : FE := fun ρ => (f ρ).bind fun p => some (freeze p.1, p.2)
section
variable {K : PySem.W.Frag} {X : Cx} {e : Expr}
theorem simE_frzF {te : TE} {f : FE} (h : SimE K te f) : SimE K te (frzF f) := by
  intro ρ d ρ' e σ G H F r Q q
  obtain ⟨p, e1, e2⟩ := Option.bind_eq_some_iff.mp e
  cases e2
  refine h ρ p.1 p.2 e1 σ G H F r Q fun v G' H' F' L t r' hr n => ?_
  obtain ⟨G1, t1, r1, hr1⟩ := r'.frz hr n
  exact q v G1 H' F' [] ((t.trans t1).post fun a h => h.elim id fun z => nomatch z) r1 hr1 (fun a z => nomatch z)
theorem pf_frz {f : FE} (h : PEf X e f) : PEf X e (frzF f) := by
  obtain ⟨te, p, s⟩ := (po_t h).ex
  exact .mk p (simE_frzF s)
end
end VS
set_option Elab.async false
set_option linter.all false
set_option maxRecDepth 100000
namespace VS
open PySem PySem.Spec PyProof.Rows L2
/-! ### defs with defaults, and calls that leave them out -/
/-- a def whose defaults are whole numbers -/
abbrev FunDf (K : PySem.W.Frag) (x : Str) (st : Stmt) (dis : List Int) (f : Addr) (fd : FuncData) : Prop := FunD K x x (defArgs st) (defBody st) (defScope st) (dis.map V.int) [] f fd
section
variable {P : Program} {w : World} {K : PySem.W.Frag} {mg : Str → Option Value} {base : Heap}
end
/-! list(the script) -/
def listSD : List D → Option D
  | [.scr ns] => some (.lst true (ns.map .int))
  | _ => none
theorem OpsOk.snoc {K : PySem.W.Frag} {G H : Hp} {σ : L2.St} {i : Int} : ∀ {ops : List Op} {ts : List (Option D)} {vs : List V} {M : List Addr}, OpsOk K G H σ ops ts vs M → OpsOk K G H σ (ops ++ [.t (litF (.int i))]) (ts ++ [some (.int i)]) (vs ++ [V.int i]) M
  | _, _, _, _, .nil => .t (L := []) (.int i) (fun a z => nomatch z) .nil
  | _, _, _, _, .b h r => .b h r.snoc
  | _, _, _, _, .t hr hn r => .t hr hn r.snoc
section
variable {X : Cx} {k : Nat} {f : Addr} {fd : FuncData} {ps : List Str} {fn : Fn} {x : Str} {p pos : Pos} {e : Expr} {es : List Expr} {ops : List Op} {i : Int}
end
/-! ### asked by keywords, nothing handed on -/
def callRdKF (fn : Fn) (is : List Nat) (ops : List Op) : FE := fun ρ => (evOps ops ρ).bind fun p => (fetch ops p.1 p.2).bind fun ds => (fn.sem (permL is (freezes ds))).bind fun q => if flat1 q.1 = true then some (q.1, p.2) else none
section
variable {X : Cx} {k : Nat} {f : Addr} {fd : FuncData} {ps ks : List Str} {fn : Fn} {x : Str} {p pos : Pos} {e : Expr} {es : List Expr} {kws : List Keyword} {ops kops : List Op} {is : List Nat}
end
end VS
set_option Elab.async false
set_option linter.all false
set_option maxRecDepth 100000
namespace VS
open PySem PySem.Spec PyProof.Rows L2
/-! ### what is raised: its class by name, its value, the data behind -/
abbrev RX := Env → Option (Str × D × Env)
section
variable (K : PySem.W.Frag) (W : WX)
def PostXE (σ : L2.St) (G H : Hp) (A : Addr → Prop) (n : Str) (d : D) (ρ' : Env) : Prop := ∀ G' H' F' (C dd : Addr) (v : V), Tr G H A G' H' (own F') → REnv K G' H' σ ρ' F' → ClsAt K n C → G' dd = some (.xd [(("value" : Str), v)]) → Rep K G' H' v d [] → W (.ref C) (some dd) σ H'
def RzAt (g : RX) (σ : L2.St) (H : Hp) : Prop := ∃ ρ n d ρ' G F, g ρ = some (n, d, ρ') ∧ REnv K G H σ ρ F ∧ PostXE K W σ G H (own F) n d ρ'
def teX (g : RX) : TE := fun σ H _ => RzAt K W g σ H
def ttX (g : RX) : TT := fun σ H _ => RzAt K W g σ H
def taX (g : RX) : TA := fun σ H _ => RzAt K W g σ H
def tiX (g : RX) : TI := fun σ H _ => RzAt K W g σ H
def tsX (g : RX) : TS := fun _ σ H => RzAt K W g σ H
end
section
variable (X : Cx) (W : WX)
abbrev PEx (e : Expr) (g : RX) : Prop := PE X e (teX X.K W g)
abbrev PTx (e : Expr) (g : RX) : Prop := PT X e (ttX X.K W g)
abbrev PAx (es : List Expr) (g : RX) : Prop := PA X es (taX X.K W g)
abbrev PIx (tg e : Expr) (g : RX) : Prop := PI X tg e (tiX X.K W g)
abbrev PSx (st : Stmt) (g : RX) : Prop := PS X st (tsX X.K W g)
end
def orR (g h : RX) : RX := fun ρ => match g ρ with
  | some q => some q
  | none => h ρ
def thenR (o : Op) (g : RX) : RX := fun ρ => (evOps [o] ρ).bind fun p => g p.2
def thenT (c : FB) (g h : RX) : RX := fun ρ => (c ρ).bind fun p => if p.1 = true then g p.2 else h p.2
def noR : RX := fun _ => none
/-- a statement, and what it may raise -/
def orX (f : FS) (g : RX) : FS := fun ρ => match f ρ with
  | some o => some o
  | none => (g ρ).bind fun q => some (.rz q.1 q.2.1 q.2.2)
section
variable {K : PySem.W.Frag} {W : WX} {σ : L2.St} {H : Hp}
theorem RzAt.or {g h : RX} (r : RzAt K W (orR g h) σ H) : RzAt K W g σ H ∨ RzAt K W h σ H := by
  obtain ⟨ρ, n, d, ρ', G, F, e, r, q⟩ := r
  unfold orR at e
  cases hg : g ρ with
  | some q0 =>
    rw [hg] at e
    exact .inl ⟨ρ, n, d, ρ', G, F, hg.trans e, r, q⟩
  | none =>
    rw [hg] at e
    exact .inr ⟨ρ, n, d, ρ', G, F, e, r, q⟩
theorem RzAt.no {g : Prop} (r : RzAt K W noR σ H) : g := by
  obtain ⟨ρ, n, d, ρ', G, F, e, r, q⟩ := r
  cases e
theorem PostXE.mono {n : Str} {d : D} {ρ' : Env} {G H G1 H1 : Hp} {A A1 : Addr → Prop} (q : PostXE K W σ G H A n d ρ') (t : Tr G H A G1 H1 A1) : PostXE K W σ G1 H1 A1 n d ρ' :=
  fun G' H' F' C dd v t' r' => q G' H' F' C dd v (t.trans t') r'
end
section
variable {X : Cx} {pn : Nat → Bool} {W : WX} {e a b : Expr} {es : List Expr} {pos : Pos} {g h : RX}
/-! arguments -/
/-! operations -/
/-! tests -/
/-! statements -/
end
end VS
set_option Elab.async false
set_option linter.all false
set_option maxRecDepth 100000
namespace VS
open PySem PySem.Spec PyProof.Rows L2
/-! ### defs that may raise -/
abbrev Rz := List D → Option (Str × D × List (Option D))
def bodyRz (nN np : Nat) (pins : List Bool) (f : FS) : Rz := fun ds =>
  if ds.length = np then match f (ds.map some ++ List.replicate (nN - np) none) with
    | some (.rz n d ρ) => some (n, d, finP pins ρ)
    | _ => none
  else none
def spRz (K : PySem.W.Frag) (np : Nat) (rz : Rz) (vs : List V) (H : Hp) (E : XK) : Prop := ∃ G ds L n d os, Same G H ∧ Reps K G H vs ds L ∧ vs.length = np ∧ rz ds = some (n, d, os) ∧
  ∀ (C dd : Addr) (v : V) G' H' P, Tr G H (fun a => a ∈ L) G' H' (fun a => a ∈ P) → ROs K G' H' vs os P → ClsAt K n C → G' dd = some (.xd [(("value" : Str), v)]) → Rep K G' H' v d [] → E (.ref C) (some dd) H'
/-- the promise of a def that may raise -/
def spX (K : PySem.W.Frag) (fn : Fn) (rz : Rz) : Sp := fun vs H Q E => spOf K fn vs H Q E ∨ spRz K fn.np rz vs H E
section
variable {P : Program} {w : World} {K : PySem.W.Frag} {mg : Str → Option Value} {base : Heap}
end
/-! ### calls that may raise -/
def rzF (pins : List Bool) (rz : Rz) (ops : List Op) : RX := fun ρ => (evOps ops ρ).bind fun p => (fetchC pins ops p.1 p.2).bind fun c => (rz c.1).bind fun q => some (q.1, q.2.1, putB ops c.1 q.2.2 c.2)
def rzKF (pins : List Bool) (rz : Rz) (is : List Nat) (ops : List Op) : RX := fun ρ => (evOps ops ρ).bind fun p => (fetchC pins (permL is ops) (permL is p.1) p.2).bind fun c => (rz c.1).bind fun q => some (q.1, q.2.1, putB (permL is ops) c.1 q.2.2 c.2)
section
variable {K : PySem.W.Frag} {W : WX}
end
section
variable {X : Cx} {W : WX} {k : Nat} {f : Addr} {fd : FuncData} {ps ks : List Str} {fn : Fn} {rz : Rz} {x : Str} {p pos : Pos} {e : Expr} {es : List Expr} {ops kops : List Op} {kws : List Keyword}
end
end VS
set_option Elab.async false
set_option linter.all false
set_option maxRecDepth 100000
namespace VS
open PySem PySem.Spec PyProof.Rows L2
/-! ### MatError's __init__ -/
def spInit (K : PySem.W.Frag) : Sp := fun vs H Q _ => ∃ (a C : Addr) (v : V), vs = [.ref a, v] ∧ OexC K C ∧ PySem.W.findIn K (.ref C) "value" = some none ∧ H a = some (exo a C none) ∧
  ∀ dx, H dx = none → dx ≠ a → Q .non (upd (upd H dx (exd dx [(("value" : Str), v)])) a (exo a C (some dx)))
/-! ### raise C(e) -/
def raiseF (n : Str) (f : FE) : FS := fun ρ => (f ρ).bind fun p => if noOwn p.1 = true then some (.rz n p.1 p.2) else none
/-- what the written part says of an own exception class -/
structure ExT (K : PySem.W.Frag) (mg : Str → Option Value) (n : Str) (C : Addr) : Prop where
  at_ : ClsAt K n C
  mg_ : mg n = some (.ref C)
  oex : OexC K C
  ga : PySem.W.findIn K (.ref C) "__getattribute__" = some (some (.builtin "BaseException.__getattribute__"))
  gg : PySem.W.findIn K (.ref C) "__getattr__" = some none
  no : PySem.W.findIn K (.ref C) "value" = some none
  hd : PySem.W.hasDictIn K C = true
  cl : (PySem.W.clsIn K C).isSome = true
  ha : PySem.W.findIn K (.ref C) "__class__" = some (some (.builtin "object.__class__"))
  hn : PySem.W.specialIn K (.builtin "object.__class__") "__get__" = some (some (.builtin "getset_descriptor.__get__"))
  ht : PySem.W.takesIn K (.builtin "object.__class__") = some true
  hm : PySem.W.mroIn K C (.type "object") = some true
section
variable {X : Cx} {pn : Nat → Bool} {W : WX} {e : Expr} {x : Str} {p pos pos2 : Pos} {C fI : Addr} {fdI : FuncData}
end
/-! ### e.value, isinstance of what was caught -/
def ExN (K : PySem.W.Frag) (mg : Str → Option Value) (ns : List Str) : Prop := ∀ n, n ∈ ns → ∃ C, ExT K mg n C
/-- what is said of the classes with these names -/
def AllC (K : PySem.W.Frag) (ns : List Str) (P : Str → Addr → Prop) : Prop := ∀ n, n ∈ ns → ∀ C, ClsAt K n C → P n C
def subB (n c : Str) : Bool := n == c || c == "MatError" || c == "ValueError" || c == "Exception"
def excValD (ns : List Str) : List D → Option D
  | [.exc n d] => if ns.contains n = true then some d else none
  | _ => none
def rExcVal (K : PySem.W.Frag) : V → Hp → VK → Prop := fun x H Q => ∃ (a C dd : Addr) (v : V), x = .ref a ∧ H a = some (ExV a C dd) ∧ H dd = some (.xd [(("value" : Str), v)]) ∧ XfC K C ∧ PySem.W.findIn K (.ref C) "value" = some none ∧ Q v H
theorem ExN.get {K : PySem.W.Frag} {mg : Str → Option Value} {ns : List Str} {n : Str} {C : Addr} (T : ExN K mg ns) (h : ns.contains n = true) (hC : ClsAt K n C) : ExT K mg n C := by
  obtain ⟨D, h⟩ := T n (by simpa using h)
  have := h.at_
  unfold ClsAt at this hC
  rw [hC] at this
  cases this
  exact h
/-- isinstance(x, c), x None or what was caught -/
def isXD (ns : List Str) (c : Str) : List D → Option D
  | [.exc n _] => if ns.contains n = true then some (.bl (subB n c)) else none
  | [.non] => some (.bl false)
  | _ => none
def rIsX (K : PySem.W.Frag) : List V → Hp → VK → Prop := fun xs H Q => ∃ x c cv, xs = [x, c] ∧ ClsV c cv ∧ ((x = .non ∧ PySem.W.kitOne K (.type "NoneType") cv = some false ∧ Q (.bl false) H) ∨
  ∃ (a C dd : Addr) (mg : Str → Option Value) (n : Str) (fs : List (Str × V)) (b : Bool), x = .ref a ∧ H a = some (ExV a C dd) ∧ H dd = some (.xd fs) ∧ ExT K mg n C ∧ PySem.W.kitOne K (.ref C) cv = some b ∧ Q (.bl b) H)
end VS
set_option Elab.async false
set_option linter.all false
set_option maxRecDepth 100000
set_option maxHeartbeats 2000000
namespace VS
open PySem PySem.Spec PyProof.Rows L2
/-! ### try: body, except c as n: suite, .. -/
/-- a clause: the class, the slot of its name (if it has one), its suite's reading -/
abbrev HdT := Value × Option Nat × (Addr → TS)
def endsOf (D : Ends) : Option Nat → Ends
  | some i => { nx := fun σ' H' => D.nx (σ'.set i none) H', rt := D.rt, bk := fun σ' H' => D.bk (σ'.set i none) H', ct := fun σ' H' => D.ct (σ'.set i none) H' }
  | none => D
def stOf (σ : L2.St) (a : Addr) : Option Nat → L2.St
  | some i => σ.set i (some (.ref a))
  | none => σ
def wTry (K : PySem.W.Frag) (Wout : WX) (D : Ends) : List HdT → WX
  | [] => Wout
  | (c, i, ts) :: r => fun cls d σ H => ∃ C dd, cls = .ref C ∧ d = some dd ∧ ∃ b, PySem.W.exmOne K cls c = some b ∧ (b = true → ∀ a, H a = none → ts a (endsOf D i) (stOf σ a i) (upd H a (ExV a C dd))) ∧ (b = false → wTry K Wout D r cls d σ H)
inductive HdsT (X : Cx) : List ExceptHandler → List HdT → Prop
  | nil : HdsT X [] []
  | as {x n : Str} {c : Value} {i : Nat} {ts : Addr → TS} {b₀ : Stmt} {suite : List Stmt} {np pos' : Pos} {hds : List ExceptHandler} {l : List HdT} (hi : X.N[i]? = some n) (hln : X.env.kindOf n = some .local) (hc : Names X x c)
      (hsu : ∀ (a : Addr) (pn : List (Addr × Obj)), PSs (X.suite a pn) (b₀ :: suite) (ts a)) (r : HdsT X hds l) : HdsT X (.ExceptHandler (some (.Name x np)) (some n) (b₀ :: suite) pos' :: hds) ((c, some i, ts) :: l)
  | only {x : Str} {c : Value} {ts : Addr → TS} {b₀ : Stmt} {suite : List Stmt} {np pos' : Pos} {hds : List ExceptHandler} {l : List HdT} (hc : Names X x c)
      (hsu : ∀ (a : Addr) (pn : List (Addr × Obj)), PSs (X.suite a pn) (b₀ :: suite) (ts a)) (r : HdsT X hds l) : HdsT X (.ExceptHandler (some (.Name x np)) none (b₀ :: suite) pos' :: hds) ((c, none, ts) :: l)
section
variable {X : Cx} {pins : List (Addr × Obj)} {σ : L2.St} {H : Hp} {sI s s' : Shared} {B : Heap}
end
section
variable {X : Cx} {body : List Stmt} {h₀ : ExceptHandler} {hds : List ExceptHandler} {l : List HdT} {pos : Pos} {tb : WX → TS} {Wout : WX}
end
end VS
set_option Elab.async false
set_option linter.all false
set_option maxRecDepth 100000
set_option maxHeartbeats 2000000
namespace VS
open PySem PySem.Spec PyProof.Rows L2
/-! ### a pair is unpacked while an exception is handled -/
section
variable {prog : Program} {w : World} {A : Around} {E : Value → Shared → Prop} {s : Shared}
theorem next_end_hot {it t x1 : Addr} {i : Nat} {items} {Q : Option Value → Shared → Prop} (hot : HotX.HotAt A x1 s.heap) (nx : x1 ≠ it)
    (hit : IsTupIter s.heap it t i) (ht : IsTup s.heap t items) (hx : items[i]? = none)
    (hQ : ∀ h', Heap.ExtBut it s.heap h' → Q none { s with heap := h' }) : wpAny (model prog w) A (pyNext (.ref it)) Q E s := by
  obtain ⟨o, ho, hc, hd⟩ := id hit
  obtain ⟨ol, hol, _, nl, hdl⟩ := ht
  obtain ⟨hh, o1, vs1, h1, d1, c1⟩ := hot
  unfold pyNext
  refine wpAny_bind (wpAny_attempt (wpAny_callSpecial?_slot (name := Str.ofString "__next__") hit.typeIs slot_tupleiter_next
    (wpAny_call_entry slot_tupleiter_next hit.typeIs entry_tupleiter_next ?_ (args_tupleiter_next _))))
  show wpAny _ _ (field (.ref it) 0 >>= _) _ _ s
  refine wpAny_bind (wpAny_field ho hd (x := .ref t) rfl ?_)
  show wpAny _ _ (if (Value.ref t == Value.none) = true then _ else _) _ _ s
  rw [if_neg (show ¬ ((Value.ref t == Value.none) = true) from Bool.false_ne_true)]
  show wpAny _ _ (field (.ref it) 1 >>= _) _ _ s
  refine wpAny_bind (wpAny_field ho hd (x := .int i 0) rfl ?_)
  show wpAny _ _ (seqItems? (.ref t) >>= _) _ _ s
  refine wpAny_bind (wpAny_seqItems hol hdl ?_)
  simp only [Int.toNat_natCast, hx]
  refine wpAny_bind (wpAny_rule (wpAny_bind (wpAny_setField ho hd (by simp) ?_)))
  show wpAny _ _ (newExc (.type "StopIteration") [] >>= _) _ _ _
  refine wpAny_bind ?_
  simp only [newExc, newTuple]
  refine wpAny_bind (wpAny_newObj_type ?_ (by size_fits))
  refine wpAny_bind (m := firstArgMember _ _) (wpAny_of_eq (a := Value.none) (by first | rfl | (simp only [firstArgMember]; rfl)) ?_)
  refine wpAny_newObj_type ?_ (by size_fits)
  have h1' : ∀ f, (s.heap.update it f).get? x1 = some o1 := fun f => (Heap.get?_update_other _ _ (Ne.symm nx)).trans h1
  refine HotX.raiseNew_hot ⟨hh, o1, vs1, Heap.get?_push_of_some _ (Heap.get?_push_of_some _ (h1' _)), d1, c1⟩ (Nat.ne_of_lt (Heap.lt_size (Heap.get?_push_of_some _ (h1' _)))) (Heap.get?_push_size _ rfl) rfl (by first | (simp; done) | (simp; omega) | (simp only [Array.size_append]; simp; omega)) ?_
  refine wpAny_bind (wpAny_isInstance (T := "StopIteration") (b := true) ⟨_, Heap.get?_update_self _ (Heap.get?_push_size _ rfl) rfl, rfl⟩ isSubtype_stop ?_)
  refine wpAny_pure (hQ _ fun b o hb e => ?_)
  have e0 : ∀ f, (s.heap.update it f).get? b = some o := fun f => (Heap.get?_update_other _ _ (Ne.symm hb)).trans e
  rw [Heap.get?_update_other _ _ (Nat.ne_of_gt (Heap.lt_size (Heap.get?_push_of_some _ (e0 _))))]
  exact Heap.get?_push_of_some _ (Heap.get?_push_of_some _ (e0 _))
theorem unpack_hot {t x1 : Addr} {items : Array Value} {Q : List Value → Shared → Prop} (hot : HotX.HotAt A x1 s.heap) (ht : IsTup s.heap t items)
    (hQ : ∀ h', Heap.ExtBut s.heap.objs.size s.heap h' → Q items.toList { s with heap := h' }) : wpAny (model prog w) A (unpackItems (.ref t) items.size none) Q E s := by
  have hlt : t ≠ s.heap.objs.size := by obtain ⟨o, ho, _⟩ := ht; exact Nat.ne_of_lt (Heap.lt_size ho)
  obtain ⟨hh, o1, vs1, h1, d1, c1⟩ := hot
  have nx : x1 ≠ s.heap.objs.size := Nat.ne_of_lt (Heap.lt_size h1)
  unfold unpackItems
  refine wpAny_bind ?_
  · unfold notIterableAtAll
    refine wpAny_bind (wpAny_specialOf ht.typeIs slot_tuple_iter.lookup ?_)
    refine wpAny_pure ?_
    simp only [Bool.false_eq_true, if_false]
    refine wpAny_bind (wpAny_holding (iter_tuple ht ?_))
    refine wpAny_bind (wpAny_holding (draw_tuple hlt items.size 0 _ _ ⟨_, Heap.get?_push_size _ rfl, rfl, rfl⟩ (ht.push _) (by omega) fun h₁ hit₁ hs₁ => ?_))
    rw [show List.take items.size (List.drop 0 items.toList) = items.toList by rw [List.drop_zero]; exact List.take_of_length_le (by simp), if_neg (by simp)]
    have ht₁ : IsTup h₁ t items := (ht.push _).extBut hs₁.extBut hlt
    have h1₁ : h₁.get? x1 = some o1 := hs₁.extBut x1 o1 nx (Heap.get?_push_of_some _ h1)
    refine wpAny_bind (wpAny_holding (next_end_hot (x1 := x1) ⟨hh, o1, vs1, h1₁, d1, c1⟩ nx hit₁ ht₁ (by simp) fun h₂ he₂ => ?_))
    simp only [Option.isSome_none, Bool.false_eq_true, if_false]
    exact wpAny_pure (hQ h₂ fun b o hb e => he₂ b o hb (hs₁.extBut b o hb (Heap.get?_push_of_some _ e)))
end
/-- a, b = x, y in an except suite: the caught exception stands as it was made -/
def tParH (a : Addr) (i j : Nat) (ta : TA) : TS := fun D σ H => ta σ H fun vs H1 => ∃ v w, vs = [v, w] ∧ (∃ C dd, H1 a = some (ExV a C dd)) ∧ D.nx ((σ.set i (some v)).set j (some w)) H1
theorem ps_parH {X : Cx} {a : Addr} {pn : List (Addr × Obj)} {pos : Pos} {i j : Nat} {x y : Str} {e1 e2 : Expr} {ta : TA} {px py pt : Pos} {kt k2 pt2} (hN : X.N.Nodup) (hi : X.N[i]? = some x) (hj : X.N[j]? = some y) (hij : i ≠ j)
    (hx : X.env.scope.names.lookup x = some .local) (hy : X.env.scope.names.lookup y = some .local) (ha : PA (X.suite a pn) [e1, e2] ta)
    (hw : swappedStores [.Tuple [.Name x px, .Name y py] kt pt] (.Tuple [e1, e2] k2 pt2) X.env = pure (some [x, y]))
    (hs : swapsWithSole [.Tuple [.Name x px, .Name y py] kt pt] (.Tuple [e1, e2] k2 pt2) pos.line X.env = pure false) :
    PS (X.suite a pn) (.Assign [.Tuple [.Name x px, .Name y py] kt pt] (.Tuple [e1, e2] k2 pt2) pos) (tParH a i j ta) := by
  refine ⟨fun pins s σ H D I h => ?_⟩
  rw [exec_Assign_arm]
  refine wpAny_bind (wpAny_standAt ?_)
  rw [show swapsWithSole [.Tuple [.Name x px, .Name y py] kt pt] (.Tuple [e1, e2] k2 pt2) pos.line (X.suite a pn).env = pure false from hs]
  refine wpAny_bind (wpAny_pure ?_)
  rw [if_neg (by decide)]
  refine wpAny_bind (Tuple_ (thn (ha.run _ pins s σ H _ I h) fun us s1 ⟨vs, H1, I1, r1, q1⟩ => ?_))
  obtain ⟨v, w, ev, ⟨C, dd, hx1⟩, q1⟩ := q1
  subst ev
  obtain ⟨u1, u2, rfl, rv, rw'⟩ : ∃ u1 u2, us = [u1, u2] ∧ RelV v u1 ∧ RelV w u2 := by
    cases r1 with
    | cons p q =>
      cases q with
      | cons p' q' =>
        cases q'
        exact ⟨_, _, rfl, p, p'⟩
  refine wpAny_newObj_type ?_ (by show 2 ≤ sizeLine; decide)
  have I2 : Inv (X.suite a pn) pins σ H1 { s1 with heap := s1.heap.push { cls := .type "tuple", data := .seq [u1, u2].toArray } } := I1.kept (t' := s1.toks) fun b o e => Heap.get?_push_of_some _ e
  have hot : HotX.HotAt (X.suite a pn).A a (s1.heap.push { cls := .type "tuple", data := .seq [u1, u2].toArray }) := by
    obtain ⟨⟨oe, vs, ge, z, d⟩, _⟩ := I2.hok a _ hx1
    exact ⟨rfl, oe, vs, ge, d, z.2.2 vs d⟩
  rw [show swappedStores [.Tuple [.Name x px, .Name y py] kt pt] (.Tuple [e1, e2] k2 pt2) (X.suite a pn).env = pure (some [x, y]) from hw]
  refine wpAny_bind (wpAny_pure ?_)
  show wpAny (model X.prog X.w) (X.suite a pn).A (do rule "assign.swapped-stores"; let items ← unpackItems (.ref s1.heap.objs.size) 2 none; assignInOrder [fun v => bindName X.env y v, fun v => bindName X.env x v] items.reverse; pure Flow.next) _ _ _
  refine wpAny_bind (wpAny_rule (wpAny_bind (unpack_hot (items := #[u1, u2]) hot (IsTup.new s1.heap _) fun h' hx' => ?_)))
  have I3 := I2.kept (h' := h') (t' := s1.toks) fun b o e => hx' b o (Nat.ne_of_lt (Heap.lt_size e)) e
  show wpAny _ _ (assignInOrder [fun v => bindName X.env y v, fun v => bindName X.env x v] [u2, u1] >>= fun _ => pure Flow.next) _ _ _
  refine wpAny_bind (assignInOrder_cons (wpAny_bindName (store_ok (X := X.suite a pn) I3 hN hj (.inl hy) rw' (fun s2 I4 => ?_) (.inr hy))))
  refine assignInOrder_cons (wpAny_bindName (store_ok (X := X.suite a pn) I4 hN hi (.inl hx) rv (fun s3 I5 => assignInOrder_nil (wpAny_pure ?_)) (.inr hx)))
  rw [List.set_comm _ _ (Ne.symm hij)] at I5
  exact ⟨_, H1, I5, q1⟩
end VS
set_option Elab.async false
set_option linter.all false
set_option maxRecDepth 100000
namespace VS
open PySem PySem.Spec PyProof.Rows L2
/-! ### try by its data: a clause: its class's name, the slot of its name, its suite -/
abbrev HdF := Str × Option Nat × FS
def clrO (i : Option Nat) : Out → Option Out
  | .nx ρ => some (.nx (match i with | some i => ρ.set i none | none => ρ))
  | .bk ρ => some (.bk (match i with | some i => ρ.set i none | none => ρ))
  | .ct ρ => some (.ct (match i with | some i => ρ.set i none | none => ρ))
  | .rt d ρ => some (.rt d ρ)
  | .rz _ _ _ => none
def putE (ρ : Env) (n : Str) (d : D) : Option Nat → Env
  | some i => ρ.set i (some (.exc n d))
  | none => ρ
def goHd (ns : List Str) (n : Str) (d : D) (ρ : Env) : List HdF → Option Out
  | [] => some (.rz n d ρ)
  | (c, i, f) :: r => if ns.contains n = true then (if subB n c = true then (f (putE ρ n d i)).bind (clrO i) else goHd ns n d ρ r) else none
def tryF (ns : List Str) (body : FS) (hs : List HdF) : FS := fun ρ => (body ρ).bind fun o => match o with
  | .rz n d ρ1 => goHd ns n d ρ1 hs
  | o => some o
def tryT (tb : WX → TS) (K : PySem.W.Frag) (Wout : WX) (l : List HdT) : TS := fun D σ H => tb (wTry K Wout D l) D σ H
section
variable {K : PySem.W.Frag} {pn : Nat → Bool} {W : WX}
/-- a suite's reading: the caught exception stands frozen at a -/
def SimH (K : PySem.W.Frag) (pn : Nat → Bool) (a : Addr) (ts : TS) (f : FS) : Prop := ∀ ρ o, f ρ = some o → ∀ (σ : L2.St) (G H : Hp) (F : Nat → List Addr), REnv K G H σ ρ F → (∃ C dd, G a = some (ExV a C dd)) → ∀ E : Ends, Post K pn noW σ G H (own F) E o → ts E σ H
theorem SimH.of {a : Addr} {ts : TS} {f : FS} (h : SimS K pn noW ts f) : SimH K pn a ts f := fun ρ o e σ G H F r _ E q => h ρ o e σ G H F r E q
inductive HdS (K : PySem.W.Frag) (pn : Nat → Bool) (ns : List Str) : List HdT → List HdF → Prop
  | nil : HdS K pn ns [] []
  | cons {c : Str} {cv : Value} {i : Option Nat} {ts : Addr → TS} {f : FS} {l : List HdT} {hs : List HdF} (hi : ∀ j, i = some j → pn j = false) (hx : AllC K ns fun n C => PySem.W.exmOne K (.ref C) cv = some (subB n c)) (h : ∀ a, SimH K pn a (ts a) f) (r : HdS K pn ns l hs) : HdS K pn ns ((cv, i, ts) :: l) ((c, i, f) :: hs)
end
/-- the clauses by their text -/
inductive HdP (X : Cx) (pn : Nat → Bool) (ns : List Str) : List ExceptHandler → List HdF → Prop
  | nil : HdP X pn ns [] []
  | as {x n c : Str} {cv : Value} {i : Nat} {f : FS} {b₀ : Stmt} {suite : List Stmt} {np pos' : Pos} {hds : List ExceptHandler} {hs : List HdF} (hi : X.N[i]? = some n) (hln : X.env.kindOf n = some .local) (hp : pn i = false) (hc : Names X x cv) (hx : AllC X.K ns fun n C => PySem.W.exmOne X.K (.ref C) cv = some (subB n c))
      (hsu : ∀ (a : Addr) (pn' : List (Addr × Obj)), PSsf (X.suite a pn') pn noW (b₀ :: suite) f) (r : HdP X pn ns hds hs) : HdP X pn ns (.ExceptHandler (some (.Name x np)) (some n) (b₀ :: suite) pos' :: hds) ((c, some i, f) :: hs)
  | asPar {x n c u v : Str} {cv : Value} {i j l : Nat} {ops : List Op} {e1 e2 : Expr} {px py pt np pos' pos : Pos} {kt k2 pt2} {hds : List ExceptHandler} {hs' : List HdF} (hN : X.N.Nodup) (hi : X.N[i]? = some n) (hln : X.env.kindOf n = some .local) (hp : pn i = false) (hc : Names X x cv) (hx : AllC X.K ns fun n C => PySem.W.exmOne X.K (.ref C) cv = some (subB n c))
      (hj : X.N[j]? = some u) (hl : X.N[l]? = some v) (hjl : j ≠ l) (hpp : ∀ k ∈ [j, l], pn k = false) (hu : X.env.scope.names.lookup u = some .local) (hv : X.env.scope.names.lookup v = some .local)
      (ha : ∀ (a : Addr) (pn' : List (Addr × Obj)), PAf (X.suite a pn') [e1, e2] ops)
      (hw : swappedStores [.Tuple [.Name u px, .Name v py] kt pt] (.Tuple [e1, e2] k2 pt2) X.env = pure (some [u, v]))
      (hs : swapsWithSole [.Tuple [.Name u px, .Name v py] kt pt] (.Tuple [e1, e2] k2 pt2) pos.line X.env = pure false)
      (r : HdP X pn ns hds hs') : HdP X pn ns (.ExceptHandler (some (.Name x np)) (some n) [.Assign [.Tuple [.Name u px, .Name v py] kt pt] (.Tuple [e1, e2] k2 pt2) pos] pos' :: hds) ((c, some i, parF [j, l] ops) :: hs')
  | only {x c : Str} {cv : Value} {f : FS} {b₀ : Stmt} {suite : List Stmt} {np pos' : Pos} {hds : List ExceptHandler} {hs : List HdF} (hc : Names X x cv) (hx : AllC X.K ns fun n C => PySem.W.exmOne X.K (.ref C) cv = some (subB n c))
      (hsu : ∀ (a : Addr) (pn' : List (Addr × Obj)), PSsf (X.suite a pn') pn noW (b₀ :: suite) f) (r : HdP X pn ns hds hs) : HdP X pn ns (.ExceptHandler (some (.Name x np)) none (b₀ :: suite) pos' :: hds) ((c, none, f) :: hs)
theorem SimH.par {K : PySem.W.Frag} {pn : Nat → Bool} {a : Addr} {i j : Nat} {ops : List Op} (hp : ∀ k ∈ [i, j], pn k = false) : SimH K pn a (tParH a i j (taOf K ops)) (parF [i, j] ops) := by
  intro ρ o e σ G H F r ⟨C, dd, hG⟩ E q
  unfold parF at e
  cases he : evOps ops ρ with
  | none => rw [he] at e; cases e
  | some p =>
    obtain ⟨ts, ρ1⟩ := p
    rw [he] at e
    have e1 : (takeN ops ts ρ1).bind (fun ds => if ds.length = [i, j].length then some (Out.nx (setAll [i, j] ds ρ1)) else none) = some o := e
    cases htk : takeN ops ts ρ1 with
    | none => rw [htk] at e1; cases e1
    | some ds =>
      rw [htk] at e1
      have e2 : (if ds.length = [i, j].length then some (Out.nx (setAll [i, j] ds ρ1)) else none) = some o := e1
      split at e2
      · rename_i hl
        cases e2
        refine simA_of ops ρ ts ρ1 he σ G H F r _ fun vs G1 H1 F1 M t1 r1 ok n1 => ?_
        have rs := ok.take r1 htk
        obtain ⟨F2, r2, s2, p2⟩ := setAll_ok (is := [i, j]) hp r1 rs n1
        have hv : vs.length = 2 := rs.length.trans hl
        match vs, hv, r2, p2 with
        | [v, w], _, r2, p2 => exact ⟨v, w, rfl, ⟨C, dd, t1.sub a _ (t1.g a _ hG)⟩, q _ G1 H1 F2 (t1.post s2) r2 p2⟩
      · cases e2
theorem HdP.go {X : Cx} {pn : Nat → Bool} {ns : List Str} : ∀ {hds : List ExceptHandler} {hs : List HdF}, HdP X pn ns hds hs → ∃ l, HdsT X hds l ∧ HdS X.K pn ns l hs
  | _, _, .nil => ⟨[], .nil, .nil⟩
  | _, _, .as hi hln hp hc hx hsu r => by
    obtain ⟨l, a, b⟩ := r.go
    exact ⟨_, .as (ts := fun _ => tsOf X.K pn noW _) hi hln hc hsu a, .cons (fun j e => by cases e; exact hp) hx (fun _ => .of (simS_of _)) b⟩
  | _, _, .asPar hN hi hln hp hc hx hj hl hjl hpp hu hv ha hw hs r => by
    obtain ⟨l, a, b⟩ := r.go
    exact ⟨_, .as (ts := fun a => tParH a _ _ (taOf X.K _)) hi hln hc (fun a pn' => pss_one (ps_parH hN hj hl hjl hu hv (ha a pn') hw hs)) a, .cons (fun j e => by cases e; exact hp) hx (fun a => .par hpp) b⟩
  | _, _, .only hc hx hsu r => by
    obtain ⟨l, a, b⟩ := r.go
    exact ⟨_, .only (ts := fun _ => tsOf X.K pn noW _) hc hsu a, .cons (fun j e => by cases e) hx (fun _ => .of (simS_of _)) b⟩
end VS
set_option Elab.async false
set_option linter.all false
set_option maxRecDepth 100000
namespace VS
open PySem PySem.Spec PyProof.Rows L2
section
variable {X : Cx} {pn : Nat → Bool} {W : WX} {e a b : Expr} {es : List Expr} {pos : Pos} {g h : RX}
end
/-! ### isinstance of what was caught, by a tuple of classes -/
def tCs : List V → TA
  | [] => tNil
  | v :: r => tCons (tC v) (tCs r)
def isXTD (ns : List Str) (cs : List Str) : List D → Option D
  | [.exc n _] => if ns.contains n = true then some (.bl (cs.any (subB n))) else none
  | [.non] => some (.bl false)
  | _ => none
def rIsXT (K : PySem.W.Frag) : List V → Hp → VK → Prop := fun xs H Q => ∃ (x : V) (tp : Addr) (cs : List V) (us : List Value), xs = [x, .ref tp] ∧ H tp = some (.tup cs) ∧ Paired ClsV cs us ∧ ((x = .non ∧ PySem.W.kitAny K (.type "NoneType") us = some false ∧ Q (.bl false) H) ∨
  ∃ (a C dd : Addr) (mg : Str → Option Value) (n : Str) (fs : List (Str × V)) (b : Bool), x = .ref a ∧ H a = some (ExV a C dd) ∧ H dd = some (.xd fs) ∧ ExT K mg n C ∧ PySem.W.kitAny K (.ref C) us = some b ∧ Q (.bl b) H)
end VS
set_option Elab.async false
set_option linter.all false
set_option maxRecDepth 100000
namespace VS
open PySem PySem.Spec PyProof.Rows L2
/-! ### e.index(x), e any list -/
def isLq : Option (D × Env) → Bool
  | some (.lst _ _, _) => true
  | _ => false
def methTF (f : FE) (g : List D → Option D) (ops : List Op) : FE := fun ρ => if isLq (f ρ) = true then opF g (.t f :: ops) ρ else none
theorem simE_methT {K : PySem.W.Frag} {to : TE} {f : FE} {ta : TA} {ops : List Op} {r : V → List V → Hp → VK → Prop} {g : List D → Option D} (ho : SimE K to f) (h : SimA K ta ops) (hv : VOk K (consV r) g) : SimE K (tBM K "list" r to ta) (methTF f g ops) := by
  intro ρ d ρ' e σ G H F rr Q q
  unfold methTF at e
  by_cases hl : isLq (f ρ) = true
  · rw [if_pos hl] at e
    have hs : SimE K (fun σ H Q => to σ H fun x H1 => tyV K "list" x H1 ∧ Q x H1) (fun ρ => if isLq (f ρ) = true then f ρ else none) := by
      intro ρ d ρ' e σ G H F r Q q
      have e' : (if isLq (f ρ) = true then f ρ else none) = some (d, ρ') := e
      by_cases hl : isLq (f ρ) = true
      · rw [if_pos hl] at e'
        refine ho ρ d ρ' e' σ G H F r _ fun v G1 H1 F1 L t1 r1 rv n1 => ⟨?_, q v G1 H1 F1 L t1 r1 rv n1⟩
        rw [e'] at hl
        cases d with
        | lst o xs =>
          obtain ⟨a, vs, M, rfl, h5, _⟩ := rv.lstInv r1.sub
          exact .inl ⟨rfl, vs, SqL.of h5⟩
        | _ => cases hl
      · rw [if_neg hl] at e'; cases e'
    have e2 : opF g (.t (fun ρ => if isLq (f ρ) = true then f ρ else none) :: ops) ρ = some (d, ρ') := by
      rw [← e]
      unfold opF evOps
      show (((if isLq (f ρ) = true then f ρ else none).bind _).bind _) = _
      rw [if_pos hl]
      cases f ρ with
      | none => rfl
      | some q0 =>
        show ((evOps ops q0.2).bind _).bind _ = ((evOps ops q0.2).bind _).bind _
        cases evOps ops q0.2 <;> rfl
    exact simE_op (simA_cons (o := .t (fun ρ => if isLq (f ρ) = true then f ρ else none)) hs h) hv ρ d ρ' e2 σ G H F rr Q q
  · rw [if_neg hl] at e; cases e
section
variable {X : Cx} {W : WX} {o e : Expr} {es : List Expr} {f : FE} {g : RX} {ops : List Op} {apos cpos : Pos}
theorem pf_indexT (hu : X.A.units + 65 < cLine) (ho : PEf X o f) (ha : PAf X (e :: es) ops) (hbase : attributeBase o "index" X.env (eval o X.env) = eval o X.env := by rfl)
    (hfew : ((backTo cpos (starEach (e :: es) X.env)).all (fun x => !x.1) && (backToKw cpos (keywordEach [] X.env)).all (fun x => x.1.isSome)
      && decide ((e :: es).length + ([] : List Keyword).length + (if ([] : List Keyword).isEmpty then 0 else 1) < 30)) = true := by rfl)
    (hline : (apos.endLine == cpos.line) = true := by rfl) (hs : starEach (e :: es) X.env = (false, eval e X.env) :: starEach es X.env := by rfl) (hplain : (backTo cpos (starEach es X.env)).any (·.1) = false := by rfl) :
    PEf X (.Call (.Attribute o "index" apos) (e :: es) [] cpos) (methTF f indexD ops) :=
  .mk (pe_bm PySem.F.plainAttrs_list PySem.F.slot_list_index PySem.F.type_list_index (mt_indexD hu) ho ha hbase hfew hline hs hplain) (simE_methT (simE_of f) (simA_of ops) vok_index)
end
end VS
set_option Elab.async false
set_option linter.all false
namespace VS
open PySem PySem.Spec PyProof.Rows L2
/-! ### sorted(xs), also of one thing or none -/
def rSortedN (K : PySem.W.Frag) : List V → Hp → VK → Prop := fun vs H Q => rSortedM K vs H Q ∨ ∃ (a : Addr) (ys : List V), vs = [V.ref a] ∧ SqL K H a ys ∧ ys.length ≤ 1 ∧ ∀ p, H p = none → Q (.ref p) (upd H p (.lst ys))
def sortedND : List D → Option D
  | [.lst o xs] => if xs.length ≤ 1 then (if noOwns xs = true then some (.lst true xs) else none) else sortedMD [.lst o xs]
  | _ => none
end VS
set_option Elab.async false
set_option linter.all false
set_option maxRecDepth 100000
namespace VS
open PySem PySem.Spec PyProof.Rows L2
/-! ### a dict of whole numbers, in a slot -/
def valI (kvs : List (Int × Int)) (k : Int) : Option Int := (kvs.find? fun p => decide (p.1 = k)).map (·.2)
def putI (kvs : List (Int × Int)) (k v : Int) : List (Int × Int) := if (kvs.any fun p => decide (p.1 = k)) = true then kvs.map (fun p => if p.1 = k then (p.1, v) else p) else kvs ++ [(k, v)]
def dropI (kvs : List (Int × Int)) (k : Int) : List (Int × Int) := kvs.filter fun p => decide (p.1 ≠ k)
section
variable {K : PySem.W.Frag} {pn : Nat → Bool}
/-- {} -/
def dctF : FE := fun ρ => some (.dct true [], ρ)
/-- d[k] -/
def dgetD : List D → Option D
  | [.dct _ kvs, .int k] => (valI kvs k).map D.int
  | _ => none
/-- d[k] = v -/
def rSetDK : V → V → V → Hp → (Hp → Prop) → Prop := fun o i v H Q => ∃ p kvs k, o = .ref p ∧ i = kV k ∧ H p = some (.dK kvs) ∧ kvs.length < sizeLine ∧ Q (upd H p (.dK (putK kvs k v)))
def dputAt (ρ : Env) (k : Nat) (d : D) (ds : List D) : Option Env := match d, ds, getS ρ k with
  | .int v, [.int i], some (.dct true kvs) => if kvs.length < smallL then some (ρ.set k (some (.dct true (putI kvs i v)))) else none
  | _, _, _ => none
def tgPut (k : Nat) (oi : Op) : D → Env → Option Env := fun d ρ => (getS ρ k).bind fun _ => (evOps [oi] ρ).bind fun p => (fetch [oi] p.1 p.2).bind fun ds => dputAt p.2 k d ds
/-- d.pop(k) -/
def dpopAt (ρ : Env) (k : Nat) (ds : List D) : Option (D × Env) := match ds, getS ρ k with
  | [.int i], some (.dct true kvs) => (valI kvs i).bind fun v => some (.int v, ρ.set k (some (.dct true (dropI kvs i))))
  | _, _ => none
def dpopF (k : Nat) (oi : Op) : FE := fun ρ => match getS ρ k with
  | some (.dct true _) => (evOps [oi] ρ).bind fun p => (fetch [oi] p.1 p.2).bind fun ds => dpopAt p.2 k ds
  | _ => none
/-- d.get(k, x) -/
def dget2At (ρ : Env) (k : Nat) (ds : List D) : Option (D × Env) := match ds, getS ρ k with
  | [.int i, .int z], some (.dct _ kvs) => some (.int ((valI kvs i).getD z), ρ)
  | _, _ => none
def dget2F (k : Nat) (o1 o2 : Op) : FE := fun ρ => match getS ρ k with
  | some (.dct _ _) => (evOps [o1, o2] ρ).bind fun p => (fetch [o1, o2] p.1 p.2).bind fun ds => dget2At p.2 k ds
  | _ => none
end
section
variable {X : Cx} {pn : Nat → Bool} {a b e f : Expr} {apos cpos pos : Pos}
end
end VS
set_option Elab.async false
set_option linter.all false
set_option maxRecDepth 100000
namespace VS
open PySem PySem.Spec PyProof.Rows L2
/-! ### (a, b, ..) = a tuple, or a list that is read -/
def tgU (n : Nat) (gs : List D → Env → Option Env) : D → Env → Option Env := fun d ρ => match d with
  | .tup xs => if xs.length = n then gs xs ρ else none
  | .lst false xs => if xs.length = n then gs xs ρ else none
  | _ => none
def gU (K : PySem.W.Frag) (n : Nat) (t : TGs) : TG := fun v σ H Q => gTup K n t v σ H Q ∨ gUnl K n t v σ H Q
section
variable {K : PySem.W.Frag} {pn : Nat → Bool}
end
section
variable {X : Cx} {pn : Nat → Bool} {es : List Expr} {k n : Nat} {pos : Pos}
end
end VS
set_option Elab.async false
set_option linter.all false
set_option maxRecDepth 100000
namespace VS
open PySem PySem.Spec PyProof.Rows L2 RZ
/-! ### gcd -/
def gcdD : List D → Option D
  | [.int a, .int b] => some (.int ((Nat.gcd a.natAbs b.natAbs : Nat) : Int))
  | _ => none
section
variable {X : Cx} {p pos : Pos} {e : Expr} {es : List Expr} {o : Op} {ops : List Op} {x : Str}
end
/-! ### e.count(x), whole numbers -/
def cntD : List D → Option D
  | [.lst _ xs, .int k] => (intsOf xs).bind fun ns => some (.int (ns.count k : Nat))
  | _ => none
section
variable {X : Cx} {W : WX} {o e : Expr} {es : List Expr} {f : FE} {g : RX} {ops : List Op} {apos cpos : Pos}
end
end VS
set_option Elab.async false
set_option linter.all false
set_option maxRecDepth 100000
namespace VS
open PySem PySem.Spec PyProof.Rows L2 RZ
end VS
set_option Elab.async false
set_option linter.all false
set_option maxRecDepth 100000
namespace VS
open PySem PySem.Spec PyProof.Rows L2 RZ
/-! ### a & 1, a >>= 1, min and max of a list -/
def bandD : List D → Option D
  | [.int a, .int b] => if 0 ≤ a ∧ b = 1 then some (.int (a % 2)) else none
  | _ => none
def rOdd : R2 := fun x y H Q => ∃ n : Nat, x = .int (n : Int) ∧ y = .int 1 ∧ Q (.int ((n % 2 : Nat) : Int)) H
def ishrD : List D → Option D
  | [.int a, .int b] => if b = 1 then some (.int (a / 2)) else none
  | _ => none
def minIs : List Int → Option Int
  | [] => none
  | a :: r => match minIs r with | none => some a | some b => some (if b < a then b else a)
def maxIs : List Int → Option Int
  | [] => none
  | a :: r => match maxIs r with | none => some a | some b => some (if a < b then b else a)
def min1D : List D → Option D
  | [.lst _ xs] => (intsOf xs).bind fun ns => (minIs ns).map D.int
  | _ => none
def max1D : List D → Option D
  | [.lst _ xs] => (intsOf xs).bind fun ns => (maxIs ns).map D.int
  | _ => none
section
variable {K : PySem.W.Frag}
end
/-! ### first, *others = a list that is read -/
def gStar (K : PySem.W.Frag) (t : TGs) : TG := fun v σ H Q => ∃ a x xs, v = .ref a ∧ SqL K H a (x :: xs) ∧ xs.length ≤ 16000 ∧ ∀ p, H p = none → t [x, .ref p] σ (upd H p (.lst xs)) Q
section
variable {X : Cx} {pos : Pos}
end
def tgStar (gs : List D → Env → Option Env) : D → Env → Option Env := fun d ρ => match d with
  | .lst false (x :: xs) => if xs.length ≤ 16000 then gs [x, .lst true xs] ρ else none
  | _ => none
section
variable {K : PySem.W.Frag} {pn : Nat → Bool}
end
end VS
set_option Elab.async false
set_option linter.all false
set_option maxRecDepth 100000
namespace VS
open PySem PySem.Spec PyProof.Rows L2 RZ
/-! ### while (x := e) op b: .. -/
def walF (i : Nat) (f : FE) (fb : FB) : FB := fun ρ => (f ρ).bind fun p => fb (p.2.set i (some p.1))
def SimTw (K : PySem.W.Frag) (pn : Nat → Bool) (tt : TTw) (f : FB) : Prop := ∀ ρ b ρ', f ρ = some (b, ρ') → ∀ (σ : L2.St) (G H : Hp) (F : Nat → List Addr), REnv K G H σ ρ F → ∀ Q : Bool → L2.St → Hp → Prop,
  (∀ σ' G' H' F', Tr G H (own F) G' H' (own F') → REnv K G' H' σ' ρ' F' → Pin pn σ σ' → Q b σ' H') → tt σ H Q
section
variable {K : PySem.W.Frag} {pn : Nat → Bool} {W : WX}
end
section
variable {X : Cx} {pn : Nat → Bool} {W : WX} {e b : Expr} {pos pos3 p1 p2 : Pos}
end
section
variable {X : Cx} {pn : Nat → Bool} {es : List Expr} {pos : Pos} {e : Expr}
end
end VS
set_option Elab.async false
set_option linter.all false
set_option maxRecDepth 100000
namespace VS
open PySem PySem.Spec PyProof.Rows L2 RZ
/-! ### a def that is asked and hands on tuples alone: what is shown to it stays the caller's -/
mutual
def pureT : D → Bool
  | .tup xs => pureTs xs
  | .lst _ _ => false
  | .dct _ _ => false
  | .scr _ => false
  | .exc _ _ => false
  | _ => true
def pureTs : List D → Bool
  | [] => true
  | x :: r => pureT x && pureTs r
end
section
variable {K : PySem.W.Frag}
mutual
theorem Rep.pure {G H G' H' : Hp} (k : ∀ a vs, SqT K G a vs → SqT K G' a vs) {v : V} {d : D} {L : List Addr} (h : pureT d = true) (r : Rep K G H v d L) : Rep K G' H' v d [] := by
  cases r with
  | non => exact .non
  | bl b => exact .bl b
  | int i => exact .int i
  | str s => exact .str s
  | ty n => exact .ty n
  | tup h1 r => exact .tup (k _ _ h1) (Reps.pure k h r)
  | scr h1 => cases h
  | exc h1 h2 h3 r => cases h
  | lstS h1 r e => cases h
  | lstO h1 h2 h3 r => cases h
  | dctS h1 => cases h
  | dctO h1 h2 => cases h
theorem Reps.pure {G H G' H' : Hp} (k : ∀ a vs, SqT K G a vs → SqT K G' a vs) {vs : List V} {ds : List D} {L : List Addr} (h : pureTs ds = true) (r : Reps K G H vs ds L) : Reps K G' H' vs ds [] := by
  cases r with
  | nil => exact .nil
  | cons h1 r1 n =>
    have h : (pureT _ && pureTs _) = true := h
    rw [Bool.and_eq_true] at h
    exact Reps.cons0 (Rep.pure k h.1 h1) (Reps.pure k h.2 r1)
end
open Classical in
/-- what may be owned is frozen -/
noncomputable def gFrz (G H : Hp) : Hp := fun a => if G a = none then (if ∃ o, H a = some o ∧ LD o then H a else none) else G a
theorem gFrz_G {G H : Hp} : Same G (gFrz G H) := fun a o e => by
  unfold gFrz; rw [if_neg (by rw [e]; exact fun z => by cases z), e]
theorem gFrz_H {G H : Hp} (s : Same G H) : Same (gFrz G H) H := fun a o e => by
  unfold gFrz at e
  split at e
  · split at e
    · exact e
    · cases e
  · exact s a o e
theorem gFrz_o {G H : Hp} {v : V} {d : D} {L : List Addr} (r : Rep K G H v d L) : ∀ a ∈ L, gFrz G H a = H a := fun a ha => by
  obtain ⟨h1, h2⟩ := r.owned a ha
  unfold gFrz; rw [if_pos h1, if_pos h2]
/-- the caller's view behind the call -/
def gBack (G1 H1 G' : Hp) : Hp := fun a => match H1 a with
  | none => G' a
  | some _ => G1 a
theorem back_ok {G1 H1 G' H' : Hp} {A' : Addr → Prop} (s : Same G1 H1) (t : Tr (gFrz G1 H1) H1 (fun a => a ∈ ([] : List Addr)) G' H' A') : Tr G1 H1 (fun _ => False) (gBack G1 H1 G') H' (fun _ => False) ∧ ∀ a vs, SqT K G' a vs → SqT K (gBack G1 H1 G') a vs := by
  have kp : ∀ a o, H1 a = some o → H' a = some o := fun a o e => t.keep a o e fun z => nomatch z
  refine ⟨⟨fun a o e => ?_, fun a o e => ?_, fun a o e _ => kp a o e, fun a o e _ => ?_, fun _ z => .inl z, fun a e => ?_⟩, fun a vs h => ?_⟩
  · unfold gBack; rw [s a o e]; exact e
  · unfold gBack at e
    cases ha : H1 a with
    | none => rw [ha] at e; exact t.sub a o e
    | some o' => rw [ha] at e; exact kp a o (s a o e)
  · unfold gBack; rw [e]
  · cases ha : H1 a with
    | none => rfl
    | some o => rw [kp a o ha] at e; cases e
  · have key : ∀ u, G' a = some u → (¬ LD u) → gBack G1 H1 G' a = some u := fun u hu hn => by
      unfold gBack
      cases ha : H1 a with
      | none => exact hu
      | some o =>
        have := t.keepG a o ha fun z => nomatch z
        rw [hu] at this
        unfold gFrz at this
        show G1 a = some u
        split at this
        · split at this
          · rename_i h2
            obtain ⟨o2, e2, l2⟩ := h2
            rw [e2] at this
            cases this
            exact absurd l2 hn
          · cases this
        · exact this.symm
    rcases h with h | h
    · rcases h with h | ⟨o, h⟩
      · exact .inl (.inl (key _ h fun z => nomatch z))
      · exact .inl (.inr ⟨o, key _ h fun z => nomatch z⟩)
    · exact .inr h
def callRtF (fn : Fn) (ops : List Op) : FE := fun ρ => (evOps ops ρ).bind fun p => (fetch ops p.1 p.2).bind fun ds => (fn.sem (freezes ds)).bind fun q => if pureT q.1 = true then some (q.1, p.2) else none
def callRtKF (fn : Fn) (is : List Nat) (ops : List Op) : FE := fun ρ => (evOps ops ρ).bind fun p => (fetch ops p.1 p.2).bind fun ds => (fn.sem (permL is (freezes ds))).bind fun q => if pureT q.1 = true then some (q.1, p.2) else none
end
section
variable {X : Cx} {pn : Nat → Bool} {W : WX} {k : Nat} {f : Addr} {fd : FuncData} {ps ks : List Str} {fn : Fn} {x : Str} {p pos : Pos} {e : Expr} {es : List Expr} {kws : List Keyword} {ops kops : List Op} {is : List Nat}
end
end VS
set_option Elab.async false
set_option linter.all false
set_option maxRecDepth 100000
namespace VS
open PySem PySem.Spec PyProof.Rows L2 RZ
/-! ### xs[a:c] = a list made for it -/
def slPut (ρ : Env) (k : Nat) (d : D) : List D → Option D → Option Env
  | [.int a, .int c], some (.lst true xs) => match d with
    | .lst true ys => if 0 ≤ a ∧ a ≤ c ∧ c ≤ (xs.length : Int) ∧ noOwns xs = true ∧ noOwns ys = true ∧ xs.length + ys.length ≤ smallL then some (ρ.set k (some (.lst true (xs.take a.toNat ++ ys ++ xs.drop c.toNat)))) else none
    | _ => none
  | _, _ => none
def tgSlS (k : Nat) (o1 o2 : Op) : D → Env → Option Env := fun d ρ => match getS ρ k with
  | none => none
  | some _ => (evOps [o1, o2] ρ).bind fun p => (fetch [o1, o2] p.1 p.2).bind fun ds => slPut p.2 k d ds (getS p.2 k)
def gSlS (to : TE) (tl th : TE) : TG := fun v σ H Q => to σ H fun o H1 => tl σ H1 fun l H2 => th σ H2 fun u H3 => ∃ x b xs ys a c, o = .ref x ∧ v = .ref b ∧ l = .int a ∧ u = .int c ∧ H3 x = some (.lst xs) ∧ H3 b = some (.lst ys) ∧ x ≠ b ∧ 0 ≤ a ∧ a ≤ c ∧ c ≤ (xs.length : Int) ∧ xs.length + ys.length ≤ sizeLine ∧ Q σ (upd H3 x (.lst (xs.take a.toNat ++ ys ++ xs.drop c.toNat)))
section
variable {X : Cx} {o lo hi : Expr} {to tl th : TE} {pos p2 : Pos}
end
section
variable {K : PySem.W.Frag} {pn : Nat → Bool}
end
section
variable {X : Cx} {pn : Nat → Bool} {o lo hi : Expr} {pos p2 : Pos}
end
end VS
set_option Elab.async false
set_option linter.all false
namespace L2
open PySem PySem.Spec PyProof.Rows
open VS
/-! ### tuple(range(n)) -/
def rRgT : List V → Hp → VK → Prop := fun vs H Q => ∃ (j : Int) (n : Nat), vs = [.int j] ∧ RgC 0 j 1 n ∧ n ≤ 2 ^ 24 ∧ ∀ q, H q = none → Q (.ref q) (upd H q (.tup ((List.range n).map fun k => V.int (0 + (k : Nat) * 1))))
section
variable {X : Cx} {a b c : Expr} {ta : TA} {p p2 pos pos2 : Pos}
end
end L2
namespace VS
open PySem PySem.Spec PyProof.Rows L2 RZ
def trgD (rd : List D → Option (List D)) : List D → Option D := fun ds => (rd ds).bind fun xs => if xs.length ≤ smallL then some (.tup xs) else none
section
variable {K : PySem.W.Frag}
end
section
variable {X : Cx} {a b c : Expr} {p p2 pos pos2 : Pos} {ops : List Op}
end
end VS
set_option Elab.async false
set_option linter.all false
set_option maxRecDepth 100000
set_option maxHeartbeats 4000000
namespace HT
open PySem PySem.Spec PyProof.Rows
section
variable {prog : Program} {w : World} {A : Around} {E : Value → Shared → Prop} {s : Shared}
end
end HT
namespace L2
open PySem PySem.Spec PyProof.Rows HT
def tRevT (K : PySem.W.Frag) (te : TE) : TE := fun σ H Q => te σ H fun x H1 => ∃ a xs, x = .ref a ∧ SqT K H1 a xs ∧ ∀ p, H1 p = none → Q (.ref p) (upd H1 p (.tup xs.reverse))
section
variable {X : Cx}
end
end L2
namespace VS
open PySem PySem.Spec PyProof.Rows L2 RZ
def rRevT (K : PySem.W.Frag) : V → Hp → VK → Prop := fun x H1 Q => ∃ a xs, x = .ref a ∧ SqT K H1 a xs ∧ ∀ p, H1 p = none → Q (.ref p) (upd H1 p (.tup xs.reverse))
def revTD : List D → Option D
  | [.tup xs] => if noOwns xs = true then some (.tup xs.reverse) else none
  | _ => none
section
variable {X : Cx} {e : Expr} {k : Nat} {p1 p2 p3 pos : Pos} {o : Op}
end
end VS
set_option Elab.async false
set_option linter.all false
set_option maxRecDepth 100000
namespace L2
open PySem PySem.Spec PyProof.Rows
open VS
/-! ### len(set(xs)) of a list of whole numbers -/
def nMet (ns : List Int) : Nat := (PyProof.Rows.firstMet (fun i => ns.getD i 0) ns.length).length
def rLenSet (K : PySem.W.Frag) : List V → Hp → VK → Prop := fun vs H Q => ∃ (p : Addr) (ns : List Int), vs = [.ref p] ∧ SqL K H p (ns.map V.int) ∧ ns.length ≤ 1000 ∧ nMet ns ≤ 1000 ∧ Q (.int (nMet ns : Nat)) H
section
variable {X : Cx} {a b c : Expr} {ta : TA} {p p2 pos pos2 : Pos}
end
end L2
namespace VS
open PySem PySem.Spec PyProof.Rows L2 RZ
def lenSetD : List D → Option D
  | [.lst _ xs] => (intsOf xs).bind fun ns => if ns.length ≤ 1000 then some (.int (nMet ns : Nat)) else none
  | _ => none
section
variable {K : PySem.W.Frag}
end
section
variable {X : Cx} {a b c : Expr} {p p2 pos pos2 : Pos} {ops : List Op}
end
end VS
set_option Elab.async false
set_option linter.all false
set_option maxRecDepth 100000
namespace L2
open PySem PySem.Spec PyProof.Rows
open VS
/-! ### tuple(range(a, b)) -/
def rRgT2 : List V → Hp → VK → Prop := fun vs H Q => ∃ (i j : Int) (n : Nat), vs = [.int i, .int j] ∧ RgC i j 1 n ∧ n ≤ 2 ^ 24 ∧ ∀ q, H q = none → Q (.ref q) (upd H q (.tup ((List.range n).map fun k => V.int (i + (k : Nat) * 1))))
section
variable {X : Cx} {a b c : Expr} {ta : TA} {p p2 pos pos2 : Pos}
end
end L2
namespace VS
open PySem PySem.Spec PyProof.Rows L2 RZ
section
variable {K : PySem.W.Frag}
end
section
variable {X : Cx} {a b c : Expr} {p p2 pos pos2 : Pos} {ops : List Op}
end
end VS
set_option Elab.async false
set_option linter.all false
set_option maxRecDepth 100000
namespace VS
open PySem PySem.Spec PyProof.Rows L2 RZ
/-! ### order of things of one shape, of any depth -/
def notNoneP : PyData → Bool
  | .none => false
  | _ => true
def ordOk (d e : PyData) : Bool := PySem.W.alike d e && (notNoneP d && decide (min d.depth e.depth ≤ 60))
def rOrd (K : PySem.W.Frag) (p : PyData → PyData → Bool) : R2 := fun x y H Q => ∃ da db, Dp K H x da ∧ Dp K H y db ∧ ordOk da db = true ∧ Q (.bl (p da db)) H
def ordD (p : PyData → PyData → Bool) : List D → Option D
  | [x, y] => if noTy x = true ∧ noTy y = true ∧ ordOk (pyD x) (pyD y) = true then some (.bl (p (pyD x) (pyD y))) else none
  | _ => none
def leMD := ordD fun a b => !PySem.W.dataLt b a
def ltMD := ordD fun a b => PySem.W.dataLt a b
def geMD := ordD fun a b => !PySem.W.dataLt a b
def gtMD := ordD fun a b => PySem.W.dataLt b a
end VS
set_option Elab.async false
set_option linter.all false
set_option maxRecDepth 100000
namespace L2
open PySem PySem.Spec PyProof.Rows
open VS
/-! ### x in range(..), x not in range(..) -/
end L2
namespace VS
open PySem PySem.Spec PyProof.Rows L2 RZ
def rRg1 : List V → Hp → VK → Prop := fun vs H Q => ∃ j, vs = [V.int j] ∧ ∀ p, H p = none → Q (.ref p) (upd H p (.rng 0 j))
def rRg2 : List V → Hp → VK → Prop := fun vs H Q => ∃ i j, vs = [V.int i, V.int j] ∧ ∀ p, H p = none → Q (.ref p) (upd H p (.rng i j))
def rInR (f : Bool → Bool) : R2 := fun x y H Q => ∃ i a lo hi, x = V.int i ∧ y = V.ref a ∧ H a = some (.rng lo hi) ∧ Q (V.bl (f (decide (lo ≤ i ∧ i < hi)))) H
def rInV (f : Bool → Bool) (rr : List V → Hp → VK → Prop) : List V → Hp → VK → Prop := fun vs H Q => match vs with
  | x :: r => rr r H fun y H1 => rInR f x y H1 Q
  | [] => False
def inR1 (f : Bool → Bool) : List D → Option D
  | [.int k, .int j] => some (.bl (f (decide (0 ≤ k ∧ k < j))))
  | _ => none
def inR2 (f : Bool → Bool) : List D → Option D
  | [.int k, .int i, .int j] => some (.bl (f (decide (i ≤ k ∧ k < j))))
  | _ => none
section
variable {X : Cx} {x a b : Expr} {p pos pos2 : Pos} {o1 : Op} {oa : Op} {ops : List Op} {op : CmpOp} {f : Bool → Bool}
end
end VS
set_option Elab.async false
set_option linter.all false
set_option maxRecDepth 100000
namespace L2
open PySem PySem.Spec PyProof.Rows
open VS
/-! ### count of a truth in a list of such -/
def rCntB (K : PySem.W.Frag) : V → List V → Hp → VK → Prop := fun x xs H Q => ∃ (p : Addr) (bs : List Bool) (k : Bool), x = .ref p ∧ xs = [.bl k] ∧ SqL K H p (bs.map V.bl) ∧ Q (.int (bs.count k : Nat)) H
end L2
namespace VS
open PySem PySem.Spec PyProof.Rows L2 RZ
def cntBD : List D → Option D
  | [.lst _ xs, .bl k] => (blsOf xs).bind fun bs => some (.int (bs.count k : Nat))
  | _ => none
section
variable {X : Cx} {W : WX} {o e : Expr} {es : List Expr} {f : FE} {g : RX} {ops : List Op} {apos cpos : Pos}
end
end VS
set_option Elab.async false
set_option linter.all false
set_option maxRecDepth 100000
namespace VS
open PySem PySem.Spec PyProof.Rows L2
/-! ### {'a': 1, ..}.get(k, x): a display of texts and whole numbers, read at once -/
def evInts : List FE → Env → Option (List Int × Env)
  | [], ρ => some ([], ρ)
  | f :: r, ρ => (f ρ).bind fun p => match p.1 with
    | .int i => (evInts r p.2).bind fun q => some (i :: q.1, q.2)
    | _ => none
def strGet : List Str → List Int → Str → Option Int
  | k :: ks, i :: is, s => if k = s then some i else strGet ks is s
  | _, _, _ => none
def dgF (ks : List Str) (fs : List FE) (fk fd : FE) : FE := fun ρ => (evInts fs ρ).bind fun p => (fk p.2).bind fun q => match q.1 with
  | .str s => (fd q.2).bind fun z => match z.1 with
    | .int j => some (.int ((strGet ks p.1 s).getD j), z.2)
    | _ => none
  | _ => none
def kvS : List Str → List Int → List (Key × V)
  | k :: ks, i :: is => (.inr k, .int i) :: kvS ks is
  | _, _ => []
inductive Keyed (K : PySem.W.Frag) : List (TE × TE) → List Str → List FE → Prop
  | nil : Keyed K [] [] []
  | cons {k : Str} {tv : TE} {f : FE} {trs ks fs} : SimE K tv f → Keyed K trs ks fs → Keyed K ((tC (.str k), tv) :: trs) (k :: ks) (f :: fs)
section
variable {K : PySem.W.Frag}
theorem Keyed.run {trs : List (TE × TE)} {ks : List Str} {fs : List FE} (h : Keyed K trs ks fs) : ∀ ρ is ρ', evInts fs ρ = some (is, ρ') → ∀ (σ : L2.St) (G H : Hp) (F : Nat → List Addr), REnv K G H σ ρ F → ∀ Q : List (V × V) → Hp → Prop,
    (∀ G' H' F', Tr G H (own F) G' H' (own F') → REnv K G' H' σ ρ' F' → Q ((kvS ks is).map fun kv => (kV kv.1, kv.2)) H') → tPairs trs σ H Q := by
  induction h with
  | nil =>
    intro ρ is ρ' e σ G H F r Q q
    cases e
    exact q G H F (Tr.refl r.sub) r
  | @cons k tv f trs ks fs h1 h2 ih =>
    intro ρ is ρ' e σ G H F r Q q
    unfold evInts at e
    cases hf : f ρ with
    | none => rw [hf] at e; cases e
    | some p =>
      obtain ⟨d, ρ1⟩ := p
      rw [hf] at e
      cases d with
      | int i =>
        have e2 : ((evInts fs ρ1).bind fun q => some (i :: q.1, q.2)) = some (is, ρ') := e
        cases hr : evInts fs ρ1 with
        | none => rw [hr] at e2; cases e2
        | some p =>
          obtain ⟨is1, ρ2⟩ := p
          rw [hr] at e2
          cases e2
          show tv σ H _
          refine h1 ρ (.int i) ρ1 hf σ G H F r _ fun v G1 H1 F1 L t1 r1 rp n1 => ?_
          cases rp
          have t1' : Tr G H (own F) G1 H1 (own F1) := t1.post fun a z => .inl z
          refine ih ρ1 is1 ρ2 hr σ G1 H1 F1 r1 _ fun G2 H2 F2 t2 r2 => ?_
          exact q G2 H2 F2 (t1'.trans t2) r2
      | _ => cases e
end
section
variable {X : Cx} {pn : Nat → Bool} {e f : Expr} {apos cpos pos : Pos}
inductive KeysF (X : Cx) (pos : Pos) : List (Option Expr) → List Expr → List Str → List FE → Prop
  | nil : KeysF X pos [] [] [] []
  | cons {k : Str} {j} {kp : Pos} {v : Expr} {f : FE} {keys vals ks fs} : PEf X v f → KeysF X pos keys vals ks fs → KeysF X pos (some (.Constant (.str k) j kp) :: keys) (v :: vals) (k :: ks) (f :: fs)
theorem KeysF.ex {keys vals ks fs} (h : KeysF X pos keys vals ks fs) : ∃ trs, PPs X pos keys vals trs ∧ Keyed X.K trs ks fs ∧ keys.all (·.isSome) = true ∧ keys.length = vals.length ∧ ks.length = keys.length := by
  induction h with
  | nil => exact ⟨[], pps_nil, .nil, rfl, rfl, rfl⟩
  | cons h1 h2 ih =>
    obtain ⟨trs, a, b, c, d, e⟩ := ih
    exact ⟨_, pps_cons pe_str h1 a, .cons (simE_of _) b, by simpa using c, by simp [d], by simp [e]⟩
end
end VS
set_option Elab.async false
set_option linter.all false
set_option maxRecDepth 100000
namespace VS
open PySem PySem.Spec PyProof.Rows L2
/-! ### for over reversed(..) of what may raise -/
section
variable {X : Cx} {W : WX} {e : Expr} {p pos : Pos} {g : RX}
end
end VS
set_option Elab.async false
set_option linter.all false
set_option maxRecDepth 100000
namespace VS
open PySem PySem.Spec PyProof.Rows L2 RZ
/-! ### what is read alone: all that is owned is lent for as long -/
def lendOk : D → Bool
  | .lst true xs => pureTs xs
  | d => pureT d
def lendE (ρ : Env) : Env := ρ.map (Option.map freeze)
def lendF (f : FE) : FE := fun ρ => (f (lendE ρ)).bind fun p => if lendOk p.1 = true then some (p.1, ρ) else none
def lendB (f : FB) : FB := fun ρ => (f (lendE ρ)).bind fun p => some (p.1, ρ)
section
variable {K : PySem.W.Frag}
theorem lendE_get {ρ : Env} {i : Nat} {d : D} (h : getS (lendE ρ) i = some d) : ∃ d0, getS ρ i = some d0 ∧ d = freeze d0 := by
  unfold getS lendE at h
  rw [List.getElem?_map] at h
  unfold getS
  cases e : ρ[i]? with
  | none => rw [e] at h; cases h
  | some o =>
    rw [e] at h
    cases o with
    | none => cases h
    | some d0 => exact ⟨d0, rfl, (Option.some.inj h).symm⟩
theorem REnv.lend {G H : Hp} {σ : L2.St} {ρ : Env} {F : Nat → List Addr} (r : REnv K G H σ ρ F) : REnv K (gFrz G H) H σ (lendE ρ) (fun _ => []) := by
  refine ⟨gFrz_H r.sub, by unfold lendE; rw [List.length_map]; exact r.len, fun i d q => ?_, fun _ _ => rfl, fun _ _ _ a ha => nomatch ha⟩
  obtain ⟨d0, h0, rfl⟩ := lendE_get q
  obtain ⟨v, hv, hr⟩ := r.at_ i d0 h0
  exact ⟨v, hv, hr.frz gFrz_G (gFrz_o hr)⟩
theorem lend_tr {G H G' H' : Hp} {F F' : Nat → List Addr} {L : List Addr} {σ : L2.St} {ρ : Env} (r : REnv K G H σ ρ F) (t : Tr (gFrz G H) H (own fun _ => []) G' H' (fun a => own F' a ∨ a ∈ L)) :
    Tr G H (own F) (gBack G H G') H' (fun a => own F a ∨ a ∈ L) ∧ REnv K (gBack G H G') H' σ ρ F ∧ (∀ a vs, SqT K G' a vs → SqT K (gBack G H G') a vs) ∧ (∀ a ∈ L, H a = none) := by
  obtain ⟨tt, k⟩ := back_ok (K := K) r.sub (t.wk (B := fun a => a ∈ ([] : List Addr)) (A2 := fun a => own F' a ∨ a ∈ L) (fun x ⟨_, z⟩ => nomatch z) fun x z => .inl z)
  have fresh : ∀ a ∈ L, H a = none := fun a ha => by
    rcases t.new a (.inr ha) with ⟨_, z⟩ | z
    · cases z
    · exact z
  refine ⟨tt.wk (fun _ z => z.elim) fun a z => ?_, r.tr tt fun _ _ z => z, k, fresh⟩
  rcases z with z | z
  · exact .inr (.inl z)
  · exact .inr (.inr (fresh a z))
theorem simE_lend {te : TE} {f : FE} (h : SimE K te f) : SimE K te (lendF f) := by
  intro ρ d ρ' e σ G H F r Q q
  unfold lendF at e
  obtain ⟨⟨d1, ρ1⟩, e1, e2⟩ := Option.bind_eq_some_iff.mp e
  simp only at e2
  by_cases hz : lendOk d1 = true
  · rw [if_pos hz] at e2
    cases e2
    refine h _ d ρ1 e1 σ (gFrz G H) H (fun _ => []) r.lend Q fun v G' H' F' L t rE rv n => ?_
    obtain ⟨tt, rr, k, fresh⟩ := lend_tr r t
    have ap : ∀ a ∈ L, ¬ own F a := fun a ha ⟨i, hi⟩ => by
      obtain ⟨_, _, e, _⟩ := r.owned i a hi
      rw [fresh a ha] at e; cases e
    by_cases hp : pureT d = true
    · exact q v _ H' F [] (tt.post fun a z => z.elim .inl fun z => nomatch z) rr (rv.pure k hp) fun a z => nomatch z
    · cases d with
      | lst o xs =>
        cases o with
        | false => exact absurd hz hp
        | true =>
          have hz : pureTs xs = true := hz
          cases rv with
          | lstO hG hH hn hr =>
            rename_i a vs L1
            have hg : gBack G H G' a = none := by
              unfold gBack
              rw [fresh a List.mem_cons_self]
              exact hG
            refine q _ _ H' F [a] (tt.post fun x z => z.elim .inl fun z => .inr ?_) rr (.lstO hg hH List.not_mem_nil (hr.pure k hz)) fun x hx => ?_
            · rcases List.mem_cons.mp z with z | z
              · exact z ▸ List.mem_cons_self
              · cases z
            · rcases List.mem_cons.mp hx with z | z
              · exact z ▸ ap a List.mem_cons_self
              · cases z
      | non => exact absurd rfl hp
      | bl b => exact absurd rfl hp
      | int i => exact absurd rfl hp
      | str s => exact absurd rfl hp
      | ty n => exact absurd rfl hp
      | tup xs => exact absurd hz hp
      | scr ns => cases hz
      | exc n d => cases hz
      | dct o kvs => cases hz
  · rw [if_neg hz] at e2; cases e2
theorem simT_lend {te : TT} {f : FB} (h : SimT K te f) : SimT K te (lendB f) := by
  intro ρ b ρ' e σ G H F r Q q
  unfold lendB at e
  obtain ⟨⟨b1, ρ1⟩, e1, e2⟩ := Option.bind_eq_some_iff.mp e
  cases e2
  refine h _ b1 ρ1 e1 σ (gFrz G H) H (fun _ => []) r.lend Q fun G' H' F' t rE => ?_
  obtain ⟨tt, rr, k, _⟩ := lend_tr (F' := F') (L := []) r (t.wk (fun _ z => z) fun a z => .inl (z.elim id fun z => nomatch z))
  exact q _ H' F (tt.post fun a z => .inl z) rr
end
section
variable {X : Cx} {e : Expr}
theorem pf_lend {f : FE} (h : PEf X e f) : PEf X e (lendF f) := .mk h (simE_lend (simE_of f))
theorem pt_lend {f : FB} (h : PTf X e f) : PTf X e (lendB f) := .mk h (simT_lend (simT_of' f))
end
end VS
set_option Elab.async false
set_option linter.all false
set_option maxRecDepth 100000
namespace VS
open PySem PySem.Spec PyProof.Rows L2 RZ
/-! ### a list in a list, handed to a def that may change it -/
section
variable {K : PySem.W.Frag} {G H : Hp}
theorem Reps.elemG : ∀ {vs : List V} {xs : List D} {L : List Addr} {j : Nat} {d : D}, Reps K G H vs xs L → xs[j]? = some d → ∃ v M, vs[j]? = some v ∧ Rep K G H v d M ∧ (∀ a ∈ M, a ∈ L) ∧
    ∀ (G' H' : Hp) (d' : D) (M' : List Addr), Same G G' → (∀ a ∈ L, a ∉ M → (G a = none → G' a = none) ∧ H' a = H a) → Rep K G' H' v d' M' → (∀ a ∈ M', a ∈ L → a ∈ M) → ∃ L', Reps K G' H' vs (xs.set j d') L' ∧ ∀ a ∈ L', (a ∈ L ∧ a ∉ M) ∨ a ∈ M'
  | _, _, _, j, d, .nil, e => by simp at e
  | _, _, _, 0, d, .cons (v := v0) (L := L) (M := M) h r n, e => by
    simp at e; subst e
    refine ⟨v0, L, rfl, h, fun a ha => List.mem_append_left _ ha, fun G' H' d' M' sg hk hd hs => ⟨M' ++ M, .cons hd (r.keep ⟨sg, fun a ha => (hk a (List.mem_append_right _ ha) fun hm => n a hm ha).1, fun a ha => (hk a (List.mem_append_right _ ha) fun hm => n a hm ha).2⟩) (fun a ha hm => n a (hs a ha (List.mem_append_right _ hm)) hm), fun a ha => ?_⟩⟩
    rcases List.mem_append.mp ha with z | z
    · exact .inr z
    · exact .inl ⟨List.mem_append_right _ z, fun y => n a y z⟩
  | _, _, _, j + 1, d, .cons (v := v0) (L := L) (M := M) h r n, e => by
    obtain ⟨v, M1, h1, h2, h3, h4⟩ := r.elemG (j := j) (by simpa using e)
    refine ⟨v, M1, by simpa using h1, h2, fun a ha => List.mem_append_right _ (h3 a ha), fun G' H' d' M' sg hk hd hs => ?_⟩
    obtain ⟨L', r', s'⟩ := h4 G' H' d' M' sg (fun a ha hm => hk a (List.mem_append_right _ ha) hm) hd (fun a ha hl => hs a ha (List.mem_append_right _ hl))
    have out : ∀ a ∈ L, a ∉ M1 := fun a ha hm => n a ha (h3 a hm)
    refine ⟨L ++ L', .cons (h.keep ⟨sg, fun a ha => (hk a (List.mem_append_left _ ha) (out a ha)).1, fun a ha => (hk a (List.mem_append_left _ ha) (out a ha)).2⟩) r' (fun a ha hm => ?_), fun a ha => ?_⟩
    · rcases s' a hm with z | z
      · exact n a ha z.1
      · exact out a ha (hs a z (List.mem_append_left _ ha))
    · rcases List.mem_append.mp ha with z | z
      · exact .inl ⟨List.mem_append_left _ z, out a z⟩
      · rcases s' a z with y | y
        · exact .inl ⟨List.mem_append_right _ y.1, y.2⟩
        · exact .inr y
end
def twoOs : List (Option D) → Option (D × D)
  | [some a, some b] => some (a, b)
  | _ => none
theorem twoOs_e {os : List (Option D)} {a b : D} (h : twoOs os = some (a, b)) : os = [some a, some b] := by
  unfold twoOs at h
  split at h
  · cases h; rfl
  · cases h
/-- fn(w, x[j]) -/
def callElF (fn : Fn) (iw il ix : Nat) : FE := fun ρ => if iw = il then none else match getS ρ iw, getS ρ il, getS ρ ix with
  | some w, some (.lst true xs), some (.int j) => (ixN xs.length j).bind fun k => (xs[k]?).bind fun y => (fn.sem [w, y]).bind fun q => (twoOs q.2).bind fun o => some (q.1, (ρ.set iw (some o.1)).set il (some (.lst true (xs.set k o.2))))
  | _, _, _ => none
theorem simE_callEl {K : PySem.W.Frag} {fn : Fn} {iw il ix : Nat} {dv : List V} {E : XK} (hd : dv = []) : SimE K (tCall (spOf K fn) dv E (tCons (tVar iw) (tCons (tOp (rIx K) (tVar il) (tVar ix)) tNil))) (callElF fn iw il ix) := by
  subst hd
  intro ρ d ρ' e σ G H F r Q q
  unfold callElF at e
  by_cases hne : iw = il
  · rw [if_pos hne] at e; cases e
  rw [if_neg hne] at e
  cases hw : getS ρ iw with
  | none => rw [hw] at e; cases e
  | some w =>
  cases h0 : getS ρ il with
  | none => rw [hw, h0] at e; cases e
  | some d0 =>
  cases hx : getS ρ ix with
  | none =>
    rw [hw, h0, hx] at e
    cases d0 with
    | lst o xs => cases o <;> cases e
    | _ => cases e
  | some dx =>
  rw [hw, h0, hx] at e
  cases d0 with
  | lst o xs =>
    cases o with
    | false => cases e
    | true =>
      cases dx with
      | int j =>
        have e1 : ((ixN xs.length j).bind fun k => (xs[k]?).bind fun y => (fn.sem [w, y]).bind fun q => (twoOs q.2).bind fun o => some (q.1, (ρ.set iw (some o.1)).set il (some (.lst true (xs.set k o.2))))) = some (d, ρ') := e
        obtain ⟨k, hk, e2⟩ := Option.bind_eq_some_iff.mp e1
        obtain ⟨y, hy, e3⟩ := Option.bind_eq_some_iff.mp e2
        obtain ⟨⟨d1, os⟩, hs, e4⟩ := Option.bind_eq_some_iff.mp e3
        obtain ⟨⟨w', y'⟩, h2, e5⟩ := Option.bind_eq_some_iff.mp e4
        obtain rfl := twoOs_e h2
        cases e5
        obtain ⟨vw, hvw, rw_⟩ := r.at_ iw _ hw
        obtain ⟨v, hv, hrep⟩ := r.at_ il _ h0
        obtain ⟨vx, hvx, rx⟩ := r.at_ ix _ hx
        generalize F ix = Fx at rx
        cases rx
        generalize hFi : F il = Fi at hrep
        cases hrep with
        | lstO hG hH hn hr =>
          rename_i a vs L
          obtain ⟨u, M, hu, hur, hM, hset⟩ := hr.elemG hy
          have subL : ∀ x ∈ L, x ∈ F il := fun x hx => by rw [hFi]; exact List.mem_cons_of_mem _ hx
          have aF : a ∈ F il := by rw [hFi]; exact List.mem_cons_self
          have hkL : ixN vs.length j = some k := by rw [hr.length]; exact hk
          have dWM : ∀ x ∈ F iw, x ∉ M := fun x hx hm => r.dis iw il hne x hx (subL x (hM x hm))
          refine ⟨vw, hvw, .ref a, hv, .int j, hvx, .inl ⟨a, vs, j, u, ?_, rfl, SqL.of hH, ?_, ?_⟩⟩
          · rfl
          · unfold atI
            rw [hkL]
            exact hu
          · show spOf K fn ([vw, u] ++ []) H Q E
            rw [List.append_nil]
            have rl : Reps K G H [vw, u] [w, y] (F iw ++ (M ++ [])) := .cons rw_ (.cons hur .nil (fun _ _ z => nomatch z)) (fun x hx hm => by
              rw [List.append_nil] at hm
              exact dWM x hx hm)
            rw [List.append_nil] at rl
            refine ⟨G, [w, y], F iw ++ M, d1, [some w', some y'], r.sub, rl, fn.len _ _ hs, hs, fun v2 G' H' P N t ro rv n => ?_⟩
            cases ro with
            | yes r1 ro2 dP =>
              rename_i P1 P2'
              cases ro2 with
              | yes r2 ro3 dP2 =>
                rename_i P2 P3
                cases ro3
                rw [List.append_nil] at dP t n
                have r0 := (r.drop iw).drop il
                have F0 : ∀ {x}, own (fset (fset F iw []) il []) x → ∃ m, m ≠ iw ∧ m ≠ il ∧ x ∈ F m := fun {x} ⟨m, hm⟩ => by
                  by_cases c1 : m = il
                  · subst c1; rw [fset_same] at hm; cases hm
                  · rw [fset_ne c1] at hm
                    by_cases c2 : m = iw
                    · subst c2; rw [fset_same] at hm; cases hm
                    · rw [fset_ne c2] at hm; exact ⟨m, c2, c1, hm⟩
                have nA : ∀ x, own (fset (fset F iw []) il []) x → ¬ x ∈ F iw ++ M := fun x hx hm => by
                  obtain ⟨m, c1, c2, hxm⟩ := F0 hx
                  rcases List.mem_append.mp hm with z | z
                  · exact r.dis m iw c1 x hxm z
                  · exact r.dis m il c2 x hxm (subL x (hM x z))
                have rd := r0.tr t nA
                have apart0 : ∀ x, own (fset (fset F iw []) il []) x → ¬ (x ∈ P1 ++ P2 ∨ x ∈ N) := fun x hx => by
                  obtain ⟨m, hm⟩ := id hx
                  exact t.apart (L := (fset (fset F iw []) il []) m) (r0.owned m) (fun b hb => nA b ⟨m, hb⟩) x hm
                -- the other ones in the list
                have nL : ∀ x ∈ a :: L, x ∉ M → ¬ x ∈ F iw ++ M := fun x hx hm hq => by
                  rcases List.mem_append.mp hq with z | z
                  · exact r.dis iw il hne x z (by rw [hFi]; exact hx)
                  · exact hm z
                have oL : ∀ x ∈ a :: L, G x = none ∧ ∃ o, H x = some o ∧ LD o := fun x hx => r.owned il x (by rw [hFi]; exact hx)
                have aM : a ∉ M := fun z => hn (hM a z)
                have apL : ∀ x ∈ a :: L, x ∉ M → ¬ (x ∈ P1 ++ P2 ∨ x ∈ N) := fun x hx hm hq => by
                  obtain ⟨_, o, e, _⟩ := oL x hx
                  rcases t.new x hq with z | z
                  · exact nL x hx hm z
                  · rw [e] at z; cases z
                have kpL : ∀ x ∈ a :: L, x ∉ M → (G x = none → G' x = none) ∧ H' x = H x := fun x hx hm => by
                  obtain ⟨_, o, e, _⟩ := oL x hx
                  exact ⟨fun hg => (t.keepG x o e (nL x hx hm)).trans hg, by rw [e]; exact t.keep x o e (nL x hx hm)⟩
                obtain ⟨L2, hr2, sL2⟩ := hset G' H' y' P2 t.g (fun x hx hm => kpL x (List.mem_cons_of_mem _ hx) hm) r2 (fun x hx hl => Classical.byContradiction fun hm => apL x (List.mem_cons_of_mem _ hl) hm (.inl (List.mem_append_right _ hx)))
                have haL2 : a ∉ L2 := fun z => by
                  rcases sL2 a z with y | y
                  · exact hn y.1
                  · exact apL a List.mem_cons_self aM (.inl (List.mem_append_right _ y))
                have ka := kpL a List.mem_cons_self aM
                have hnew : Rep K G' H' (.ref a) (.lst true (xs.set k y')) (a :: L2) := .lstO (ka.1 hG) (ka.2.trans hH) haL2 hr2
                have li : iw < ((ρ.set iw none).set il none).length := by rw [List.length_set, List.length_set]; exact r.lt hw
                have rp1 := rd.re (i := iw) li hvw r1 (fun x hx m hm hxm => apart0 x ⟨m, hxm⟩ (.inl (List.mem_append_left _ hx)))
                have oth : ∀ x ∈ a :: L2, x ∉ P1 ∧ ¬ own (fset (fset F iw []) il []) x := fun x hx => by
                  rcases List.mem_cons.mp hx with z | z
                  · subst z
                    refine ⟨fun hp => apL x List.mem_cons_self aM (.inl (List.mem_append_left _ hp)), fun ho => ?_⟩
                    obtain ⟨m, c1, c2, hxm⟩ := F0 ho
                    exact r.dis m il c2 x hxm aF
                  · rcases sL2 x z with y | y
                    · refine ⟨fun hp => apL x (List.mem_cons_of_mem _ y.1) y.2 (.inl (List.mem_append_left _ hp)), fun ho => ?_⟩
                      obtain ⟨m, c1, c2, hxm⟩ := F0 ho
                      exact r.dis m il c2 x hxm (subL x y.1)
                    · exact ⟨fun hp => dP x hp y, fun ho => apart0 x ho (.inl (List.mem_append_right _ y))⟩
                have rp2 := rp1.re (i := il) (by rw [List.length_set, List.length_set, List.length_set]; exact r.lt h0) hv hnew (fun x hx m hm hxm => by
                  by_cases c : m = iw
                  · subst c
                    rw [fset_same] at hxm
                    exact (oth x hx).1 hxm
                  · rw [fset_ne c] at hxm
                    exact (oth x hx).2 ⟨m, hxm⟩)
                have es : (((ρ.set iw none).set il none).set iw (some w')).set il (some (.lst true (xs.set k y'))) = (ρ.set iw (some w')).set il (some (.lst true (xs.set k y'))) := by
                  rw [List.set_comm _ _ (Ne.symm hne), List.set_set, List.set_set]
                rw [es] at rp2
                have Fn : ∀ {x}, own (fset (fset (fset (fset F iw []) il []) iw P1) il (a :: L2)) x → x ∈ P1 ∨ x ∈ a :: L2 ∨ own (fset (fset F iw []) il []) x := fun {x} ⟨m, hm⟩ => by
                  by_cases c1 : m = il
                  · subst c1; rw [fset_same] at hm; exact .inr (.inl hm)
                  · rw [fset_ne c1] at hm
                    by_cases c2 : m = iw
                    · subst c2; rw [fset_same] at hm; exact .inl hm
                    · rw [fset_ne c2] at hm; exact .inr (.inr ⟨m, hm⟩)
                refine q v2 G' H' _ N (t.wk (fun x hx => ?_) fun x hx => ?_) rp2 rv fun x hx ho => ?_
                · rcases List.mem_append.mp hx with z | z
                  · exact ⟨iw, z⟩
                  · exact ⟨il, subL x (hM x z)⟩
                · rcases hx with z | z
                  · rcases Fn z with y | y | y
                    · exact .inl (.inl (List.mem_append_left _ y))
                    · rcases List.mem_cons.mp y with y | y
                      · exact .inr (.inl ⟨il, y ▸ aF⟩)
                      · rcases sL2 x y with y | y
                        · exact .inr (.inl ⟨il, subL x y.1⟩)
                        · exact .inl (.inl (List.mem_append_right _ y))
                    · obtain ⟨m, _, _, hxm⟩ := F0 y
                      exact .inr (.inl ⟨m, hxm⟩)
                  · exact .inl (.inr z)
                · rcases Fn ho with y | y | y
                  · exact n x hx (List.mem_append_left _ y)
                  · rcases List.mem_cons.mp y with y | y
                    · subst y; exact apL x List.mem_cons_self aM (.inr hx)
                    · rcases sL2 x y with y | y
                      · exact apL x (List.mem_cons_of_mem _ y.1) y.2 (.inr hx)
                      · exact n x hx (List.mem_append_right _ y)
                  · exact apart0 x y (.inr hx)
      | _ => cases e
  | _ => cases e
section
variable {X : Cx} {k : Nat} {f : Addr} {fd : FuncData} {ps : List Str} {fn : Fn} {x : Str} {p pos : Pos} {e1 e2 : Expr} {iw il ix : Nat}
theorem pf_callEl (F : FnOk X.prog X.w X.K X.mg X.base CX0 k f fd ps (spOf X.K fn)) (hr : Room k X.A) (hg : Gl X x) (hm : X.mg x = some (.ref f)) (hk : PySem.W.keepIn X.K (.ref f) = true) (hb : Binds X.K fd ps [])
    (h1 : PE X e1 (tVar iw)) (h2 : PE X e2 (tOp (rIx X.K) (tVar il) (tVar ix))) (hdb : (x == ("__debug__" : Str)) = false := by decide) (hs1 : starEach [e1, e2] X.env = (false, eval e1 X.env) :: starEach [e2] X.env := by rfl) (hs2 : starEach [e2] X.env = (false, eval e2 X.env) :: starEach [] X.env := by rfl) (hpl : (backTo pos (starEach [e2] X.env)).any (·.1) = false := by rfl) :
    PEf X (.Call (.Name x p) [e1, e2] [] pos) (callElF fn iw il ix) := .mk (pe_call F hr hg hm hk hb .nil pass0 (pa_cons h1 (pa_cons h2 pa_nil hs2) hs1) hdb hs1 hpl) (simE_callEl rfl)
end
end VS
set_option Elab.async false
set_option linter.all false
set_option maxRecDepth 100000
namespace VS
open PySem PySem.Spec PyProof.Rows L2 RZ
/-! ### x = x + [..], where the lists hold lists of their own: what x held goes into the new one -/
section
variable {K : PySem.W.Frag} {G H : Hp}
theorem Reps.appL : ∀ {vs us : List V} {xs ys : List D} {L M : List Addr}, Reps K G H vs xs L → Reps K G H us ys M → (∀ a ∈ L, a ∉ M) → Reps K G H (vs ++ us) (xs ++ ys) (L ++ M)
  | _, us, _, ys, _, M, .nil, h, _ => h
  | _, us, _, ys, _, M, .cons (L := L1) (M := L2) hv hr n, h, d => by
    rw [List.append_assoc]
    refine .cons hv (Reps.appL hr h fun a ha => d a (List.mem_append_right _ ha)) fun a ha hm => ?_
    rcases List.mem_append.mp hm with z | z
    · exact n a ha z
    · exact d a (List.mem_append_left _ ha) z
end
def catMvF (i : Nat) (f : FE) : FE := fun ρ => match getS ρ i with
  | none => none
  | some _ => (f ρ).bind fun p => match p.1, getS p.2 i with
    | .lst true ys, some (.lst true xs) => if xs.length + ys.length ≤ smallL then some (.lst true (xs ++ ys), p.2.set i none) else none
    | _, _ => none
theorem simE_catMv {K : PySem.W.Frag} {te : TE} {i : Nat} {f : FE} (h : SimE K te f) : SimE K (tOp (rAddA K) (tVar i) te) (catMvF i f) := by
  intro ρ d ρ' e σ G H F r Q q
  unfold catMvF at e
  cases h0 : getS ρ i with
  | none => rw [h0] at e; cases e
  | some d0 =>
    rw [h0] at e
    have e1 : ((f ρ).bind fun p => match p.1, getS p.2 i with
      | .lst true ys, some (.lst true xs) => if xs.length + ys.length ≤ smallL then some (.lst true (xs ++ ys), p.2.set i none) else none
      | _, _ => none) = some (d, ρ') := e
    obtain ⟨⟨d1, ρ1⟩, hf, e2⟩ := Option.bind_eq_some_iff.mp e1
    simp only at e2
    split at e2
    · rename_i ys xs hx
      split at e2
      · rename_i hl
        cases e2
        obtain ⟨v, hv, _⟩ := r.at_ i d0 h0
        refine ⟨v, hv, ?_⟩
        refine h ρ _ ρ1 hf σ G H F r _ fun u G1 H1 F1 Lr t1 r1 ru n1 => ?_
        obtain ⟨v', hv', rv⟩ := r1.at_ i _ hx
        rw [hv] at hv'
        cases hv'
        generalize hFi : F1 i = Fi at rv
        cases rv with
        | @lstO a vs _ L1 hG hH hn hr =>
        cases ru with
        | @lstO b us _ L2 hG2 hH2 hn2 hr2 =>
        refine .inr (.inr (.inl ⟨a, b, vs, us, rfl, rfl, hH, hH2, by rw [hr.length, hr2.length]; exact small_line hl, fun p hp => ?_⟩))
        have aF : a ∈ F1 i := by rw [hFi]; exact List.mem_cons_self
        have sub1 : ∀ x ∈ L1, x ∈ F1 i := fun x hx => by rw [hFi]; exact List.mem_cons_of_mem _ hx
        have o1 : ∀ x ∈ L1, H1 x ≠ none := fun x hx hz => by
          obtain ⟨_, o, e, _⟩ := r1.owned i x (sub1 x hx)
          rw [hz] at e; cases e
        have o2 : ∀ x ∈ L2, H1 x ≠ none := fun x hx hz => by
          obtain ⟨_, o, e, _⟩ := hr2.owned x hx
          rw [hz] at e; cases e
        have dis : ∀ x ∈ L1, x ∉ L2 := fun x hx hy => n1 x (List.mem_cons_of_mem _ hy) ⟨i, sub1 x hx⟩
        have t2 := Tr.newO (A := fun x => own F1 x ∨ x ∈ b :: L2) (o := .lst (vs ++ us)) r1.sub hp
        have kk : ∀ L : List Addr, (∀ x ∈ L, H1 x ≠ none) → Keep G1 H1 G1 (upd H1 p (.lst (vs ++ us))) L := fun L ho => ⟨Same.refl _, fun _ _ z => z, fun x hx => upd_ne fun z => ho x hx (z ▸ hp)⟩
        have hnew : Rep K G1 (upd H1 p (.lst (vs ++ us))) (.ref p) (.lst true (xs ++ ys)) (p :: (L1 ++ L2)) := by
          refine .lstO (r1.sub.free hp) upd_same (fun z => ?_) (Reps.appL (hr.keep (kk L1 o1)) (hr2.keep (kk L2 o2)) dis)
          rcases List.mem_append.mp z with z | z
          · exact o1 p z hp
          · exact o2 p z hp
        have F0 : ∀ {x}, own (fset F1 i []) x → ∃ m, m ≠ i ∧ x ∈ F1 m := fun {x} ⟨m, hm⟩ => by
          by_cases c : m = i
          · subst c; rw [fset_same] at hm; cases hm
          · rw [fset_ne c] at hm; exact ⟨m, c, hm⟩
        have r0 := r1.drop i
        have t3 : Tr G1 H1 (fun _ => False) G1 (upd H1 p (.lst (vs ++ us))) (fun _ => False) := (Tr.newO (A := fun _ => False) (o := .lst (vs ++ us)) r1.sub hp).post fun _ z => z.elim
        have r2 := r0.tr t3 fun _ _ z => z
        refine q (.ref p) G1 _ _ (p :: (L1 ++ L2)) ((t1.trans t2).post fun x hx => ?_) r2 hnew fun x hx ho => ?_
        · rcases hx with z | z
          · obtain ⟨m, _, hm⟩ := F0 z
            exact .inl (.inl ⟨m, hm⟩)
          · rcases List.mem_cons.mp z with z | z
            · exact .inr z
            · rcases List.mem_append.mp z with z | z
              · exact .inl (.inl ⟨i, sub1 x z⟩)
              · exact .inl (.inr (List.mem_cons_of_mem _ z))
        · obtain ⟨m, c, hm⟩ := F0 ho
          rcases List.mem_cons.mp hx with z | z
          · subst z
            obtain ⟨_, o, e, _⟩ := r1.owned m _ hm
            rw [hp] at e; cases e
          · rcases List.mem_append.mp z with z | z
            · exact r1.dis i m (Ne.symm c) x (sub1 x z) hm
            · exact n1 x (List.mem_cons_of_mem _ z) ⟨m, hm⟩
      · cases e2
    · cases e2
section
variable {X : Cx} {a b : Expr} {pos : Pos} {i : Nat} {f : FE}
theorem pf_catMv (h1 : PE X a (tVar i)) (h2 : PEf X b f) : PEf X (.BinOp a .Add b pos) (catMvF i f) := .mk (pe_op op_addA h1 h2) (simE_catMv (simE_of f))
end
end VS
set_option Elab.async false
set_option linter.all false
set_option maxRecDepth 100000
namespace VS
open PySem PySem.Spec PyProof.Rows L2 RZ
/-! ### the words' values, step by step: what simp may use; each «and then» has a name, so that simp stays out of it -/
theorem nrfl {α : Sort _} {a b : α} (h : a = b) : a = b := h
def bd {α β : Type} (o : Option α) (f : α → Option β) : Option β := o.bind f
@[simp] theorem bd_some {α β : Type} (x : α) (f : α → Option β) : bd (some x) f = f x := nrfl rfl
@[simp] theorem bd_none {α β : Type} (f : α → Option β) : bd none f = none := nrfl rfl
def ift {α β : Type} (b : Bool) (x y : α → β) (a : α) : β := if b = true then x a else y a
@[simp] theorem ift_t {α β : Type} (x y : α → β) (a : α) : ift true x y a = x a := nrfl rfl
@[simp] theorem ift_f {α β : Type} (x y : α → β) (a : α) : ift false x y a = y a := nrfl rfl
def gb {α : Type} (b : Bool) (x : Option α) : Option α := if b = true then x else none
@[simp] theorem gb_t {α : Type} (x : Option α) : gb true x = x := nrfl rfl
@[simp] theorem gb_f {α : Type} (x : Option α) : gb false x = none := nrfl rfl
theorem gb_of {α : Type} {b : Bool} {x : Option α} (h : b = true) : gb b x = x := by rw [h]; rfl
theorem gb_ite {α : Type} {p : Prop} [Decidable p] (x : Option α) : (if p then x else none) = gb (decide p) x := by
  unfold gb
  by_cases h : p <;> simp [h]
def outK (g : FS) : Out → Option Out
  | .nx ρ => g ρ
  | o => some o
@[simp] theorem outK_nx (g : FS) (ρ : Env) : outK g (.nx ρ) = g ρ := nrfl rfl
@[simp] theorem outK_rt (g : FS) (d : D) (ρ : Env) : outK g (.rt d ρ) = some (.rt d ρ) := nrfl rfl
@[simp] theorem outK_bk (g : FS) (ρ : Env) : outK g (.bk ρ) = some (.bk ρ) := nrfl rfl
@[simp] theorem outK_ct (g : FS) (ρ : Env) : outK g (.ct ρ) = some (.ct ρ) := nrfl rfl
def blK : D × Env → Option (Bool × Env)
  | (.bl b, ρ) => some (b, ρ)
  | _ => none
@[simp] theorem blK_e (b : Bool) (ρ : Env) : blK (.bl b, ρ) = some (b, ρ) := rfl
def nxK  : Env → Option Out := fun ρ => some (.nx ρ)
@[simp] theorem nxK_e  (ρ : Env) : nxK  ρ = some (.nx ρ) := nrfl rfl
def asgK (g : D → Env → Option Env) : D × Env → Option Out := fun (d, ρ) => bd (g d ρ) nxK
@[simp] theorem asgK_e (g : D → Env → Option Env) (d : D) (ρ : Env) : asgK g (d, ρ) = bd (g d ρ) nxK := nrfl rfl
def dropK  : D × Env → Option Out := fun (d, ρ) => some (.nx ρ)
@[simp] theorem dropK_e  (d : D) (ρ : Env) : dropK  (d, ρ) = some (.nx ρ) := nrfl rfl
def retK  : D × Env → Option Out := fun (d, ρ) => some (.rt d ρ)
@[simp] theorem retK_e  (d : D) (ρ : Env) : retK  (d, ρ) = some (.rt d ρ) := nrfl rfl
def ifK (f : FS) (g : FS) : Bool × Env → Option Out := fun (b, ρ) => ift b f g ρ
@[simp] theorem ifK_e (f : FS) (g : FS) (b : Bool) (ρ : Env) : ifK f g (b, ρ) = ift b f g ρ := nrfl rfl
def notK  : Bool × Env → Option (Bool × Env) := fun (b, ρ) => some (!b, ρ)
@[simp] theorem notK_e  (b : Bool) (ρ : Env) : notK  (b, ρ) = some (!b, ρ) := nrfl rfl
def boK (b0 : Bool) : Env → Option (Bool × Env) := fun ρ => some (b0, ρ)
@[simp] theorem boK_e (b0 : Bool) (ρ : Env) : boK b0 ρ = some (b0, ρ) := nrfl rfl
def bvK (b0 : Bool) : Env → Option (D × Env) := fun ρ => some (D.bl b0, ρ)
@[simp] theorem bvK_e (b0 : Bool) (ρ : Env) : bvK b0 ρ = some (D.bl b0, ρ) := nrfl rfl
def andK (g : FB) : Bool × Env → Option (Bool × Env) := fun (b, ρ) => ift b g (boK false) ρ
@[simp] theorem andK_e (g : FB) (b : Bool) (ρ : Env) : andK g (b, ρ) = ift b g (boK false) ρ := nrfl rfl
def orK (g : FB) : Bool × Env → Option (Bool × Env) := fun (b, ρ) => ift b (boK true) g ρ
@[simp] theorem orK_e (g : FB) (b : Bool) (ρ : Env) : orK g (b, ρ) = ift b (boK true) g ρ := nrfl rfl
def bEK  : Bool × Env → Option (D × Env) := fun (b, ρ) => some (D.bl b, ρ)
@[simp] theorem bEK_e  (b : Bool) (ρ : Env) : bEK  (b, ρ) = some (D.bl b, ρ) := nrfl rfl
def ifEK (f : FE) (g : FE) : Bool × Env → Option (D × Env) := fun (b, ρ) => ift b f g ρ
@[simp] theorem ifEK_e (f : FE) (g : FE) (b : Bool) (ρ : Env) : ifEK f g (b, ρ) = ift b f g ρ := nrfl rfl
def andVK (g : FE) : Bool × Env → Option (D × Env) := fun (b, ρ) => ift b g (bvK false) ρ
@[simp] theorem andVK_e (g : FE) (b : Bool) (ρ : Env) : andVK g (b, ρ) = ift b g (bvK false) ρ := nrfl rfl
def orVK (g : FE) : Bool × Env → Option (D × Env) := fun (b, ρ) => ift b (bvK true) g ρ
@[simp] theorem orVK_e (g : FE) (b : Bool) (ρ : Env) : orVK g (b, ρ) = ift b (bvK true) g ρ := nrfl rfl
def notVK  : Bool × Env → Option (D × Env) := fun (b, ρ) => some (D.bl (!b), ρ)
@[simp] theorem notVK_e  (b : Bool) (ρ : Env) : notVK  (b, ρ) = some (D.bl (!b), ρ) := nrfl rfl
def pairK (ρ : Env) : D → Option (D × Env) := fun d => some (d, ρ)
@[simp] theorem pairK_e (ρ : Env) (d : D) : pairK ρ d = some (d, ρ) := nrfl rfl
def setK (ρ : Env) (i : Nat) : D → Option (D × Env) := fun d => some (d, ρ.set i none)
@[simp] theorem setK_e (ρ : Env) (i : Nat) (d : D) : setK ρ i d = some (d, ρ.set i none) := nrfl rfl
def frzK (i : Nat) (d : D) : Env → Option (D × Env) := fun ρ => some (freeze d, ρ.set i (some (freeze d)))
@[simp] theorem frzK_e (i : Nat) (d : D) (ρ : Env) : frzK i d ρ = some (freeze d, ρ.set i (some (freeze d))) := nrfl rfl
def keepK (d : D) : Env → Option (D × Env) := fun ρ => some (d, ρ)
@[simp] theorem keepK_e (d : D) (ρ : Env) : keepK d ρ = some (d, ρ) := nrfl rfl
def varK (ρ : Env) (i : Nat) : D → Option (D × Env) := fun d => ift (noOwn d) (keepK d) (frzK i d) ρ
@[simp] theorem varK_e (ρ : Env) (i : Nat) (d : D) : varK ρ i d = ift (noOwn d) (keepK d) (frzK i d) ρ := nrfl rfl
def evbK2  : List (Option D) × Env → Option (List (Option D) × Env) := fun (ts, ρ) => some (none :: ts, ρ)
@[simp] theorem evbK2_e  (ts : List (Option D)) (ρ : Env) : evbK2  (ts, ρ) = some (none :: ts, ρ) := nrfl rfl
def evtK2 (d : D) : List (Option D) × Env → Option (List (Option D) × Env) := fun (ts, ρ) => some (some d :: ts, ρ)
@[simp] theorem evtK2_e (d : D) (ts : List (Option D)) (ρ : Env) : evtK2 d (ts, ρ) = some (some d :: ts, ρ) := nrfl rfl
def evbK (r : List Op) (ρ : Env) : D → Option (List (Option D) × Env) := fun _ => bd (evOps r ρ) evbK2
@[simp] theorem evbK_e (r : List Op) (ρ : Env) (d : D) : evbK r ρ d = bd (evOps r ρ) evbK2 := nrfl rfl
def evtK (r : List Op) : D × Env → Option (List (Option D) × Env) := fun (d, ρ) => bd (evOps r ρ) (evtK2 d)
@[simp] theorem evtK_e (r : List Op) (d : D) (ρ : Env) : evtK r (d, ρ) = bd (evOps r ρ) (evtK2 d) := nrfl rfl
def consK (d : D) : List D → Option (List D) := fun ds => some (d :: ds)
@[simp] theorem consK_e (d : D) (ds : List D) : consK d ds = some (d :: ds) := nrfl rfl
def febK (r : List Op) (ts : List (Option D)) (ρ : Env) : D → Option (List D) := fun d => bd (fetch r ts ρ) (consK d)
@[simp] theorem febK_e (r : List Op) (ts : List (Option D)) (ρ : Env) (d : D) : febK r ts ρ d = bd (fetch r ts ρ) (consK d) := nrfl rfl
def tabK (r : List Op) (ts : List (Option D)) (ρ : Env) : D → Option (List D) := fun d => gb (noOwn d) (bd (takeN r ts ρ) (consK d))
@[simp] theorem tabK_e (r : List Op) (ts : List (Option D)) (ρ : Env) (d : D) : tabK r ts ρ d = gb (noOwn d) (bd (takeN r ts ρ) (consK d)) := nrfl rfl
def opK2 (g : List D → Option D) (ρ : Env) : List D → Option (D × Env) := fun ds => bd (g ds) (pairK ρ)
@[simp] theorem opK2_e (g : List D → Option D) (ρ : Env) (ds : List D) : opK2 g ρ ds = bd (g ds) (pairK ρ) := nrfl rfl
def opK (g : List D → Option D) (ops : List Op) : List (Option D) × Env → Option (D × Env) := fun (ts, ρ) => bd (fetch ops ts ρ) (opK2 g ρ)
@[simp] theorem opK_e (g : List D → Option D) (ops : List Op) (ts : List (Option D)) (ρ : Env) : opK g ops (ts, ρ) = bd (fetch ops ts ρ) (opK2 g ρ) := nrfl rfl
def tupK2 (ρ : Env) : List D → Option (D × Env) := fun ds => gb (decide (ds.length ≤ smallL)) (some (D.tup ds, ρ))
@[simp] theorem tupK2_e (ρ : Env) (ds : List D) : tupK2 ρ ds = gb (decide (ds.length ≤ smallL)) (some (D.tup ds, ρ)) := nrfl rfl
def tupK (ops : List Op) : List (Option D) × Env → Option (D × Env) := fun (ts, ρ) => bd (takeN ops ts ρ) (tupK2 ρ)
@[simp] theorem tupK_e (ops : List Op) (ts : List (Option D)) (ρ : Env) : tupK ops (ts, ρ) = bd (takeN ops ts ρ) (tupK2 ρ) := nrfl rfl
def lstK2 (ρ : Env) : List D → Option (D × Env) := fun ds => gb (decide (ds.length ≤ smallL)) (some (D.lst true ds, ρ))
@[simp] theorem lstK2_e (ρ : Env) (ds : List D) : lstK2 ρ ds = gb (decide (ds.length ≤ smallL)) (some (D.lst true ds, ρ)) := nrfl rfl
def lstK (ops : List Op) : List (Option D) × Env → Option (D × Env) := fun (ts, ρ) => bd (takeN ops ts ρ) (lstK2 ρ)
@[simp] theorem lstK_e (ops : List Op) (ts : List (Option D)) (ρ : Env) : lstK ops (ts, ρ) = bd (takeN ops ts ρ) (lstK2 ρ) := nrfl rfl
def parK2 (is : List Nat) (ρ : Env) : List D → Option Out := fun ds => gb (decide (ds.length = is.length)) (some (.nx (setAll is ds ρ)))
@[simp] theorem parK2_e (is : List Nat) (ρ : Env) (ds : List D) : parK2 is ρ ds = gb (decide (ds.length = is.length)) (some (.nx (setAll is ds ρ))) := nrfl rfl
def parK (is : List Nat) (ops : List Op) : List (Option D) × Env → Option Out := fun (ts, ρ) => bd (takeN ops ts ρ) (parK2 is ρ)
@[simp] theorem parK_e (is : List Nat) (ops : List Op) (ts : List (Option D)) (ρ : Env) : parK is ops (ts, ρ) = bd (takeN ops ts ρ) (parK2 is ρ) := nrfl rfl
def tgcK (gs : List D → Env → Option Env) (r : List D) : Env → Option Env := fun ρ => gs r ρ
@[simp] theorem tgcK_e (gs : List D → Env → Option Env) (r : List D) (ρ : Env) : tgcK gs r ρ = gs r ρ := nrfl rfl
def sub3K (k : Nat) (d0 : D) (ρ : Env) : List D → Option Env := fun ds => subPut ρ k d0 ds (getS ρ k)
@[simp] theorem sub3K_e (k : Nat) (d0 : D) (ρ : Env) (ds : List D) : sub3K k d0 ρ ds = subPut ρ k d0 ds (getS ρ k) := nrfl rfl
def sub2K (k : Nat) (oi : Op) (d0 : D) : List (Option D) × Env → Option Env := fun (ts, ρ) => bd (fetch [oi] ts ρ) (sub3K k d0 ρ)
@[simp] theorem sub2K_e (k : Nat) (oi : Op) (d0 : D) (ts : List (Option D)) (ρ : Env) : sub2K k oi d0 (ts, ρ) = bd (fetch [oi] ts ρ) (sub3K k d0 ρ) := nrfl rfl
def sub1K (k : Nat) (oi : Op) (d0 : D) (ρ : Env) : D → Option Env := fun _ => bd (evOps [oi] ρ) (sub2K k oi d0)
@[simp] theorem sub1K_e (k : Nat) (oi : Op) (d0 : D) (ρ : Env) (d : D) : sub1K k oi d0 ρ d = bd (evOps [oi] ρ) (sub2K k oi d0) := nrfl rfl
def putAt (ρ : Env) (k : Nat) (d : D) (xs : List D) : Nat → Option Env := fun j => some (ρ.set k (some (.lst true (xs.set j d))))
@[simp] theorem putAt_e (ρ : Env) (k : Nat) (d : D) (xs : List D) (j : Nat) : putAt ρ k d xs j = some (ρ.set k (some (.lst true (xs.set j d)))) := nrfl rfl
def truK2 (ρ : Env) : Bool → Option (Bool × Env) := fun b => some (b, ρ)
@[simp] theorem truK2_e (ρ : Env) (b : Bool) : truK2 ρ b = some (b, ρ) := nrfl rfl
def truK1 (ρ : Env) : List D → Option (Bool × Env)
  | [d] => bd (truD d) (truK2 ρ)
  | _ => none
@[simp] theorem truK1_e (ρ : Env) (d : D) : truK1 ρ [d] = bd (truD d) (truK2 ρ) := nrfl rfl
def truK (o : Op) : List (Option D) × Env → Option (Bool × Env) := fun p => bd (fetch [o] p.1 p.2) (truK1 p.2)
@[simp] theorem truK_e (o : Op) (ts : List (Option D)) (ρ : Env) : truK o (ts, ρ) = bd (fetch [o] ts ρ) (truK1 ρ) := nrfl rfl
def mutK2 (i : Nat) (ρ : Env) : D × List D → Option (D × Env) := fun q => some (q.1, ρ.set i (some (.lst true q.2)))
@[simp] theorem mutK2_e (i : Nat) (ρ : Env) (d : D) (xs : List D) : mutK2 i ρ (d, xs) = some (d, ρ.set i (some (.lst true xs))) := nrfl rfl
def mutK (g : List D → List D → Option (D × List D)) (i : Nat) (ρ : Env) (ds : List D) : Option D → Option (D × Env)
  | some (.lst true xs) => bd (g xs ds) (mutK2 i ρ)
  | _ => none
@[simp] theorem mutK_e (g : List D → List D → Option (D × List D)) (i : Nat) (ρ : Env) (ds xs : List D) : mutK g i ρ ds (some (.lst true xs)) = bd (g xs ds) (mutK2 i ρ) := nrfl rfl
def isO : Option D → Bool
  | some (.lst true _) => true
  | _ => false
@[simp] theorem isO_e (xs : List D) : isO (some (.lst true xs)) = true := rfl
def mutK1 (g : List D → List D → Option (D × List D)) (i : Nat) (ρ : Env) : List D → Option (D × Env) := fun ds => mutK g i ρ ds (getS ρ i)
@[simp] theorem mutK1_e (g : List D → List D → Option (D × List D)) (i : Nat) (ρ : Env) (ds : List D) : mutK1 g i ρ ds = mutK g i ρ ds (getS ρ i) := nrfl rfl
def mutK0 (g : List D → List D → Option (D × List D)) (i : Nat) (ops : List Op) : List (Option D) × Env → Option (D × Env) := fun (ts, ρ) => bd (takeN ops ts ρ) (mutK1 g i ρ)
@[simp] theorem mutK0_e (g : List D → List D → Option (D × List D)) (i : Nat) (ops : List Op) (ts : List (Option D)) (ρ : Env) : mutK0 g i ops (ts, ρ) = bd (takeN ops ts ρ) (mutK1 g i ρ) := nrfl rfl
def augK3 (i : Nat) (ρ : Env) : D → Option Out := fun d => some (.nx (ρ.set i (some d)))
@[simp] theorem augK3_e (i : Nat) (ρ : Env) (d : D) : augK3 i ρ d = some (.nx (ρ.set i (some d))) := nrfl rfl
def augK2 (i : Nat) (g : List D → Option D) (d0 : D) (ρ : Env) : List D → Option Out := fun ds => bd (g (d0 :: ds)) (augK3 i ρ)
@[simp] theorem augK2_e (i : Nat) (g : List D → Option D) (d0 : D) (ρ : Env) (ds : List D) : augK2 i g d0 ρ ds = bd (g (d0 :: ds)) (augK3 i ρ) := nrfl rfl
def augK1 (i : Nat) (g : List D → Option D) (o : Op) (d0 : D) : List (Option D) × Env → Option Out := fun (ts, ρ) => bd (fetch [o] ts ρ) (augK2 i g d0 ρ)
@[simp] theorem augK1_e (i : Nat) (g : List D → Option D) (o : Op) (d0 : D) (ts : List (Option D)) (ρ : Env) : augK1 i g o d0 (ts, ρ) = bd (fetch [o] ts ρ) (augK2 i g d0 ρ) := nrfl rfl
def augK (i : Nat) (g : List D → Option D) (o : Op) (ρ : Env) : D → Option Out := fun d => gb (noOwn d) (bd (evOps [o] ρ) (augK1 i g o d))
@[simp] theorem augK_e (i : Nat) (g : List D → Option D) (o : Op) (ρ : Env) (d : D) : augK i g o ρ d = gb (noOwn d) (bd (evOps [o] ρ) (augK1 i g o d)) := nrfl rfl
def fcK (d0 : D) : List D × Env → Option (List D × Env) := fun (ds, ρ) => some (d0 :: ds, ρ)
@[simp] theorem fcK_e (d0 : D) (ds : List D) (ρ : Env) : fcK d0 (ds, ρ) = some (d0 :: ds, ρ) := nrfl rfl
def fcB (ps : List Bool) (r : List Op) (ts : List (Option D)) : Env → Option (List D × Env) := fetchC ps r ts
@[simp] theorem fcB_e (ps : List Bool) (r : List Op) (ts : List (Option D)) (ρ : Env) : fcB ps r ts ρ = fetchC ps r ts ρ := nrfl rfl
def fcN (ps : List Bool) (i : Nat) (r : List Op) (ts : List (Option D)) : Env → Option (List D × Env) := fun ρ => fetchC ps r ts (ρ.set i none)
@[simp] theorem fcN_e (ps : List Bool) (i : Nat) (r : List Op) (ts : List (Option D)) (ρ : Env) : fcN ps i r ts ρ = fetchC ps r ts (ρ.set i none) := nrfl rfl
def fcb1 (ps : List Bool) (r : List Op) (ts : List (Option D)) (d : D) : Env → Option (List D × Env) := fun ρ => bd (fcB ps r ts ρ) (fcK d)
@[simp] theorem fcb1_e (ps : List Bool) (r : List Op) (ts : List (Option D)) (d : D) (ρ : Env) : fcb1 ps r ts d ρ = bd (fetchC ps r ts ρ) (fcK d) := nrfl rfl
def fcb2 (p : Bool) (ps : List Bool) (i : Nat) (r : List Op) (ts : List (Option D)) (d : D) : Env → Option (List D × Env) := fun ρ => gb p (bd (fcN ps i r ts ρ) (fcK d))
@[simp] theorem fcb2_e (p : Bool) (ps : List Bool) (i : Nat) (r : List Op) (ts : List (Option D)) (d : D) (ρ : Env) : fcb2 p ps i r ts d ρ = gb p (bd (fetchC ps r ts (ρ.set i none)) (fcK d)) := rfl
def fcbK (p : Bool) (ps : List Bool) (i : Nat) (r : List Op) (ts : List (Option D)) (ρ : Env) : D → Option (List D × Env) := fun d => ift (noOwn d) (fcb1 ps r ts d) (fcb2 p ps i r ts d) ρ
@[simp] theorem fcbK_e (p : Bool) (ps : List Bool) (i : Nat) (r : List Op) (ts : List (Option D)) (ρ : Env) (d : D) : fcbK p ps i r ts ρ d = ift (noOwn d) (fcb1 ps r ts d) (fcb2 p ps i r ts d) ρ := nrfl rfl
def caK2 (ops : List Op) (ds : List D) (ρ : Env) : D × List (Option D) → Option (D × Env) := fun (d, os) => some (d, putB ops ds os ρ)
@[simp] theorem caK2_e (ops : List Op) (ds : List D) (ρ : Env) (d : D) (os : List (Option D)) : caK2 ops ds ρ (d, os) = some (d, putB ops ds os ρ) := nrfl rfl
def caK1 (fn : Fn) (ops : List Op) : List D × Env → Option (D × Env) := fun (ds, ρ) => bd (fn.sem ds) (caK2 ops ds ρ)
@[simp] theorem caK1_e (fn : Fn) (ops : List Op) (ds : List D) (ρ : Env) : caK1 fn ops (ds, ρ) = bd (fn.sem ds) (caK2 ops ds ρ) := nrfl rfl
def caK (fn : Fn) (ops : List Op) : List (Option D) × Env → Option (D × Env) := fun (ts, ρ) => bd (fetchC fn.pins ops ts ρ) (caK1 fn ops)
@[simp] theorem caK_e (fn : Fn) (ops : List Op) (ts : List (Option D)) (ρ : Env) : caK fn ops (ts, ρ) = bd (fetchC fn.pins ops ts ρ) (caK1 fn ops) := nrfl rfl
def ckK (fn : Fn) (is : List Nat) (ops : List Op) : List (Option D) × Env → Option (D × Env) := fun (ts, ρ) => bd (fetchC fn.pins (permL is ops) (permL is ts) ρ) (caK1 fn (permL is ops))
@[simp] theorem ckK_e (fn : Fn) (is : List Nat) (ops : List Op) (ts : List (Option D)) (ρ : Env) : ckK fn is ops (ts, ρ) = bd (fetchC fn.pins (permL is ops) (permL is ts) ρ) (caK1 fn (permL is ops)) := nrfl rfl
@[simp] theorem seqF_e (f g : FS) (ρ : Env) : seqF f g ρ = bd (f ρ) (outK g) := by
  unfold seqF bd
  congr 1
@[simp] theorem asgF_e (f : FE) (g : D → Env → Option Env) (ρ : Env) : asgF f g ρ = bd (f ρ) (asgK g) := nrfl rfl
@[simp] theorem dropF_e (f : FE) (ρ : Env) : dropF f ρ = bd (f ρ) dropK := nrfl rfl
@[simp] theorem retF_e (f : FE) (ρ : Env) : retF f ρ = bd (f ρ) retK := nrfl rfl
@[simp] theorem retN_e (ρ : Env) : retN ρ = some (.rt .non ρ) := nrfl rfl
@[simp] theorem passF_e (ρ : Env) : passF ρ = some (.nx ρ) := nrfl rfl
@[simp] theorem brkF_e (ρ : Env) : brkF ρ = some (.bk ρ) := nrfl rfl
@[simp] theorem cntF_e (ρ : Env) : cntF ρ = some (.ct ρ) := nrfl rfl
@[simp] theorem neverF_e (ρ : Env) : neverF ρ = none := nrfl rfl
@[simp] theorem ifF_e (c : FB) (f g : FS) (ρ : Env) : ifF c f g ρ = bd (c ρ) (ifK f g) := nrfl rfl
@[simp] theorem tgN_e (i : Nat) (d : D) (ρ : Env) : tgN i d ρ = some (ρ.set i (some d)) := nrfl rfl
@[simp] theorem tgNil_e (ρ : Env) : tgNil [] ρ = some ρ := nrfl rfl
@[simp] theorem tgCons_e (g : D → Env → Option Env) (gs : List D → Env → Option Env) (d : D) (r : List D) (ρ : Env) : tgCons g gs (d :: r) ρ = bd (g d ρ) (tgcK gs r) := nrfl rfl
@[simp] theorem tgT_e (n : Nat) (gs : List D → Env → Option Env) (xs : List D) (ρ : Env) : tgT n gs (.tup xs) ρ = gb (decide (xs.length = n)) (gs xs ρ) := gb_ite _
@[simp] theorem tgSub_e (k : Nat) (oi : Op) (d : D) (ρ : Env) : tgSub k oi d ρ = bd (getS ρ k) (sub1K k oi d ρ) := nrfl rfl
@[simp] theorem subPut_e (ρ : Env) (k : Nat) (d : D) (i : Int) (xs : List D) : subPut ρ k d [.int i] (some (.lst true xs)) = bd (ixN xs.length i) (putAt ρ k d xs) := nrfl rfl
@[simp] theorem tstF_e (o : Op) (ρ : Env) : tstF o ρ = bd (evOps [o] ρ) (truK o) := by
  unfold tstF bd
  congr 1
@[simp] theorem notF_e (f : FB) (ρ : Env) : notF f ρ = bd (f ρ) notK := nrfl rfl
@[simp] theorem andF_e (f g : FB) (ρ : Env) : andF f g ρ = bd (f ρ) (andK g) := nrfl rfl
@[simp] theorem orF_e (f g : FB) (ρ : Env) : orF f g ρ = bd (f ρ) (orK g) := nrfl rfl
@[simp] theorem yesF_e (ρ : Env) : yesF ρ = some (true, ρ) := nrfl rfl
@[simp] theorem bT_e (f : FE) (ρ : Env) : bT f ρ = bd (f ρ) blK := by
  unfold bT bd
  congr 1
  funext p
  obtain ⟨d, ρ⟩ := p
  cases d <;> rfl
@[simp] theorem bE_e (f : FB) (ρ : Env) : bE f ρ = bd (f ρ) bEK := nrfl rfl
@[simp] theorem ifE_e (c : FB) (f g : FE) (ρ : Env) : ifE c f g ρ = bd (c ρ) (ifEK f g) := nrfl rfl
def thenK {α β γ : Type} (f : α → Option β) (g : β → Option γ) : α → Option γ := fun a => bd (f a) g
@[simp] theorem thenK_e {α β γ : Type} (f : α → Option β) (g : β → Option γ) (a : α) : thenK f g a = bd (f a) g := nrfl rfl
@[simp] theorem andV_e (f g : FE) (ρ : Env) : andV f g ρ = bd (f ρ) (thenK blK (andVK g)) := by
  unfold andV bd
  congr 1
  funext p
  obtain ⟨d, ρ⟩ := p
  cases d <;> first | rfl | (rename_i b; cases b <;> rfl)
@[simp] theorem orV_e (f g : FE) (ρ : Env) : orV f g ρ = bd (f ρ) (thenK blK (orVK g)) := by
  unfold orV bd
  congr 1
  funext p
  obtain ⟨d, ρ⟩ := p
  cases d <;> first | rfl | (rename_i b; cases b <;> rfl)
@[simp] theorem notV_e (f : FE) (ρ : Env) : notV f ρ = bd (f ρ) (thenK blK notVK) := by
  unfold notV bd
  congr 1
  funext p
  obtain ⟨d, ρ⟩ := p
  cases d <;> rfl
@[simp] theorem litF_e (d : D) (ρ : Env) : litF d ρ = some (d, ρ) := nrfl rfl
@[simp] theorem varF_e (i : Nat) (ρ : Env) : varF i ρ = bd (getS ρ i) (varK ρ i) := nrfl rfl
@[simp] theorem movF_e (i : Nat) (ρ : Env) : movF i ρ = bd (getS ρ i) (setK ρ i) := nrfl rfl
@[simp] theorem getS_z (a : Option D) (ρ : Env) : getS (a :: ρ) 0 = a := by
  cases a <;> rfl
@[simp] theorem getS_s (a : Option D) (ρ : Env) (n : Nat) : getS (a :: ρ) (n + 1) = getS ρ n := nrfl rfl
@[simp] theorem evOps_nil (ρ : Env) : evOps [] ρ = some ([], ρ) := nrfl rfl
@[simp] theorem evOps_b (i : Nat) (r : List Op) (ρ : Env) : evOps (.b i :: r) ρ = bd (getS ρ i) (evbK r ρ) := nrfl rfl
@[simp] theorem evOps_t (f : FE) (r : List Op) (ρ : Env) : evOps (.t f :: r) ρ = bd (f ρ) (evtK r) := nrfl rfl
@[simp] theorem fetch_nil (ts : List (Option D)) (ρ : Env) : fetch [] ts ρ = some [] := nrfl rfl
@[simp] theorem fetch_b (i : Nat) (r : List Op) (t : Option D) (ts : List (Option D)) (ρ : Env) : fetch (.b i :: r) (t :: ts) ρ = bd (getS ρ i) (febK r ts ρ) := nrfl rfl
@[simp] theorem fetch_t (f : FE) (r : List Op) (d : D) (ts : List (Option D)) (ρ : Env) : fetch (.t f :: r) (some d :: ts) ρ = bd (fetch r ts ρ) (consK d) := nrfl rfl
@[simp] theorem takeN_nil (ts : List (Option D)) (ρ : Env) : takeN [] ts ρ = some [] := nrfl rfl
@[simp] theorem takeN_b (i : Nat) (r : List Op) (t : Option D) (ts : List (Option D)) (ρ : Env) : takeN (.b i :: r) (t :: ts) ρ = bd (getS ρ i) (tabK r ts ρ) := nrfl rfl
@[simp] theorem takeN_t (f : FE) (r : List Op) (d : D) (ts : List (Option D)) (ρ : Env) : takeN (.t f :: r) (some d :: ts) ρ = bd (takeN r ts ρ) (consK d) := nrfl rfl
@[simp] theorem opF_e (g : List D → Option D) (ops : List Op) (ρ : Env) : opF g ops ρ = bd (evOps ops ρ) (opK g ops) := nrfl rfl
@[simp] theorem tupF_e (ops : List Op) (ρ : Env) : tupF ops ρ = bd (evOps ops ρ) (tupK ops) := by
  unfold tupF tupK tupK2 bd; congr 1; funext p; congr 1; funext ds; exact gb_ite _
@[simp] theorem lstF_e (ops : List Op) (ρ : Env) : lstF ops ρ = bd (evOps ops ρ) (lstK ops) := by
  unfold lstF lstK lstK2 bd; congr 1; funext p; congr 1; funext ds; exact gb_ite _
@[simp] theorem parF_e (is : List Nat) (ops : List Op) (ρ : Env) : parF is ops ρ = bd (evOps ops ρ) (parK is ops) := by
  unfold parF parK parK2 bd; congr 1; funext p; congr 1; funext ds; exact gb_ite _
@[simp] theorem setAll_c (i : Nat) (is : List Nat) (d : D) (ds : List D) (ρ : Env) : setAll (i :: is) (d :: ds) ρ = setAll is ds (ρ.set i (some d)) := nrfl rfl
@[simp] theorem setAll_n (ρ : Env) : setAll [] [] ρ = ρ := nrfl rfl
@[simp] theorem mutF_e (i : Nat) (g : List D → List D → Option (D × List D)) (ops : List Op) (ρ : Env) : mutF i g ops ρ = gb (isO (getS ρ i)) (bd (evOps ops ρ) (mutK0 g i ops)) := by
  unfold mutF
  cases h : getS ρ i with
  | none => rfl
  | some d =>
    cases d with
    | lst o xs =>
      cases o with
      | false => rfl
      | true =>
        simp only [isO_e, gb_t]
        unfold mutK0 bd
        congr 1
    | _ => rfl
@[simp] theorem augF_e (i : Nat) (g : List D → Option D) (o : Op) (ρ : Env) : augF i g o ρ = bd (getS ρ i) (augK i g o ρ) := by
  unfold augF bd; congr 1
/-! calls -/
@[simp] theorem fetchC_nil (ρ : Env) : fetchC [] [] [] ρ = some ([], ρ) := nrfl rfl
@[simp] theorem fetchC_b (p : Bool) (ps : List Bool) (i : Nat) (r : List Op) (t : Option D) (ts : List (Option D)) (ρ : Env) : fetchC (p :: ps) (.b i :: r) (t :: ts) ρ = bd (getS ρ i) (fcbK p ps i r ts ρ) := by
  cases t <;> rfl
@[simp] theorem fetchC_t (p : Bool) (ps : List Bool) (f : FE) (r : List Op) (d : D) (ts : List (Option D)) (ρ : Env) : fetchC (p :: ps) (.t f :: r) (some d :: ts) ρ = bd (fetchC ps r ts ρ) (fcK d) := nrfl rfl
@[simp] theorem putB_n (ds : List D) (os : List (Option D)) (ρ : Env) : putB [] ds os ρ = ρ := nrfl rfl
@[simp] theorem putB_b (i : Nat) (r : List Op) (d : D) (ds : List D) (o : Option D) (os : List (Option D)) (ρ : Env) : putB (.b i :: r) (d :: ds) (o :: os) ρ = putB r ds os (cond (noOwn d) ρ (ρ.set i o)) := by
  show (if noOwn d = true then _ else _) = _
  cases noOwn d <;> rfl
@[simp] theorem putB_t (f : FE) (r : List Op) (d : D) (ds : List D) (o : Option D) (os : List (Option D)) (ρ : Env) : putB (.t f :: r) (d :: ds) (o :: os) ρ = putB r ds os ρ := nrfl rfl
@[simp] theorem callF_e (fn : Fn) (ops : List Op) (ρ : Env) : callF fn ops ρ = bd (evOps ops ρ) (caK fn ops) := nrfl rfl
@[simp] theorem callKF_e (fn : Fn) (is : List Nat) (ops : List Op) (ρ : Env) : callKF fn is ops ρ = bd (evOps ops ρ) (ckK fn is ops) := nrfl rfl
@[simp] theorem permL_n {α : Type} (xs : List α) : permL [] xs = [] := nrfl rfl
@[simp] theorem permL_c {α : Type} (i : Nat) (is : List Nat) (xs : List α) : permL (i :: is) xs = (xs[i]?).toList ++ permL is xs := by
  unfold permL
  cases h : xs[i]? <;> simp [List.filterMap_cons, h]
def finK (pins : List Bool) : Out → Option (D × List (Option D))
  | .rt d ρ => some (d, finP pins ρ)
  | .nx ρ => some (.non, finP pins ρ)
  | _ => none
@[simp] theorem finK_rt (pins : List Bool) (d : D) (ρ : Env) : finK pins (.rt d ρ) = some (d, finP pins ρ) := nrfl rfl
@[simp] theorem finK_nx (pins : List Bool) (ρ : Env) : finK pins (.nx ρ) = some (.non, finP pins ρ) := nrfl rfl
@[simp] theorem finP_n (ρ : Env) : finP [] ρ = [] := by cases ρ <;> rfl
@[simp] theorem finP_t (ps : List Bool) (o : Option D) (ρ : Env) : finP (true :: ps) (o :: ρ) = o :: finP ps ρ := nrfl rfl
@[simp] theorem finP_f (ps : List Bool) (o : Option D) (ρ : Env) : finP (false :: ps) (o :: ρ) = none :: finP ps ρ := nrfl rfl
theorem bodyFn_sem (nN np : Nat) (pins : List Bool) (f : FS) (ds : List D) : (bodyFn nN np pins f).sem ds = gb (decide (ds.length = np)) (bd (f (ds.map some ++ List.replicate (nN - np) none)) (finK pins)) := by
  show bodySem nN np pins f ds = _
  unfold bodySem
  by_cases h : ds.length = np
  · rw [if_pos h]; simp only [h, decide_true, gb_t]
    cases e : f (ds.map some ++ List.replicate (nN - np) none) with
    | none => rfl
    | some o => cases o <;> rfl
  · rw [if_neg h]; simp [h]
@[simp] theorem bodyFn_pins (nN np : Nat) (pins : List Bool) (f : FS) : (bodyFn nN np pins f).pins = pins := nrfl rfl
end VS
set_option Elab.async false
set_option linter.all false
set_option maxRecDepth 100000
namespace VS
open PySem PySem.Spec PyProof.Rows L2 RZ
/-! ### the operations' values -/
@[simp] theorem noOwn_non : noOwn .non = true := by simp [noOwn]
@[simp] theorem noOwn_bl (b : Bool) : noOwn (.bl b) = true := by simp [noOwn]
@[simp] theorem noOwn_int (i : Int) : noOwn (.int i) = true := by simp [noOwn]
@[simp] theorem noOwn_str (i : Str) : noOwn (.str i) = true := by simp [noOwn]
@[simp] theorem noOwn_ty (i : String) : noOwn (.ty i) = true := by simp [noOwn]
@[simp] theorem noOwn_scr (i : List Int) : noOwn (.scr i) = true := by simp [noOwn]
@[simp] theorem noOwn_tup (xs : List D) : noOwn (.tup xs) = noOwns xs := by simp [noOwn]
@[simp] theorem noOwn_lst (o : Bool) (xs : List D) : noOwn (.lst o xs) = (!o && noOwns xs) := by simp [noOwn]
@[simp] theorem noOwns_nil : noOwns [] = true := by simp [noOwns]
@[simp] theorem noOwns_cons (x : D) (xs : List D) : noOwns (x :: xs) = (noOwn x && noOwns xs) := by simp [noOwns]
theorem noOwns_all : ∀ {xs : List D}, (∀ x ∈ xs, noOwn x = true) → noOwns xs = true
  | [], _ => by simp
  | x :: xs, h => by simp [h x (by simp), noOwns_all (xs := xs) fun y hy => h y (by simp [hy])]
theorem noOwns_map {α : Type} {f : α → D} (h : ∀ x, noOwn (f x) = true) (xs : List α) : noOwns (xs.map f) = true := noOwns_all fun x hx => by
  obtain ⟨a, _, rfl⟩ := List.mem_map.mp hx
  exact h a
@[simp] theorem noOwns_ints (xs : List Int) : noOwns (xs.map D.int) = true := noOwns_map (fun _ => by simp) xs
theorem noOwns_append (xs ys : List D) : noOwns (xs ++ ys) = (noOwns xs && noOwns ys) := by
  induction xs with
  | nil => simp
  | cons x xs ih => simp [ih, Bool.and_assoc]
mutual
theorem freeze_of {d : D} (h : noOwn d = true) : freeze d = d := by
  cases d with
  | tup xs => simp only [noOwn_tup] at h; simp only [freeze, freezes_of h]
  | lst o xs =>
    simp only [noOwn_lst, Bool.and_eq_true, Bool.not_eq_true'] at h
    simp only [freeze, freezes_of h.2, h.1]
  | dct o kvs => cases o with
    | false => simp only [freeze]
    | true => cases h
  | _ => simp only [freeze]
theorem freezes_of {xs : List D} (h : noOwns xs = true) : freezes xs = xs := by
  cases xs with
  | nil => simp only [freezes]
  | cons x xs =>
    simp only [noOwns_cons, Bool.and_eq_true] at h
    simp only [freezes, freeze_of h.1, freezes_of h.2]
end
@[simp] theorem freeze_lst (o : Bool) (xs : List D) : freeze (.lst o xs) = .lst false (freezes xs) := by simp only [freeze]
@[simp] theorem freezes_ints (xs : List Int) : freezes (xs.map D.int) = xs.map D.int := freezes_of (noOwns_ints xs)
@[simp] theorem freezes_nil : freezes [] = [] := by simp only [freezes]
@[simp] theorem freezes_cons (x : D) (xs : List D) : freezes (x :: xs) = freeze x :: freezes xs := by simp only [freezes]
@[simp] theorem addD_i (a b : Int) : addD [.int a, .int b] = some (.int (a + b)) := nrfl rfl
theorem addD_l {o o' : Bool} {xs ys : List D} (h1 : noOwns xs = true) (h2 : noOwns ys = true) (h3 : xs.length + ys.length ≤ 100000) : addD [.lst o xs, .lst o' ys] = some (.lst true (xs ++ ys)) := by
  show (if noOwns xs = true ∧ noOwns ys = true ∧ xs.length + ys.length ≤ smallL then _ else _) = _
  rw [if_pos ⟨h1, h2, h3⟩]
theorem addD_t {xs ys : List D} (h1 : noOwns xs = true) (h2 : noOwns ys = true) (h3 : xs.length + ys.length ≤ 100000) : addD [.tup xs, .tup ys] = some (.tup (xs ++ ys)) := by
  show (if noOwns xs = true ∧ noOwns ys = true ∧ xs.length + ys.length ≤ smallL then _ else _) = _
  rw [if_pos ⟨h1, h2, h3⟩]
@[simp] theorem subD_i (a b : Int) : subD [.int a, .int b] = some (.int (a - b)) := nrfl rfl
@[simp] theorem mulD_i (a b : Int) : mulD [.int a, .int b] = gb (mulOk a b) (some (.int (a * b))) := gb_ite (p := mulOk a b = true) _ |>.trans (by simp)
theorem mulOk_l {a b : Int} (h1 : -18446744073709551616 < a) (h2 : a < 18446744073709551616) : mulOk a b = true := by
  unfold mulOk; simp [h1, h2]
theorem mulOk_r {a b : Int} (h1 : -18446744073709551616 < b) (h2 : b < 18446744073709551616) : mulOk a b = true := by
  unfold mulOk; simp [h1, h2]
theorem mulD_n {o : Bool} {xs : List D} {k : Int} (h1 : noOwns xs = true) (h2 : -1000000 ≤ k) (h3 : k ≤ 1000000) (h4 : xs.length * k.toNat ≤ 100000) : mulD [.lst o xs, .int k] = some (.lst true (List.replicate k.toNat xs).flatten) := by
  show (if _ then _ else _) = _
  rw [if_pos ⟨h1, h2, h3, h4⟩]
@[simp] theorem fdivD_i (a b : Int) : fdivD [.int a, .int b] = gb (fdivOk b) (some (.int (a.fdiv b))) := gb_ite (p := fdivOk b = true) _ |>.trans (by simp)
@[simp] theorem modD_i (a b : Int) : modD [.int a, .int b] = gb (decide (b ≠ 0)) (some (.int (a.fmod b))) := gb_ite (p := b ≠ 0) _
@[simp] theorem powD_i (a b : Int) : powD [.int a, .int b] = gb (powOk a b) (some (.int (a ^ b.toNat))) := gb_ite (p := powOk a b = true) _ |>.trans (by simp)
@[simp] theorem negD_i (a : Int) : negD [.int a] = some (.int (-a)) := nrfl rfl
@[simp] theorem ltD_i (a b : Int) : ltD [.int a, .int b] = some (.bl (decide (a < b))) := nrfl rfl
@[simp] theorem leD_i (a b : Int) : leD [.int a, .int b] = some (.bl (decide (a ≤ b))) := nrfl rfl
@[simp] theorem gtD_i (a b : Int) : gtD [.int a, .int b] = some (.bl (decide (b < a))) := nrfl rfl
@[simp] theorem geD_i (a b : Int) : geD [.int a, .int b] = some (.bl (decide (b ≤ a))) := nrfl rfl
@[simp] theorem iaddD_i (a b : Int) : iaddD [.int a, .int b] = some (.int (a + b)) := nrfl rfl
@[simp] theorem isubD_i (a b : Int) : isubD [.int a, .int b] = some (.int (a - b)) := nrfl rfl
@[simp] theorem lenD_l (o : Bool) (xs : List D) : lenD [.lst o xs] = some (.int xs.length) := nrfl rfl
@[simp] theorem lenD_t (xs : List D) : lenD [.tup xs] = some (.int xs.length) := nrfl rfl
@[simp] theorem lenD_s (ns : List Int) : lenD [.scr ns] = some (.int ns.length) := nrfl rfl
@[simp] theorem intD_i (a : Int) : intD [.int a] = some (.int a) := nrfl rfl
@[simp] theorem intD_b (b : Bool) : intD [.bl b] = some (.int (if b then 1 else 0)) := nrfl rfl
@[simp] theorem max2D_i (a b : Int) : max2D [.int a, .int b] = some (.int (if b > a then b else a)) := nrfl rfl
@[simp] theorem min2D_i (a b : Int) : min2D [.int a, .int b] = some (.int (if b < a then b else a)) := nrfl rfl
@[simp] theorem absD_i (a : Int) : absD [.int a] = some (.int (if a < 0 then -a else a)) := nrfl rfl
theorem tupleD_l {o : Bool} {xs : List D} (h : noOwns xs = true) : tupleD [.lst o xs] = some (.tup xs) := if_pos h
@[simp] theorem isNonD_e (x : D) : isNonD [x, .non] = some (.bl (isNon x)) := by cases x <;> rfl
@[simp] theorem notNonD_e (x : D) : notNonD [x, .non] = some (.bl (!isNon x)) := by cases x <;> rfl
@[simp] theorem isNon_non : isNon .non = true := nrfl rfl
@[simp] theorem isNon_int (i : Int) : isNon (.int i) = false := nrfl rfl
@[simp] theorem isNon_bl (i : Bool) : isNon (.bl i) = false := nrfl rfl
@[simp] theorem isNon_str (i : Str) : isNon (.str i) = false := nrfl rfl
@[simp] theorem isNon_tup (i : List D) : isNon (.tup i) = false := nrfl rfl
@[simp] theorem isNon_lst (o : Bool) (i : List D) : isNon (.lst o i) = false := nrfl rfl
@[simp] theorem truD_bl (b : Bool) : truD (.bl b) = some b := nrfl rfl
@[simp] theorem truD_int (i : Int) : truD (.int i) = some (i != 0) := nrfl rfl
@[simp] theorem truD_non : truD .non = some false := nrfl rfl
@[simp] theorem truD_tup (xs : List D) : truD (.tup xs) = some (!xs.isEmpty) := nrfl rfl
@[simp] theorem truD_lst (o : Bool) (xs : List D) : truD (.lst o xs) = some (!xs.isEmpty) := nrfl rfl
/-! places in a list -/
theorem ixN_nn {n : Nat} {i : Int} (h : 0 ≤ i) (h2 : i < n) : ixN n i = some i.toNat := by unfold ixN; rw [if_pos h, if_pos h2]
theorem ixN_neg {n : Nat} {i : Int} (h : i < 0) (h2 : -(n : Int) ≤ i) : ixN n i = some (i + n).toNat := by unfold ixN; rw [if_neg (by omega), if_pos h2]
theorem ixN_nat {n k : Nat} (h2 : k < n) : ixN n (k : Int) = some k := by rw [ixN_nn (by omega) (by omega)]; simp
theorem atI_nat {α : Type} {xs : List α} {k : Nat} {x : α} (h : xs[k]? = some x) : atI xs (k : Int) = some x := by
  unfold atI
  rw [ixN_nat (List.getElem?_eq_some_iff.mp h).1]
  exact h
theorem atI_neg {α : Type} {xs : List α} {i : Int} {x : α} (h : i < 0) (h2 : -(xs.length : Int) ≤ i) (e : xs[(i + xs.length).toNat]? = some x) : atI xs i = some x := by
  unfold atI
  rw [ixN_neg h h2]
  exact e
@[simp] theorem atI_0 {α : Type} (x : α) (xs : List α) : atI (x :: xs) 0 = some x := atI_nat (k := 0) rfl
@[simp] theorem atI_1 {α : Type} (x y : α) (xs : List α) : atI (x :: y :: xs) 1 = some y := atI_nat (k := 1) rfl
@[simp] theorem atI_2 {α : Type} (x y z : α) (xs : List α) : atI (x :: y :: z :: xs) 2 = some z := atI_nat (k := 2) rfl
@[simp] theorem ixN_0 (n : Nat) : ixN (n + 1) 0 = some 0 := ixN_nat (k := 0) (by omega)
@[simp] theorem ixN_1 (n : Nat) : ixN (n + 1 + 1) 1 = some 1 := ixN_nat (k := 1) (by omega)
@[simp] theorem ixN_2 (n : Nat) : ixN (n + 1 + 1 + 1) 2 = some 2 := ixN_nat (k := 2) (by omega)
def ownK : D → Option D := fun d => gb (noOwn d) (some d)
@[simp] theorem ownK_e (d : D) : ownK d = gb (noOwn d) (some d) := nrfl rfl
theorem ownK_of : (fun d : D => if noOwn d = true then some d else none) = ownK := by
  funext d; exact (gb_ite (p := noOwn d = true) _).trans (by simp)
@[simp] theorem ixD_l (o : Bool) (xs : List D) (i : Int) : ixD [.lst o xs, .int i] = bd (atI xs i) ownK := by
  show (atI xs i).bind _ = _; rw [ownK_of]; rfl
@[simp] theorem ixD_t (xs : List D) (i : Int) : ixD [.tup xs, .int i] = bd (atI xs i) ownK := by
  show (atI xs i).bind _ = _; rw [ownK_of]; rfl
def intK : Int → Option D := fun d => some (.int d)
@[simp] theorem intK_e (d : Int) : intK d = some (.int d) := nrfl rfl
@[simp] theorem ixD_s (xs : List Int) (i : Int) : ixD [.scr xs, .int i] = bd (atI xs i) intK := nrfl rfl
/-! equality -/
@[simp] theorem eqOk_int (i : Int) : eqOk (.int i) = true := nrfl rfl
@[simp] theorem eqOk_bl (i : Bool) : eqOk (.bl i) = true := nrfl rfl
@[simp] theorem eqOk_non : eqOk .non = true := nrfl rfl
@[simp] theorem eqD_e (x y : D) : eqD [x, y] = gb (eqOk x && eqOk y) (some (.bl (deq x y))) := by
  show (if _ then _ else _) = _
  rw [gb_ite]; simp
@[simp] theorem neD_e (x y : D) : neD [x, y] = gb (eqOk x && eqOk y) (some (.bl (!deq x y))) := by
  show (if _ then _ else _) = _
  rw [gb_ite]; simp
@[simp] theorem deq_int (i j : Int) : deq (.int i) (.int j) = decide (i = j) := by
  unfold deq pyD PyData.eqv
  by_cases h : i = j <;> simp [h]
@[simp] theorem deq_bl (i j : Bool) : deq (.bl i) (.bl j) = (i == j) := by
  unfold deq pyD PyData.eqv; rfl
/-! the lists' methods -/
theorem appD_e {xs : List D} (d : D) (h : xs.length < 100000) : appD xs [d] = some (.non, xs ++ [d]) := if_pos h
theorem popD_e (xs : List D) (d : D) : popD (xs ++ [d]) [] = some (d, xs) := by
  unfold popD
  simp [List.eraseIdx_append_of_length_le]
theorem popAtD_e {xs : List D} {i : Int} {d : D} (h : 0 ≤ i) (h1 : i < 1000000000) (h2 : xs[i.toNat]? = some d) : popAtD xs [.int i] = some (d, xs.eraseIdx i.toNat) := by
  have hl := (List.getElem?_eq_some_iff.mp h2).1
  show (if _ then _ else _) = _
  rw [if_pos ⟨by omega, h1⟩, ixN_nn h (by omega)]
  simp [h2]
/-! ranges -/
theorem rng1D_e {j : Int} (h1 : -4611686018427387904 ≤ j) (h2 : j < 4611686018427387904) : rng1D [.int j] = some (intsTo 0 j.toNat) := if_pos ⟨h1, h2⟩
theorem rng3D_e {i j : Int} (h1 : -4611686018427387904 ≤ i) (h2 : i < 4611686018427387904) (h3 : -4611686018427387904 ≤ j) (h4 : j < 4611686018427387904) : rng3D [.int i, .int j, .int (-1)] = some (intsBy i (-1) (i - j).toNat) := if_pos ⟨rfl, h1, h2, h3, h4⟩
def lrgK : List D → Option D := fun xs => gb (decide (xs.length ≤ smallL)) (some (.lst true xs))
theorem lrgK_e {xs : List D} (h : xs.length ≤ 100000) : lrgK xs = some (.lst true xs) := by
  unfold lrgK; rw [gb_of]; exact decide_eq_true h
@[simp] theorem lrgD_e (rd : List D → Option (List D)) (ds : List D) : lrgD rd ds = bd (rd ds) lrgK := by
  unfold lrgD bd lrgK; congr 1; funext xs; exact gb_ite _
theorem intsTo_map (n : Nat) : intsTo 0 n = (List.range n).map fun i => D.int (i : Nat) := by
  unfold intsTo; simp
theorem len_intsTo (i : Int) (n : Nat) : (intsTo i n).length = n := by unfold intsTo; simp
/-! what is gone through -/
@[simp] theorem seqD_l (o : Bool) (xs : List D) : seqD (.lst o xs) = some (freezes xs) := nrfl rfl
@[simp] theorem seqD_t (xs : List D) : seqD (.tup xs) = some (freezes xs) := nrfl rfl
def seqK : D × Env → Option (List D × Env) := fun p => bd (seqD p.1) fun xs => some (xs, p.2)
def withK (ρ : Env) : List D → Option (List D × Env) := fun xs => some (xs, ρ)
@[simp] theorem withK_e (ρ : Env) (xs : List D) : withK ρ xs = some (xs, ρ) := nrfl rfl
@[simp] theorem seqK_e (d : D) (ρ : Env) : seqK (d, ρ) = bd (seqD d) (withK ρ) := nrfl rfl
@[simp] theorem itSeq_e (f : FE) (ρ : Env) : itSeq f ρ = bd (f ρ) seqK := nrfl rfl
def enumL (xs : List D) : List D := ((intsTo 0 xs.length).zip xs).map fun q => .tup [q.1, q.2]
def enK2 (ρ : Env) : List D → Option (List D × Env) := fun xs => some (enumL xs, ρ)
@[simp] theorem enK2_e (ρ : Env) (xs : List D) : enK2 ρ xs = some (enumL xs, ρ) := nrfl rfl
def enK : D × Env → Option (List D × Env) := fun p => bd (seqD p.1) (enK2 p.2)
@[simp] theorem enK_e (d : D) (ρ : Env) : enK (d, ρ) = bd (seqD d) (enK2 ρ) := nrfl rfl
@[simp] theorem itEnum_e (f : FE) (ρ : Env) : itEnum f ρ = bd (f ρ) enK := nrfl rfl
def rgK2 (rd : List D → Option (List D)) (ρ : Env) : List D → Option (List D × Env) := fun ds => bd (rd ds) (withK ρ)
@[simp] theorem rgK2_e (rd : List D → Option (List D)) (ρ : Env) (ds : List D) : rgK2 rd ρ ds = bd (rd ds) (withK ρ) := nrfl rfl
def rgK (rd : List D → Option (List D)) (ops : List Op) : List (Option D) × Env → Option (List D × Env) := fun p => bd (fetch ops p.1 p.2) (rgK2 rd p.2)
@[simp] theorem rgK_e (rd : List D → Option (List D)) (ops : List Op) (ts : List (Option D)) (ρ : Env) : rgK rd ops (ts, ρ) = bd (fetch ops ts ρ) (rgK2 rd ρ) := nrfl rfl
@[simp] theorem itRg_e (rd : List D → Option (List D)) (ops : List Op) (ρ : Env) : itRg rd ops ρ = bd (evOps ops ρ) (rgK rd ops) := nrfl rfl
def zipL (xs ys : List D) : List D := (xs.zip ys).map fun u => .tup [u.1, u.2]
def ziK3 (ρ : Env) : List D × List D → Option (List D × Env) := fun r => some (zipL r.1 r.2, ρ)
@[simp] theorem ziK3_e (ρ : Env) (xs ys : List D) : ziK3 ρ (xs, ys) = some (zipL xs ys, ρ) := nrfl rfl
def ziK2 (d : D) : D × Env → Option (List D × Env) := fun q => bd (pairD d q.1) (ziK3 q.2)
@[simp] theorem ziK2_e (d e : D) (ρ : Env) : ziK2 d (e, ρ) = bd (pairD d e) (ziK3 ρ) := nrfl rfl
def ziK (g : FE) : D × Env → Option (List D × Env) := fun p => bd (g p.2) (ziK2 p.1)
@[simp] theorem ziK_e (g : FE) (d : D) (ρ : Env) : ziK g (d, ρ) = bd (g ρ) (ziK2 d) := nrfl rfl
@[simp] theorem itZip_e (f g : FE) (ρ : Env) : itZip f g ρ = bd (f ρ) (ziK g) := nrfl rfl
@[simp] theorem pairD_l (o o' : Bool) (xs ys : List D) : pairD (.lst o xs) (.lst o' ys) = some (freezes xs, freezes ys) := nrfl rfl
@[simp] theorem pairD_t (xs ys : List D) : pairD (.tup xs) (.tup ys) = some (freezes xs, freezes ys) := nrfl rfl
/-! loops -/
def goForK (tg : D → Env → Option Env) (body : FS) : List D × Env → Option Out := fun p => goFor tg body p.1 p.2
@[simp] theorem goForK_e (tg : D → Env → Option Env) (body : FS) (ds : List D) (ρ : Env) : goForK tg body (ds, ρ) = goFor tg body ds ρ := nrfl rfl
@[simp] theorem forF_e (it : FI) (tg : D → Env → Option Env) (body : FS) (ρ : Env) : forF it tg body ρ = bd (it ρ) (goForK tg body) := nrfl rfl
@[simp] theorem whF_e (n : Nat) (c : FB) (body : FS) (ρ : Env) : whF n c body ρ = goWhile c body n ρ := nrfl rfl
@[simp] theorem goFor_nil (tg : D → Env → Option Env) (body : FS) (ρ : Env) : goFor tg body [] ρ = some (.nx ρ) := nrfl rfl
def loopK (k : Env → Option Out) : Out → Option Out
  | .nx ρ2 => k ρ2
  | .ct ρ2 => k ρ2
  | .bk ρ2 => some (.nx ρ2)
  | .rt d ρ2 => some (.rt d ρ2)
  | .rz n d ρ2 => some (.rz n d ρ2)
@[simp] theorem loopK_rz (k : Env → Option Out) (n : Str) (d : D) (ρ : Env) : loopK k (.rz n d ρ) = some (.rz n d ρ) := nrfl rfl
@[simp] theorem loopK_nx (k : Env → Option Out) (ρ : Env) : loopK k (.nx ρ) = k ρ := nrfl rfl
@[simp] theorem loopK_ct (k : Env → Option Out) (ρ : Env) : loopK k (.ct ρ) = k ρ := nrfl rfl
@[simp] theorem loopK_bk (k : Env → Option Out) (ρ : Env) : loopK k (.bk ρ) = some (.nx ρ) := nrfl rfl
@[simp] theorem loopK_rt (k : Env → Option Out) (d : D) (ρ : Env) : loopK k (.rt d ρ) = some (.rt d ρ) := nrfl rfl
/-- one turn: the target stored, the body -/
def turn (tg : D → Env → Option Env) (body : FS) (d : D) (ρ : Env) : Option Out := bd (tg d ρ) body
theorem turn_e (tg : D → Env → Option Env) (body : FS) (d : D) (ρ : Env) : turn tg body d ρ = bd (tg d ρ) body := rfl
theorem goFor_cons (tg : D → Env → Option Env) (body : FS) (d : D) (ds : List D) (ρ : Env) : goFor tg body (d :: ds) ρ = bd (turn tg body d ρ) (loopK (goFor tg body ds)) := by
  unfold turn bd
  show (tg d ρ).bind _ = _
  cases tg d ρ with
  | none => rfl
  | some ρ1 =>
    show (body ρ1).bind _ = (body ρ1).bind _
    rfl
/-- a loop that goes through all: what holds in front of each turn -/
theorem for_inv {tg : D → Env → Option Env} {body : FS} (I : Nat → Env → Prop) {ds : List D} {ρ : Env} (h0 : I 0 ρ)
    (hs : ∀ i d ρ, ds[i]? = some d → I i ρ → ∃ ρ2, (turn tg body d ρ = some (.nx ρ2) ∨ turn tg body d ρ = some (.ct ρ2)) ∧ I (i + 1) ρ2) : ∃ ρ', goFor tg body ds ρ = some (.nx ρ') ∧ I ds.length ρ' := by
  induction ds generalizing ρ I with
  | nil => exact ⟨ρ, rfl, h0⟩
  | cons d ds ih =>
    obtain ⟨ρ2, h, i2⟩ := hs 0 d ρ rfl h0
    obtain ⟨ρ', h', i'⟩ := ih (fun i => I (i + 1)) i2 fun i d ρ e j => hs (i + 1) d ρ e j
    refine ⟨ρ', ?_, i'⟩
    rw [goFor_cons]
    rcases h with h | h <;> rw [h] <;> exact h'
/-- a comprehension: each turn gives one thing -/
def lcK2 : List D × Env → Option (D × Env) := fun q => gb (decide (q.1.length ≤ smallL)) (some (.lst true q.1, q.2))
@[simp] theorem lcK2_e (xs : List D) (ρ : Env) : lcK2 (xs, ρ) = gb (decide (xs.length ≤ smallL)) (some (.lst true xs, ρ)) := nrfl rfl
def lcK (vs : List Nat) (fg : D → Env → Option Env) (ft : FB) (fe : FE) : List D × Env → Option (D × Env) := fun p => bd (goLc vs fg ft fe p.1 (wipeD p.2 vs)) lcK2
@[simp] theorem lcK_e (vs : List Nat) (fg : D → Env → Option Env) (ft : FB) (fe : FE) (ds : List D) (ρ : Env) : lcK vs fg ft fe (ds, ρ) = bd (goLc vs fg ft fe ds (wipeD ρ vs)) lcK2 := nrfl rfl
@[simp] theorem lcF_e (vs : List Nat) (fi : FI) (fg : D → Env → Option Env) (ft : FB) (fe : FE) (ρ : Env) : lcF vs fi fg ft fe ρ = bd (fi ρ) (lcK vs fg ft fe) := by
  unfold lcF lcK lcK2 bd; congr 1; funext p; congr 1; funext q; exact gb_ite _
@[simp] theorem wipeD_n (ρ : Env) : wipeD ρ [] = ρ := nrfl rfl
@[simp] theorem wipeD_c (ρ : Env) (v : Nat) (vs : List Nat) : wipeD ρ (v :: vs) = (wipeD ρ vs).set v none := nrfl rfl
/-- one turn of a comprehension without if -/
def lcTurn (vs : List Nat) (fg : D → Env → Option Env) (fe : FE) (d : D) (ρ : Env) : Option (D × Env) := bd (bd (fg d ρ) fe) fun q => some (q.1, wipeD q.2 vs)
def wipeK (vs : List Nat) : D × Env → Option (D × Env) := fun q => some (q.1, wipeD q.2 vs)
@[simp] theorem wipeK_e (vs : List Nat) (d : D) (ρ : Env) : wipeK vs (d, ρ) = some (d, wipeD ρ vs) := nrfl rfl
theorem lcTurn_e (vs : List Nat) (fg : D → Env → Option Env) (fe : FE) (d : D) (ρ : Env) : lcTurn vs fg fe d ρ = bd (bd (fg d ρ) fe) (wipeK vs) := rfl
end VS
set_option Elab.async false
set_option linter.all false
set_option maxRecDepth 100000
namespace VS
open PySem PySem.Spec PyProof.Rows L2 RZ
@[simp] theorem isL_e (o : Bool) (xs : List D) : isL (some (.lst o xs)) = true := nrfl rfl
@[simp] theorem methF_e (i : Nat) (g : List D → Option D) (ops : List Op) (ρ : Env) : methF i g ops ρ = gb (isL (getS ρ i)) (bd (evOps (.b i :: ops) ρ) (opK g (.b i :: ops))) := by
  unfold methF gb
  rw [opF_e]
def chK5 (p' : Int → Int → Bool) (j : Int) (ρ : Env) : Int → Option (D × Env) := fun m => some (.bl (p' j m), ρ)
@[simp] theorem chK5_e (p' : Int → Int → Bool) (j : Int) (ρ : Env) (m : Int) : chK5 p' j ρ m = some (.bl (p' j m), ρ) := nrfl rfl
def chK4 (p' : Int → Int → Bool) (j : Int) (ρ : Env) : List D → Option (D × Env) := fun es => bd (int1 es) (chK5 p' j ρ)
@[simp] theorem chK4_e (p' : Int → Int → Bool) (j : Int) (ρ : Env) (m : Int) : chK4 p' j ρ [.int m] = some (.bl (p' j m), ρ) := nrfl rfl
def chK3 (p' : Int → Int → Bool) (o3 : Op) (j : Int) : List (Option D) × Env → Option (D × Env) := fun P => bd (fetch [o3] P.1 P.2) (chK4 p' j P.2)
@[simp] theorem chK3_e (p' : Int → Int → Bool) (o3 : Op) (j : Int) (ts : List (Option D)) (ρ : Env) : chK3 p' o3 j (ts, ρ) = bd (fetch [o3] ts ρ) (chK4 p' j ρ) := nrfl rfl
def chT (p' : Int → Int → Bool) (o3 : Op) (j : Int) : Env → Option (D × Env) := fun ρ => bd (evOps [o3] ρ) (chK3 p' o3 j)
@[simp] theorem chT_e (p' : Int → Int → Bool) (o3 : Op) (j : Int) (ρ : Env) : chT p' o3 j ρ = bd (evOps [o3] ρ) (chK3 p' o3 j) := nrfl rfl
def chK2 (p p' : Int → Int → Bool) (o3 : Op) (ρ : Env) : List D → Option (D × Env) := fun ds => bd (int2 ds) fun ij => ift (p ij.1 ij.2) (chT p' o3 ij.2) (bvK false) ρ
@[simp] theorem chK2_e (p p' : Int → Int → Bool) (o3 : Op) (ρ : Env) (i j : Int) : chK2 p p' o3 ρ [.int i, .int j] = ift (p i j) (chT p' o3 j) (bvK false) ρ := nrfl rfl
def chK1 (p p' : Int → Int → Bool) (o1 o2 o3 : Op) : List (Option D) × Env → Option (D × Env) := fun P => bd (fetch [o1, o2] P.1 P.2) (chK2 p p' o3 P.2)
@[simp] theorem chK1_e (p p' : Int → Int → Bool) (o1 o2 o3 : Op) (ts : List (Option D)) (ρ : Env) : chK1 p p' o1 o2 o3 (ts, ρ) = bd (fetch [o1, o2] ts ρ) (chK2 p p' o3 ρ) := nrfl rfl
@[simp] theorem chainF_e (p p' : Int → Int → Bool) (o1 o2 o3 : Op) (ρ : Env) : chainF p p' o1 o2 o3 ρ = bd (evOps [o1, o2] ρ) (chK1 p p' o1 o2 o3) := nrfl rfl
theorem sortedID_e (o : Bool) (ns : List Int) : sortedID [.lst o (ns.map .int)] = some (.lst true ((sortI ns).map .int)) := by
  show (intsOf _).bind _ = _; rw [intsOf_map]; rfl
theorem clrD_e {xs : List D} (h : noOwns xs = true) : clrD xs [] = some (.non, []) := if_pos h
theorem indexD_e {o : Bool} {xs : List D} {d : D} {j : Nat} (h1 : eqOk d = true) (h2 : eqOk (.lst o xs) = true) (h3 : xs.findIdx? (fun z => deq z d) = some j) : indexD [.lst o xs, d] = some (.int (j : Nat)) := by
  show (if _ then _ else _) = _
  rw [if_pos ⟨h1, h2⟩, h3]; rfl
@[simp] theorem isBlD_e (a b : Bool) : isBlD [.bl a, .bl b] = some (.bl (decide (a = b))) := nrfl rfl
@[simp] theorem notBlD_e (a b : Bool) : notBlD [.bl a, .bl b] = some (.bl (!decide (a = b))) := nrfl rfl
end VS
set_option Elab.async false
set_option linter.all false
set_option maxRecDepth 100000
namespace VS
open PySem PySem.Spec PyProof.Rows L2 RZ
def neElK2 (ρ : Env) : Option D → Option (D × Env)
  | some (.lst true ys) => gb (eqOk (.lst true ys)) (some (.bl (!deq (.lst true ys) (.lst true [])), ρ))
  | _ => none
@[simp] theorem neElK2_e (ρ : Env) (ys : List D) : neElK2 ρ (some (.lst true ys)) = gb (eqOk (.lst true ys)) (some (.bl (!deq (.lst true ys) (.lst true [])), ρ)) := nrfl rfl
def neElK (j : Nat) (ρ : Env) : Option D → Option (D × Env)
  | some (.lst true xs) => neElK2 ρ (xs[j]?)
  | _ => none
@[simp] theorem neElK_e (j : Nat) (ρ : Env) (xs : List D) : neElK j ρ (some (.lst true xs)) = neElK2 ρ (xs[j]?) := nrfl rfl
@[simp] theorem neElF_e (i j : Nat) (ρ : Env) : neElF i j ρ = neElK j ρ (getS ρ i) := by
  unfold neElF
  cases getS ρ i with
  | none => rfl
  | some d =>
    cases d with
    | lst o xs =>
      cases o with
      | false => rfl
      | true =>
        rw [neElK_e]
        show (match xs[j]? with
          | some (.lst true ys) => if eqOk (.lst true ys) = true then some (D.bl (!deq (.lst true ys) (.lst true [])), ρ) else none
          | _ => none) = _
        cases xs[j]? with
        | none => rfl
        | some d =>
          cases d with
          | lst o ys =>
            cases o with
            | false => rfl
            | true => exact (gb_ite (p := eqOk (.lst true ys) = true) _).trans (by simp)
          | _ => rfl
    | _ => rfl
def popElK3 (i j : Nat) (xs : List D) (ρ : Env) : D × List D → Option (D × Env) := fun q => some (q.1, ρ.set i (some (.lst true (xs.set j (.lst true q.2)))))
@[simp] theorem popElK3_e (i j : Nat) (xs : List D) (ρ : Env) (d : D) (ys : List D) : popElK3 i j xs ρ (d, ys) = some (d, ρ.set i (some (.lst true (xs.set j (.lst true ys))))) := nrfl rfl
def popElK2 (i j : Nat) (xs : List D) (ρ : Env) : Option D → Option (D × Env)
  | some (.lst true ys) => gb (noOwns ys) (bd (popD ys []) (popElK3 i j xs ρ))
  | _ => none
@[simp] theorem popElK2_e (i j : Nat) (xs : List D) (ρ : Env) (ys : List D) : popElK2 i j xs ρ (some (.lst true ys)) = gb (noOwns ys) (bd (popD ys []) (popElK3 i j xs ρ)) := nrfl rfl
def popElK (i j : Nat) (ρ : Env) : Option D → Option (D × Env)
  | some (.lst true xs) => popElK2 i j xs ρ (xs[j]?)
  | _ => none
@[simp] theorem popElK_e (i j : Nat) (ρ : Env) (xs : List D) : popElK i j ρ (some (.lst true xs)) = popElK2 i j xs ρ (xs[j]?) := nrfl rfl
@[simp] theorem popElF_e (i j : Nat) (ρ : Env) : popElF i j ρ = popElK i j ρ (getS ρ i) := by
  unfold popElF
  cases getS ρ i with
  | none => rfl
  | some d =>
    cases d with
    | lst o xs =>
      cases o with
      | false => rfl
      | true =>
        rw [popElK_e]
        show (match xs[j]? with
          | some (.lst true ys) => if noOwns ys = true then (popD ys []).bind fun q => some (q.1, ρ.set i (some (.lst true (xs.set j (.lst true q.2))))) else none
          | _ => none) = _
        cases xs[j]? with
        | none => rfl
        | some d =>
          cases d with
          | lst o ys =>
            cases o with
            | false => rfl
            | true => exact (gb_ite (p := noOwns ys = true) _).trans (by simp; rfl)
          | _ => rfl
    | _ => rfl
@[simp] theorem isBvD_b (a b : Bool) : isBvD [.bl a, .bl b] = some (.bl (decide (a = b))) := nrfl rfl
@[simp] theorem isBvD_i (a : Int) (b : Bool) : isBvD [.int a, .bl b] = some (.bl false) := nrfl rfl
@[simp] theorem isBvD_n (b : Bool) : isBvD [.non, .bl b] = some (.bl false) := nrfl rfl
@[simp] theorem notBvD_b (a b : Bool) : notBvD [.bl a, .bl b] = some (.bl (!decide (a = b))) := nrfl rfl
@[simp] theorem notBvD_i (a : Int) (b : Bool) : notBvD [.int a, .bl b] = some (.bl true) := nrfl rfl
@[simp] theorem notBvD_n (b : Bool) : notBvD [.non, .bl b] = some (.bl true) := nrfl rfl
end VS
set_option Elab.async false
set_option linter.all false
set_option maxRecDepth 100000
namespace VS
open PySem PySem.Spec PyProof.Rows L2 RZ
@[simp] theorem flat1_bl (b : Bool) : flat1 (.bl b) = true := nrfl rfl
@[simp] theorem flat1_int (i : Int) : flat1 (.int i) = true := nrfl rfl
@[simp] theorem flat1_non : flat1 .non = true := nrfl rfl
def rdK3 (ρ : Env) : D × List (Option D) → Option (D × Env) := fun q => gb (flat1 q.1) (some (q.1, ρ))
@[simp] theorem rdK3_e (ρ : Env) (d : D) (os : List (Option D)) : rdK3 ρ (d, os) = gb (flat1 d) (some (d, ρ)) := nrfl rfl
def rdK2 (fn : Fn) (ρ : Env) : List D → Option (D × Env) := fun ds => bd (fn.sem (freezes ds)) (rdK3 ρ)
@[simp] theorem rdK2_e (fn : Fn) (ρ : Env) (ds : List D) : rdK2 fn ρ ds = bd (fn.sem (freezes ds)) (rdK3 ρ) := nrfl rfl
def rdK1 (fn : Fn) (ops : List Op) : List (Option D) × Env → Option (D × Env) := fun p => bd (fetch ops p.1 p.2) (rdK2 fn p.2)
@[simp] theorem rdK1_e (fn : Fn) (ops : List Op) (ts : List (Option D)) (ρ : Env) : rdK1 fn ops (ts, ρ) = bd (fetch ops ts ρ) (rdK2 fn ρ) := nrfl rfl
@[simp] theorem callRdF_e (fn : Fn) (ops : List Op) (ρ : Env) : callRdF fn ops ρ = bd (evOps ops ρ) (rdK1 fn ops) := by
  unfold callRdF bd
  congr 1
def cntK2 (k : Int) (ρ : Env) : List Int → Option (D × Env) := fun ns => some (.int (ns.count k : Nat), ρ)
@[simp] theorem cntK2_e (k : Int) (ρ : Env) (ns : List Int) : cntK2 k ρ ns = some (.int (ns.count k : Nat), ρ) := nrfl rfl
def cntK (k : Int) : D × Env → Option (D × Env) := fun p => match p.1 with
  | .lst _ xs => bd (intsOf xs) (cntK2 k p.2)
  | _ => none
@[simp] theorem cntK_e (k : Int) (o : Bool) (xs : List D) (ρ : Env) : cntK k (.lst o xs, ρ) = bd (intsOf xs) (cntK2 k ρ) := nrfl rfl
@[simp] theorem countF_e (k : Int) (f : FE) (ρ : Env) : countF k f ρ = bd (f ρ) (cntK k) := nrfl rfl
def elK2 (i j k : Nat) (xs : List D) (d : D) (ρ : Env) : Option D → Option Env
  | some (.lst true ys) => gb (noOwns ys && (noOwn d && decide (k < ys.length))) (some (ρ.set i (some (.lst true (xs.set j (.lst true (ys.set k d)))))))
  | _ => none
@[simp] theorem elK2_e (i j k : Nat) (xs : List D) (d : D) (ρ : Env) (ys : List D) : elK2 i j k xs d ρ (some (.lst true ys)) = gb (noOwns ys && (noOwn d && decide (k < ys.length))) (some (ρ.set i (some (.lst true (xs.set j (.lst true (ys.set k d))))))) := nrfl rfl
def elK (i j k : Nat) (d : D) (ρ : Env) : Option D → Option Env
  | some (.lst true xs) => elK2 i j k xs d ρ (xs[j]?)
  | _ => none
@[simp] theorem elK_e (i j k : Nat) (d : D) (ρ : Env) (xs : List D) : elK i j k d ρ (some (.lst true xs)) = elK2 i j k xs d ρ (xs[j]?) := nrfl rfl
@[simp] theorem tgElF_e (i j k : Nat) (d : D) (ρ : Env) : tgElF i j k d ρ = elK i j k d ρ (getS ρ i) := by
  unfold tgElF
  cases getS ρ i with
  | none => rfl
  | some d0 =>
    cases d0 with
    | lst o xs =>
      cases o with
      | false => rfl
      | true =>
        rw [elK_e]
        show (match xs[j]? with
          | some (.lst true ys) => if noOwns ys = true ∧ noOwn d = true ∧ k < ys.length then some (ρ.set i (some (.lst true (xs.set j (.lst true (ys.set k d)))))) else none
          | _ => none) = _
        cases xs[j]? with
        | none => rfl
        | some d1 =>
          cases d1 with
          | lst o ys =>
            cases o with
            | false => rfl
            | true => exact (gb_ite _).trans (by simp [Bool.decide_and])
          | _ => rfl
    | _ => rfl
end VS
set_option Elab.async false
set_option linter.all false
set_option maxRecDepth 100000
namespace VS
open PySem PySem.Spec PyProof.Rows L2 RZ
end VS
set_option Elab.async false
set_option linter.all false
set_option maxRecDepth 100000
namespace VS
open PySem PySem.Spec PyProof.Rows L2 RZ
end VS
set_option Elab.async false
set_option linter.all false
set_option maxRecDepth 100000
namespace VS
open PySem PySem.Spec PyProof.Rows L2 RZ
def asg2K3 : Env → Option Out := fun ρ => some (.nx ρ)
@[simp] theorem asg2K3_e (ρ : Env) : asg2K3 ρ = some (.nx ρ) := nrfl rfl
def asg2K2 (g2 : D → Env → Option Env) (d : D) : Env → Option Out := fun ρ => bd (g2 d ρ) asg2K3
@[simp] theorem asg2K2_e (g2 : D → Env → Option Env) (d : D) (ρ : Env) : asg2K2 g2 d ρ = bd (g2 d ρ) asg2K3 := nrfl rfl
def asg2K (g1 g2 : D → Env → Option Env) : D × Env → Option Out := fun p => gb (noOwn p.1) (bd (g1 p.1 p.2) (asg2K2 g2 p.1))
@[simp] theorem asg2K_e (g1 g2 : D → Env → Option Env) (d : D) (ρ : Env) : asg2K g1 g2 (d, ρ) = gb (noOwn d) (bd (g1 d ρ) (asg2K2 g2 d)) := nrfl rfl
@[simp] theorem asg2F_e (f : FE) (g1 g2 : D → Env → Option Env) (ρ : Env) : asg2F f g1 g2 ρ = bd (f ρ) (asg2K g1 g2) := by
  unfold asg2F bd
  congr 1
end VS
set_option Elab.async false
set_option linter.all false
set_option maxRecDepth 100000
namespace VS
open PySem PySem.Spec PyProof.Rows L2 RZ
def revK2 (ρ : Env) : List D → Option (List D × Env) := fun xs => some (xs.reverse, ρ)
@[simp] theorem revK2_e (ρ : Env) (xs : List D) : revK2 ρ xs = some (xs.reverse, ρ) := nrfl rfl
def revK : D × Env → Option (List D × Env) := fun p => bd (seqD p.1) (revK2 p.2)
@[simp] theorem revK_e (d : D) (ρ : Env) : revK (d, ρ) = bd (seqD d) (revK2 ρ) := nrfl rfl
@[simp] theorem itRev_e (f : FE) (ρ : Env) : itRev f ρ = bd (f ρ) revK := nrfl rfl
def elKi (i : Int) : D → Option (Int × Int)
  | .int a => some (i, a)
  | _ => none
@[simp] theorem elKi_e (i a : Int) : elKi i (.int a) = some (i, a) := nrfl rfl
@[simp] theorem elemI_e (i : Int) (xs : List D) : elemI [.int i] (some (.lst true xs)) = bd (atI xs i) (elKi i) := by
  unfold elemI bd
  dsimp only
  cases atI xs i with
  | none => rfl
  | some d => cases d <;> rfl
@[simp] theorem intA1_e (b : Int) : intA1 [.int b] = some b := nrfl rfl
def nxKe : Env → Option Out := fun ρ' => some (.nx ρ')
@[simp] theorem nxKe_e (ρ : Env) : nxKe ρ = some (.nx ρ) := nrfl rfl
def auS7 (k : Nat) (f : Int → Int → Int) (i a : Int) (ρ : Env) : Int → Option Out := fun b => bd (tgSub k (.t (litF (.int i))) (.int (f a b)) ρ) nxKe
@[simp] theorem auS7_e (k : Nat) (f : Int → Int → Int) (i a : Int) (ρ : Env) (b : Int) : auS7 k f i a ρ b = bd (tgSub k (.t (litF (.int i))) (.int (f a b)) ρ) nxKe := nrfl rfl
def auS6 (k : Nat) (f : Int → Int → Int) (i a : Int) (ρ : Env) : List D → Option Out := fun ds => bd (intA1 ds) (auS7 k f i a ρ)
@[simp] theorem auS6_e (k : Nat) (f : Int → Int → Int) (i a : Int) (ρ : Env) (ds : List D) : auS6 k f i a ρ ds = bd (intA1 ds) (auS7 k f i a ρ) := nrfl rfl
def auS5 (k : Nat) (f : Int → Int → Int) (o : Op) (i a : Int) : List (Option D) × Env → Option Out := fun p => bd (fetch [o] p.1 p.2) (auS6 k f i a p.2)
@[simp] theorem auS5_e (k : Nat) (f : Int → Int → Int) (o : Op) (i a : Int) (ts : List (Option D)) (ρ : Env) : auS5 k f o i a (ts, ρ) = bd (fetch [o] ts ρ) (auS6 k f i a ρ) := nrfl rfl
def auS4 (k : Nat) (f : Int → Int → Int) (o : Op) (ρ : Env) : Int × Int → Option Out := fun p => bd (evOps [o] ρ) (auS5 k f o p.1 p.2)
@[simp] theorem auS4_e (k : Nat) (f : Int → Int → Int) (o : Op) (ρ : Env) (i a : Int) : auS4 k f o ρ (i, a) = bd (evOps [o] ρ) (auS5 k f o i a) := nrfl rfl
def auS3 (k : Nat) (f : Int → Int → Int) (o : Op) (ρ : Env) : List D → Option Out := fun is => bd (elemI is (getS ρ k)) (auS4 k f o ρ)
@[simp] theorem auS3_e (k : Nat) (f : Int → Int → Int) (o : Op) (ρ : Env) (is : List D) : auS3 k f o ρ is = bd (elemI is (getS ρ k)) (auS4 k f o ρ) := nrfl rfl
def auS2 (k : Nat) (oi : Op) (f : Int → Int → Int) (o : Op) : List (Option D) × Env → Option Out := fun p => bd (fetch [oi] p.1 p.2) (auS3 k f o p.2)
@[simp] theorem auS2_e (k : Nat) (oi : Op) (f : Int → Int → Int) (o : Op) (ts : List (Option D)) (ρ : Env) : auS2 k oi f o (ts, ρ) = bd (fetch [oi] ts ρ) (auS3 k f o ρ) := nrfl rfl
def auS1 (k : Nat) (oi : Op) (f : Int → Int → Int) (o : Op) (ρ : Env) : D → Option Out := fun _ => bd (evOps [oi] ρ) (auS2 k oi f o)
@[simp] theorem auS1_e (k : Nat) (oi : Op) (f : Int → Int → Int) (o : Op) (ρ : Env) (d : D) : auS1 k oi f o ρ d = bd (evOps [oi] ρ) (auS2 k oi f o) := nrfl rfl
@[simp] theorem augSF_e (k : Nat) (oi : Op) (f : Int → Int → Int) (o : Op) (ρ : Env) : augSF k oi f o ρ = bd (getS ρ k) (auS1 k oi f o ρ) := nrfl rfl
end VS
set_option Elab.async false
set_option linter.all false
set_option maxRecDepth 100000
namespace VS
open PySem PySem.Spec PyProof.Rows L2 RZ
@[simp] theorem dvmD_i (a b : Int) : dvmD [.int a, .int b] = gb (dvmOk b) (some (.tup [.int (a.fdiv b), .int (a.fmod b)])) := gb_ite (p := dvmOk b = true) _ |>.trans (by simp)
end VS
set_option Elab.async false
set_option linter.all false
set_option maxRecDepth 100000
namespace VS
open PySem PySem.Spec PyProof.Rows L2 RZ
def frzK2 : D × Env → Option (D × Env) := fun p => some (freeze p.1, p.2)
@[simp] theorem frzK2_e (d : D) (ρ : Env) : frzK2 (d, ρ) = some (freeze d, ρ) := nrfl rfl
@[simp] theorem frzF_e (f : FE) (ρ : Env) : frzF f ρ = bd (f ρ) frzK2 := nrfl rfl
end VS
set_option Elab.async false
set_option linter.all false
set_option maxRecDepth 100000
namespace VS
open PySem PySem.Spec PyProof.Rows L2 RZ
def rdkK2 (fn : Fn) (is : List Nat) (ρ : Env) : List D → Option (D × Env) := fun ds => bd (fn.sem (permL is (freezes ds))) (rdK3 ρ)
@[simp] theorem rdkK2_e (fn : Fn) (is : List Nat) (ρ : Env) (ds : List D) : rdkK2 fn is ρ ds = bd (fn.sem (permL is (freezes ds))) (rdK3 ρ) := nrfl rfl
def rdkK1 (fn : Fn) (is : List Nat) (ops : List Op) : List (Option D) × Env → Option (D × Env) := fun p => bd (fetch ops p.1 p.2) (rdkK2 fn is p.2)
@[simp] theorem rdkK1_e (fn : Fn) (is : List Nat) (ops : List Op) (ts : List (Option D)) (ρ : Env) : rdkK1 fn is ops (ts, ρ) = bd (fetch ops ts ρ) (rdkK2 fn is ρ) := nrfl rfl
@[simp] theorem callRdKF_e (fn : Fn) (is : List Nat) (ops : List Op) (ρ : Env) : callRdKF fn is ops ρ = bd (evOps ops ρ) (rdkK1 fn is ops) := by
  unfold callRdKF bd
  congr 1
end VS
set_option Elab.async false
set_option linter.all false
set_option maxRecDepth 100000
namespace VS
open PySem PySem.Spec PyProof.Rows L2 RZ
@[simp] theorem outK_rz (g : FS) (n : Str) (d : D) (ρ : Env) : outK g (.rz n d ρ) = some (.rz n d ρ) := nrfl rfl
@[simp] theorem noOwn_exc (n : Str) (d : D) : noOwn (.exc n d) = true := nrfl rfl
@[simp] theorem freeze_exc (n : Str) (d : D) : freeze (.exc n d) = .exc n d := nrfl rfl
def rzK : Str × D × Env → Option Out := fun q => some (.rz q.1 q.2.1 q.2.2)
@[simp] theorem rzK_e (n : Str) (d : D) (ρ : Env) : rzK (n, d, ρ) = some (.rz n d ρ) := nrfl rfl
def orXK (g : RX) (ρ : Env) : Option Out → Option Out
  | some o => some o
  | none => bd (g ρ) rzK
@[simp] theorem orXK_s (g : RX) (ρ : Env) (o : Out) : orXK g ρ (some o) = some o := nrfl rfl
@[simp] theorem orXK_n (g : RX) (ρ : Env) : orXK g ρ none = bd (g ρ) rzK := nrfl rfl
@[simp] theorem orX_e (f : FS) (g : RX) (ρ : Env) : orX f g ρ = orXK g ρ (f ρ) := by
  unfold orX orXK bd rzK
  cases f ρ <;> rfl
def orRK (h : RX) (ρ : Env) : Option (Str × D × Env) → Option (Str × D × Env)
  | some o => some o
  | none => h ρ
@[simp] theorem orRK_s (g : RX) (ρ : Env) (o : Str × D × Env) : orRK g ρ (some o) = some o := nrfl rfl
@[simp] theorem orRK_n (g : RX) (ρ : Env) : orRK g ρ none = g ρ := nrfl rfl
@[simp] theorem orR_e (g h : RX) (ρ : Env) : orR g h ρ = orRK h ρ (g ρ) := by
  unfold orR orRK
  cases g ρ <;> rfl
@[simp] theorem noR_e (ρ : Env) : noR ρ = none := nrfl rfl
def thK (g : RX) : List (Option D) × Env → Option (Str × D × Env) := fun p => g p.2
@[simp] theorem thK_e (g : RX) (ts : List (Option D)) (ρ : Env) : thK g (ts, ρ) = g ρ := nrfl rfl
@[simp] theorem thenR_e (o : Op) (g : RX) (ρ : Env) : thenR o g ρ = bd (evOps [o] ρ) (thK g) := nrfl rfl
def thTK (g h : RX) : Bool × Env → Option (Str × D × Env) := fun p => ift p.1 g h p.2
@[simp] theorem thTK_e (g h : RX) (b : Bool) (ρ : Env) : thTK g h (b, ρ) = ift b g h ρ := nrfl rfl
@[simp] theorem thenT_e (c : FB) (g h : RX) (ρ : Env) : thenT c g h ρ = bd (c ρ) (thTK g h) := nrfl rfl
def rzK3 (ops : List Op) (ds : List D) (ρ : Env) : Str × D × List (Option D) → Option (Str × D × Env) := fun q => some (q.1, q.2.1, putB ops ds q.2.2 ρ)
@[simp] theorem rzK3_e (ops : List Op) (ds : List D) (ρ : Env) (n : Str) (d : D) (os : List (Option D)) : rzK3 ops ds ρ (n, d, os) = some (n, d, putB ops ds os ρ) := nrfl rfl
def rzK2 (rz : Rz) (ops : List Op) : List D × Env → Option (Str × D × Env) := fun c => bd (rz c.1) (rzK3 ops c.1 c.2)
@[simp] theorem rzK2_e (rz : Rz) (ops : List Op) (ds : List D) (ρ : Env) : rzK2 rz ops (ds, ρ) = bd (rz ds) (rzK3 ops ds ρ) := nrfl rfl
def rzK1 (pins : List Bool) (rz : Rz) (ops : List Op) : List (Option D) × Env → Option (Str × D × Env) := fun p => bd (fetchC pins ops p.1 p.2) (rzK2 rz ops)
@[simp] theorem rzK1_e (pins : List Bool) (rz : Rz) (ops : List Op) (ts : List (Option D)) (ρ : Env) : rzK1 pins rz ops (ts, ρ) = bd (fetchC pins ops ts ρ) (rzK2 rz ops) := nrfl rfl
@[simp] theorem rzF_e (pins : List Bool) (rz : Rz) (ops : List Op) (ρ : Env) : rzF pins rz ops ρ = bd (evOps ops ρ) (rzK1 pins rz ops) := nrfl rfl
def rzkK1 (pins : List Bool) (rz : Rz) (is : List Nat) (ops : List Op) : List (Option D) × Env → Option (Str × D × Env) := fun p => bd (fetchC pins (permL is ops) (permL is p.1) p.2) (rzK2 rz (permL is ops))
@[simp] theorem rzkK1_e (pins : List Bool) (rz : Rz) (is : List Nat) (ops : List Op) (ts : List (Option D)) (ρ : Env) : rzkK1 pins rz is ops (ts, ρ) = bd (fetchC pins (permL is ops) (permL is ts) ρ) (rzK2 rz (permL is ops)) := nrfl rfl
@[simp] theorem rzKF_e (pins : List Bool) (rz : Rz) (is : List Nat) (ops : List Op) (ρ : Env) : rzKF pins rz is ops ρ = bd (evOps ops ρ) (rzkK1 pins rz is ops) := nrfl rfl
def raK (n : Str) : D × Env → Option Out := fun p => gb (noOwn p.1) (some (.rz n p.1 p.2))
@[simp] theorem raK_e (n : Str) (d : D) (ρ : Env) : raK n (d, ρ) = gb (noOwn d) (some (.rz n d ρ)) := nrfl rfl
@[simp] theorem raiseF_e (n : Str) (f : FE) (ρ : Env) : raiseF n f ρ = bd (f ρ) (raK n) := nrfl rfl
def clK (i : Option Nat) : Out → Option Out := clrO i
@[simp] theorem clK_nx0 (ρ : Env) : clK none (.nx ρ) = some (.nx ρ) := nrfl rfl
@[simp] theorem clK_bk0 (ρ : Env) : clK none (.bk ρ) = some (.bk ρ) := nrfl rfl
@[simp] theorem clK_ct0 (ρ : Env) : clK none (.ct ρ) = some (.ct ρ) := nrfl rfl
@[simp] theorem clK_nx (i : Nat) (ρ : Env) : clK (some i) (.nx ρ) = some (.nx (ρ.set i none)) := nrfl rfl
@[simp] theorem clK_bk (i : Nat) (ρ : Env) : clK (some i) (.bk ρ) = some (.bk (ρ.set i none)) := nrfl rfl
@[simp] theorem clK_ct (i : Nat) (ρ : Env) : clK (some i) (.ct ρ) = some (.ct (ρ.set i none)) := nrfl rfl
@[simp] theorem clK_rt (i : Option Nat) (d : D) (ρ : Env) : clK i (.rt d ρ) = some (.rt d ρ) := nrfl rfl
@[simp] theorem putE_n (ρ : Env) (n : Str) (d : D) : putE ρ n d none = ρ := nrfl rfl
@[simp] theorem putE_s (ρ : Env) (n : Str) (d : D) (i : Nat) : putE ρ n d (some i) = ρ.set i (some (.exc n d)) := nrfl rfl
@[simp] theorem goHd_n (ns : List Str) (n : Str) (d : D) (ρ : Env) : goHd ns n d ρ [] = some (.rz n d ρ) := nrfl rfl
def hdY (n : Str) (d : D) (i : Option Nat) (f : FS) : Env → Option Out := fun ρ => bd (f (putE ρ n d i)) (clK i)
@[simp] theorem hdY_e (n : Str) (d : D) (i : Option Nat) (f : FS) (ρ : Env) : hdY n d i f ρ = bd (f (putE ρ n d i)) (clK i) := nrfl rfl
def hdN (ns : List Str) (n : Str) (d : D) (r : List HdF) : Env → Option Out := fun ρ => goHd ns n d ρ r
@[simp] theorem hdN_e (ns : List Str) (n : Str) (d : D) (r : List HdF) (ρ : Env) : hdN ns n d r ρ = goHd ns n d ρ r := nrfl rfl
@[simp] theorem goHd_c (ns : List Str) (n : Str) (d : D) (ρ : Env) (c : Str) (i : Option Nat) (f : FS) (r : List HdF) : goHd ns n d ρ ((c, i, f) :: r) = gb (ns.contains n) (ift (subB n c) (hdY n d i f) (hdN ns n d r) ρ) := by
  unfold goHd gb
  by_cases h : ns.contains n = true
  · rw [if_pos h, if_pos h]
    by_cases h2 : subB n c = true
    · rw [if_pos h2, h2]; rfl
    · rw [if_neg h2]
      have : subB n c = false := by simpa using h2
      rw [this]; rfl
  · rw [if_neg h, if_neg h]
def tryK (ns : List Str) (hs : List HdF) : Out → Option Out
  | .rz n d ρ1 => goHd ns n d ρ1 hs
  | o => some o
@[simp] theorem tryK_nx (ns : List Str) (hs : List HdF) (ρ : Env) : tryK ns hs (.nx ρ) = some (.nx ρ) := nrfl rfl
@[simp] theorem tryK_bk (ns : List Str) (hs : List HdF) (ρ : Env) : tryK ns hs (.bk ρ) = some (.bk ρ) := nrfl rfl
@[simp] theorem tryK_ct (ns : List Str) (hs : List HdF) (ρ : Env) : tryK ns hs (.ct ρ) = some (.ct ρ) := nrfl rfl
@[simp] theorem tryK_rt (ns : List Str) (hs : List HdF) (d : D) (ρ : Env) : tryK ns hs (.rt d ρ) = some (.rt d ρ) := nrfl rfl
@[simp] theorem tryK_rz (ns : List Str) (hs : List HdF) (n : Str) (d : D) (ρ : Env) : tryK ns hs (.rz n d ρ) = goHd ns n d ρ hs := nrfl rfl
@[simp] theorem tryF_e (ns : List Str) (fb : FS) (hs : List HdF) (ρ : Env) : tryF ns fb hs ρ = bd (fb ρ) (tryK ns hs) := by
  unfold tryF bd
  congr 1
@[simp] theorem excValD_e (ns : List Str) (n : Str) (d : D) : excValD ns [.exc n d] = gb (ns.contains n) (some d) := gb_ite _ |>.trans (by simp)
@[simp] theorem isXD_e (ns : List Str) (c n : Str) (d : D) : isXD ns c [.exc n d] = gb (ns.contains n) (some (.bl (subB n c))) := gb_ite _ |>.trans (by simp)
@[simp] theorem isXD_n (ns : List Str) (c : Str) : isXD ns c [.non] = some (.bl false) := nrfl rfl
@[simp] theorem isXTD_e (ns cs : List Str) (n : Str) (d : D) : isXTD ns cs [.exc n d] = gb (ns.contains n) (some (.bl (cs.any (subB n)))) := gb_ite _ |>.trans (by simp)
@[simp] theorem isXTD_n (ns cs : List Str) : isXTD ns cs [.non] = some (.bl false) := nrfl rfl
@[simp] theorem frzD_non : freeze .non = .non := nrfl rfl
@[simp] theorem frzD_int (i : Int) : freeze (.int i) = .int i := nrfl rfl
@[simp] theorem frzD_bl (i : Bool) : freeze (.bl i) = .bl i := nrfl rfl
@[simp] theorem frzD_str (i : Str) : freeze (.str i) = .str i := nrfl rfl
@[simp] theorem isNon_exc (n : Str) (d : D) : isNon (.exc n d) = false := nrfl rfl
@[simp] theorem isNonD_exc (n : Str) (d : D) : isNonD [.exc n d, .non] = some (.bl false) := nrfl rfl
@[simp] theorem notNonD_exc (n : Str) (d : D) : notNonD [.exc n d, .non] = some (.bl true) := nrfl rfl
end VS
set_option Elab.async false
set_option linter.all false
set_option maxRecDepth 100000
namespace VS
open PySem PySem.Spec PyProof.Rows L2 RZ
@[simp] theorem isLq_s (o : Bool) (xs : List D) (ρ : Env) : isLq (some (.lst o xs, ρ)) = true := nrfl rfl
@[simp] theorem methTF_e (f : FE) (g : List D → Option D) (ops : List Op) (ρ : Env) : methTF f g ops ρ = gb (isLq (f ρ)) (bd (evOps (.t f :: ops) ρ) (opK g (.t f :: ops))) := by
  unfold methTF gb
  rw [opF_e]
end VS
set_option Elab.async false
set_option linter.all false
namespace VS
end VS
set_option Elab.async false
set_option linter.all false
set_option maxRecDepth 100000
namespace VS
open PySem PySem.Spec PyProof.Rows L2 RZ
@[simp] theorem noOwn_dct (o : Bool) (kvs : List (Int × Int)) : noOwn (.dct o kvs) = !o := nrfl rfl
@[simp] theorem freeze_dct (o : Bool) (kvs : List (Int × Int)) : freeze (.dct o kvs) = .dct false kvs := nrfl rfl
@[simp] theorem truD_dct (o : Bool) (kvs : List (Int × Int)) : truD (.dct o kvs) = some (!kvs.isEmpty) := nrfl rfl
@[simp] theorem dctF_e (ρ : Env) : dctF ρ = some (.dct true [], ρ) := nrfl rfl
def intO : Option Int → Option D
  | some v => some (.int v)
  | none => none
@[simp] theorem intO_s (v : Int) : intO (some v) = some (.int v) := nrfl rfl
@[simp] theorem dgetD_e (o : Bool) (kvs : List (Int × Int)) (k : Int) : dgetD [.dct o kvs, .int k] = intO (valI kvs k) := by
  show (valI kvs k).map D.int = _
  cases valI kvs k <;> rfl
/-- d[k] = v -/
def putK2 (ρ : Env) (k : Nat) (d : D) : List D → Option Env := fun ds => dputAt ρ k d ds
def dputO (ρ : Env) (k : Nat) (i v : Int) : Option D → Option Env
  | some (.dct true kvs) => gb (decide (kvs.length < smallL)) (some (ρ.set k (some (.dct true (putI kvs i v)))))
  | _ => none
@[simp] theorem dputO_e (ρ : Env) (k : Nat) (i v : Int) (kvs : List (Int × Int)) : dputO ρ k i v (some (.dct true kvs)) = gb (decide (kvs.length < smallL)) (some (ρ.set k (some (.dct true (putI kvs i v))))) := nrfl rfl
@[simp] theorem putK2_e (ρ : Env) (k : Nat) (v i : Int) : putK2 ρ k (.int v) [.int i] = dputO ρ k i v (getS ρ k) := by
  show dputAt ρ k (.int v) [.int i] = _
  unfold dputAt
  cases h : getS ρ k with
  | none => rfl
  | some d =>
    cases d with
    | dct o kvs => cases o with
      | true => exact gb_ite _
      | false => rfl
    | _ => rfl
def putK1 (k : Nat) (oi : Op) (d : D) : List (Option D) × Env → Option Env := fun (ts, ρ) => bd (fetch [oi] ts ρ) (putK2 ρ k d)
@[simp] theorem putK1_e (k : Nat) (oi : Op) (d : D) (ts : List (Option D)) (ρ : Env) : putK1 k oi d (ts, ρ) = bd (fetch [oi] ts ρ) (putK2 ρ k d) := nrfl rfl
def putK0 (k : Nat) (oi : Op) (d0 : D) (ρ : Env) : D → Option Env := fun _ => bd (evOps [oi] ρ) (putK1 k oi d0)
@[simp] theorem putK0_e (k : Nat) (oi : Op) (d0 : D) (ρ : Env) (d : D) : putK0 k oi d0 ρ d = bd (evOps [oi] ρ) (putK1 k oi d0) := nrfl rfl
@[simp] theorem tgPut_e (k : Nat) (oi : Op) (d : D) (ρ : Env) : tgPut k oi d ρ = bd (getS ρ k) (putK0 k oi d ρ) := nrfl rfl
/-- d.pop(k) -/
def isDo : Option D → Bool
  | some (.dct true _) => true
  | _ => false
@[simp] theorem isDo_e (kvs : List (Int × Int)) : isDo (some (.dct true kvs)) = true := nrfl rfl
def popKv (ρ : Env) (k : Nat) (i : Int) (kvs : List (Int × Int)) : Int → Option (D × Env) := fun v => some (.int v, ρ.set k (some (.dct true (dropI kvs i))))
@[simp] theorem popKv_e (ρ : Env) (k : Nat) (i : Int) (kvs : List (Int × Int)) (v : Int) : popKv ρ k i kvs v = some (.int v, ρ.set k (some (.dct true (dropI kvs i)))) := nrfl rfl
def popO (ρ : Env) (k : Nat) (i : Int) : Option D → Option (D × Env)
  | some (.dct true kvs) => bd (valI kvs i) (popKv ρ k i kvs)
  | _ => none
@[simp] theorem popO_e (ρ : Env) (k : Nat) (i : Int) (kvs : List (Int × Int)) : popO ρ k i (some (.dct true kvs)) = bd (valI kvs i) (popKv ρ k i kvs) := nrfl rfl
def popK2 (ρ : Env) (k : Nat) : List D → Option (D × Env) := fun ds => dpopAt ρ k ds
@[simp] theorem popK2_e (ρ : Env) (k : Nat) (i : Int) : popK2 ρ k [.int i] = popO ρ k i (getS ρ k) := by
  show dpopAt ρ k [.int i] = _
  unfold dpopAt
  cases h : getS ρ k with
  | none => rfl
  | some d =>
    cases d with
    | dct o kvs => cases o with
      | true => rfl
      | false => rfl
    | _ => rfl
def popK1 (k : Nat) (oi : Op) : List (Option D) × Env → Option (D × Env) := fun (ts, ρ) => bd (fetch [oi] ts ρ) (popK2 ρ k)
@[simp] theorem popK1_e (k : Nat) (oi : Op) (ts : List (Option D)) (ρ : Env) : popK1 k oi (ts, ρ) = bd (fetch [oi] ts ρ) (popK2 ρ k) := nrfl rfl
@[simp] theorem dpopF_e (k : Nat) (oi : Op) (ρ : Env) : dpopF k oi ρ = gb (isDo (getS ρ k)) (bd (evOps [oi] ρ) (popK1 k oi)) := by
  unfold dpopF
  cases h : getS ρ k with
  | none => rfl
  | some d =>
    cases d with
    | dct o kvs => cases o with
      | true => rfl
      | false => rfl
    | _ => rfl
/-- d.get(k, x) -/
def isDb : Option D → Bool
  | some (.dct _ _) => true
  | _ => false
@[simp] theorem isDb_e (o : Bool) (kvs : List (Int × Int)) : isDb (some (.dct o kvs)) = true := nrfl rfl
def getO (ρ : Env) (i z : Int) : Option D → Option (D × Env)
  | some (.dct _ kvs) => some (.int ((valI kvs i).getD z), ρ)
  | _ => none
@[simp] theorem getO_e (ρ : Env) (i z : Int) (o : Bool) (kvs : List (Int × Int)) : getO ρ i z (some (.dct o kvs)) = some (.int ((valI kvs i).getD z), ρ) := nrfl rfl
def getK2 (ρ : Env) (k : Nat) : List D → Option (D × Env) := fun ds => dget2At ρ k ds
@[simp] theorem getK2_e (ρ : Env) (k : Nat) (i z : Int) : getK2 ρ k [.int i, .int z] = getO ρ i z (getS ρ k) := by
  show dget2At ρ k [.int i, .int z] = _
  unfold dget2At
  cases h : getS ρ k with
  | none => rfl
  | some d => cases d <;> rfl
def getK1 (k : Nat) (o1 o2 : Op) : List (Option D) × Env → Option (D × Env) := fun (ts, ρ) => bd (fetch [o1, o2] ts ρ) (getK2 ρ k)
@[simp] theorem getK1_e (k : Nat) (o1 o2 : Op) (ts : List (Option D)) (ρ : Env) : getK1 k o1 o2 (ts, ρ) = bd (fetch [o1, o2] ts ρ) (getK2 ρ k) := nrfl rfl
@[simp] theorem dget2F_e (k : Nat) (o1 o2 : Op) (ρ : Env) : dget2F k o1 o2 ρ = gb (isDb (getS ρ k)) (bd (evOps [o1, o2] ρ) (getK1 k o1 o2)) := by
  unfold dget2F
  cases h : getS ρ k with
  | none => rfl
  | some d => cases d <;> rfl
end VS
set_option Elab.async false
set_option linter.all false
set_option maxRecDepth 100000
namespace VS
open PySem PySem.Spec PyProof.Rows L2 RZ
@[simp] theorem tgU_t (n : Nat) (gs : List D → Env → Option Env) (xs : List D) (ρ : Env) : tgU n gs (.tup xs) ρ = gb (decide (xs.length = n)) (gs xs ρ) := gb_ite _
@[simp] theorem tgU_l (n : Nat) (gs : List D → Env → Option Env) (xs : List D) (ρ : Env) : tgU n gs (.lst false xs) ρ = gb (decide (xs.length = n)) (gs xs ρ) := gb_ite _
end VS
set_option Elab.async false
set_option linter.all false
set_option maxRecDepth 100000
namespace VS
open PySem PySem.Spec PyProof.Rows L2 RZ
@[simp] theorem gcdD_e (a b : Int) : gcdD [.int a, .int b] = some (.int ((Nat.gcd a.natAbs b.natAbs : Nat) : Int)) := nrfl rfl
end VS
set_option Elab.async false
set_option linter.all false
set_option maxRecDepth 100000
namespace VS
open PySem PySem.Spec PyProof.Rows L2 RZ
@[simp] theorem sml_0 : decide (0 ≤ smallL) = true := decide_eq_true (by unfold smallL; omega)
@[simp] theorem sml_1 : decide (1 ≤ smallL) = true := decide_eq_true (by unfold smallL; omega)
@[simp] theorem sml_2 : decide (2 ≤ smallL) = true := decide_eq_true (by unfold smallL; omega)
@[simp] theorem sml_3 : decide (3 ≤ smallL) = true := decide_eq_true (by unfold smallL; omega)
@[simp] theorem sml_4 : decide (4 ≤ smallL) = true := decide_eq_true (by unfold smallL; omega)
@[simp] theorem sml_5 : decide (5 ≤ smallL) = true := decide_eq_true (by unfold smallL; omega)
@[simp] theorem sml_6 : decide (6 ≤ smallL) = true := decide_eq_true (by unfold smallL; omega)
@[simp] theorem sml_7 : decide (7 ≤ smallL) = true := decide_eq_true (by unfold smallL; omega)
@[simp] theorem sml_8 : decide (8 ≤ smallL) = true := decide_eq_true (by unfold smallL; omega)
@[simp] theorem sml_9 : decide (9 ≤ smallL) = true := decide_eq_true (by unfold smallL; omega)
@[simp] theorem sml_10 : decide (10 ≤ smallL) = true := decide_eq_true (by unfold smallL; omega)
@[simp] theorem sml_11 : decide (11 ≤ smallL) = true := decide_eq_true (by unfold smallL; omega)
@[simp] theorem sml_12 : decide (12 ≤ smallL) = true := decide_eq_true (by unfold smallL; omega)
@[simp] theorem sml_13 : decide (13 ≤ smallL) = true := decide_eq_true (by unfold smallL; omega)
@[simp] theorem sml_14 : decide (14 ≤ smallL) = true := decide_eq_true (by unfold smallL; omega)
@[simp] theorem sml_15 : decide (15 ≤ smallL) = true := decide_eq_true (by unfold smallL; omega)
@[simp] theorem sml_16 : decide (16 ≤ smallL) = true := decide_eq_true (by unfold smallL; omega)
@[simp] theorem sml_17 : decide (17 ≤ smallL) = true := decide_eq_true (by unfold smallL; omega)
@[simp] theorem sml_18 : decide (18 ≤ smallL) = true := decide_eq_true (by unfold smallL; omega)
@[simp] theorem sml_19 : decide (19 ≤ smallL) = true := decide_eq_true (by unfold smallL; omega)
@[simp] theorem sml_20 : decide (20 ≤ smallL) = true := decide_eq_true (by unfold smallL; omega)
@[simp] theorem sml_21 : decide (21 ≤ smallL) = true := decide_eq_true (by unfold smallL; omega)
@[simp] theorem sml_22 : decide (22 ≤ smallL) = true := decide_eq_true (by unfold smallL; omega)
@[simp] theorem sml_23 : decide (23 ≤ smallL) = true := decide_eq_true (by unfold smallL; omega)
@[simp] theorem sml_24 : decide (24 ≤ smallL) = true := decide_eq_true (by unfold smallL; omega)
@[simp] theorem sml_25 : decide (25 ≤ smallL) = true := decide_eq_true (by unfold smallL; omega)
@[simp] theorem sml_26 : decide (26 ≤ smallL) = true := decide_eq_true (by unfold smallL; omega)
@[simp] theorem sml_27 : decide (27 ≤ smallL) = true := decide_eq_true (by unfold smallL; omega)
@[simp] theorem sml_28 : decide (28 ≤ smallL) = true := decide_eq_true (by unfold smallL; omega)
@[simp] theorem sml_29 : decide (29 ≤ smallL) = true := decide_eq_true (by unfold smallL; omega)
@[simp] theorem sml_30 : decide (30 ≤ smallL) = true := decide_eq_true (by unfold smallL; omega)
@[simp] theorem sml_31 : decide (31 ≤ smallL) = true := decide_eq_true (by unfold smallL; omega)
@[simp] theorem sml_32 : decide (32 ≤ smallL) = true := decide_eq_true (by unfold smallL; omega)
end VS
set_option Elab.async false
set_option linter.all false
set_option maxRecDepth 100000
namespace VS
open PySem PySem.Spec PyProof.Rows L2 RZ
@[simp] theorem bandD_1 (a : Int) : bandD [.int a, .int 1] = gb (decide (0 ≤ a)) (some (.int (a % 2))) := by
  show (if 0 ≤ a ∧ (1 : Int) = 1 then _ else _) = _
  by_cases h : 0 ≤ a <;> simp [h, gb]
@[simp] theorem ishrD_1 (a : Int) : ishrD [.int a, .int 1] = some (.int (a / 2)) := nrfl rfl
@[simp] theorem tgStar_e (gs : List D → Env → Option Env) (x : D) (xs : List D) (ρ : Env) : tgStar gs (.lst false (x :: xs)) ρ = gb (decide (xs.length ≤ 16000)) (gs [x, .lst true xs] ρ) := by
  show (if xs.length ≤ 16000 then _ else _) = _
  by_cases h : xs.length ≤ 16000 <;> simp [h, gb]
def walK (i : Nat) (fb : FB) : D × Env → Option (Bool × Env) := fun (d, ρ1) => fb (ρ1.set i (some d))
@[simp] theorem walK_e (i : Nat) (fb : FB) (d : D) (ρ1 : Env) : walK i fb (d, ρ1) = fb (ρ1.set i (some d)) := nrfl rfl
@[simp] theorem walF_e (i : Nat) (f : FE) (fb : FB) (ρ : Env) : walF i f fb ρ = bd (f ρ) (walK i fb) := nrfl rfl
end VS
set_option Elab.async false
set_option linter.all false
set_option maxRecDepth 100000
namespace VS
open PySem PySem.Spec PyProof.Rows L2 RZ
def rtK3 (ρ : Env) : D × List (Option D) → Option (D × Env) := fun q => gb (pureT q.1) (some (q.1, ρ))
@[simp] theorem rtK3_e (ρ : Env) (d : D) (os : List (Option D)) : rtK3 ρ (d, os) = gb (pureT d) (some (d, ρ)) := nrfl rfl
def rtK2 (fn : Fn) (ρ : Env) : List D → Option (D × Env) := fun ds => bd (fn.sem (freezes ds)) (rtK3 ρ)
@[simp] theorem rtK2_e (fn : Fn) (ρ : Env) (ds : List D) : rtK2 fn ρ ds = bd (fn.sem (freezes ds)) (rtK3 ρ) := nrfl rfl
def rtK1 (fn : Fn) (ops : List Op) : List (Option D) × Env → Option (D × Env) := fun p => bd (fetch ops p.1 p.2) (rtK2 fn p.2)
@[simp] theorem rtK1_e (fn : Fn) (ops : List Op) (ts : List (Option D)) (ρ : Env) : rtK1 fn ops (ts, ρ) = bd (fetch ops ts ρ) (rtK2 fn ρ) := nrfl rfl
@[simp] theorem callRtF_e (fn : Fn) (ops : List Op) (ρ : Env) : callRtF fn ops ρ = bd (evOps ops ρ) (rtK1 fn ops) := by
  unfold callRtF bd
  congr 1
def rtkK2 (fn : Fn) (is : List Nat) (ρ : Env) : List D → Option (D × Env) := fun ds => bd (fn.sem (permL is (freezes ds))) (rtK3 ρ)
@[simp] theorem rtkK2_e (fn : Fn) (is : List Nat) (ρ : Env) (ds : List D) : rtkK2 fn is ρ ds = bd (fn.sem (permL is (freezes ds))) (rtK3 ρ) := nrfl rfl
def rtkK1 (fn : Fn) (is : List Nat) (ops : List Op) : List (Option D) × Env → Option (D × Env) := fun p => bd (fetch ops p.1 p.2) (rtkK2 fn is p.2)
@[simp] theorem rtkK1_e (fn : Fn) (is : List Nat) (ops : List Op) (ts : List (Option D)) (ρ : Env) : rtkK1 fn is ops (ts, ρ) = bd (fetch ops ts ρ) (rtkK2 fn is ρ) := nrfl rfl
@[simp] theorem callRtKF_e (fn : Fn) (is : List Nat) (ops : List Op) (ρ : Env) : callRtKF fn is ops ρ = bd (evOps ops ρ) (rtkK1 fn is ops) := by
  unfold callRtKF bd
  congr 1
@[simp] theorem pureT_tup (xs : List D) : pureT (.tup xs) = pureTs xs := nrfl rfl
@[simp] theorem pureT_int (i : Int) : pureT (.int i) = true := nrfl rfl
@[simp] theorem pureT_bl (i : Bool) : pureT (.bl i) = true := nrfl rfl
@[simp] theorem pureT_non : pureT .non = true := nrfl rfl
@[simp] theorem pureTs_nil : pureTs [] = true := nrfl rfl
@[simp] theorem pureTs_cons (x : D) (xs : List D) : pureTs (x :: xs) = (pureT x && pureTs xs) := nrfl rfl
end VS
set_option Elab.async false
set_option linter.all false
set_option maxRecDepth 100000
namespace VS
open PySem PySem.Spec PyProof.Rows L2 RZ
def slK3 (ρ : Env) (k : Nat) (d : D) : List D → Option Env := fun ds => slPut ρ k d ds (getS ρ k)
@[simp] theorem slK3_e (ρ : Env) (k : Nat) (d : D) (ds : List D) : slK3 ρ k d ds = slPut ρ k d ds (getS ρ k) := nrfl rfl
def slK2 (o1 o2 : Op) (k : Nat) (d : D) : List (Option D) × Env → Option Env := fun p => bd (fetch [o1, o2] p.1 p.2) (slK3 p.2 k d)
@[simp] theorem slK2_e (o1 o2 : Op) (k : Nat) (d : D) (ts : List (Option D)) (ρ : Env) : slK2 o1 o2 k d (ts, ρ) = bd (fetch [o1, o2] ts ρ) (slK3 ρ k d) := nrfl rfl
def slK1 (o1 o2 : Op) (k : Nat) (d : D) (ρ : Env) : D → Option Env := fun _ => bd (evOps [o1, o2] ρ) (slK2 o1 o2 k d)
@[simp] theorem slK1_e (o1 o2 : Op) (k : Nat) (d : D) (ρ : Env) (d0 : D) : slK1 o1 o2 k d ρ d0 = bd (evOps [o1, o2] ρ) (slK2 o1 o2 k d) := nrfl rfl
@[simp] theorem tgSlS_e (o1 o2 : Op) (k : Nat) (d : D) (ρ : Env) : tgSlS k o1 o2 d ρ = bd (getS ρ k) (slK1 o1 o2 k d ρ) := by
  unfold tgSlS bd slK1
  cases getS ρ k <;> rfl
@[simp] theorem slPut_e (ρ : Env) (k : Nat) (a c : Int) (xs ys : List D) : slPut ρ k (.lst true ys) [.int a, .int c] (some (.lst true xs)) = gb (decide (0 ≤ a) && (decide (a ≤ c) && (decide (c ≤ (xs.length : Int)) && (noOwns xs && (noOwns ys && decide (xs.length + ys.length ≤ smallL)))))) (some (ρ.set k (some (.lst true (xs.take a.toNat ++ ys ++ xs.drop c.toNat))))) := by
  show (if _ then _ else _) = _
  unfold gb
  by_cases h : 0 ≤ a ∧ a ≤ c ∧ c ≤ (xs.length : Int) ∧ noOwns xs = true ∧ noOwns ys = true ∧ xs.length + ys.length ≤ smallL
  · rw [if_pos h]
    obtain ⟨h1, h2, h3, h4, h5, h6⟩ := h
    simp [h1, h2, h3, h4, h5, h6]
  · rw [if_neg h]
    simp only [Bool.and_eq_true, decide_eq_true_eq]
    rw [if_neg h]
end VS
set_option Elab.async false
set_option linter.all false
set_option maxRecDepth 100000
namespace VS
open PySem PySem.Spec PyProof.Rows L2 RZ
def trgK : List D → Option D := fun xs => if xs.length ≤ smallL then some (.tup xs) else none
theorem trgD_e (rd : List D → Option (List D)) (ds : List D) : trgD rd ds = bd (rd ds) trgK := by
  unfold trgD bd trgK; cases rd ds <;> rfl
@[simp] theorem trg1 (ds : List D) : trgD rng1D ds = bd (rng1D ds) trgK := trgD_e _ _
end VS
set_option Elab.async false
set_option linter.all false
set_option maxRecDepth 100000
namespace VS
open PySem PySem.Spec PyProof.Rows L2 RZ
@[simp] theorem trg2 (ds : List D) : trgD rng2D ds = bd (rng2D ds) trgK := trgD_e _ _
end VS
set_option Elab.async false
set_option linter.all false
set_option maxRecDepth 100000
namespace VS
open PySem PySem.Spec PyProof.Rows L2 RZ
end VS
set_option Elab.async false
set_option linter.all false
set_option maxRecDepth 100000
namespace VS
open PySem PySem.Spec PyProof.Rows L2 RZ
@[simp] theorem inR1_e (f : Bool → Bool) (k j : Int) : inR1 f [.int k, .int j] = some (.bl (f (decide (0 ≤ k ∧ k < j)))) := nrfl rfl
@[simp] theorem inR2_e (f : Bool → Bool) (k i j : Int) : inR2 f [.int k, .int i, .int j] = some (.bl (f (decide (i ≤ k ∧ k < j)))) := nrfl rfl
end VS
set_option Elab.async false
set_option linter.all false
set_option maxRecDepth 100000
namespace VS
open PySem PySem.Spec PyProof.Rows L2 RZ
end VS
set_option Elab.async false
set_option linter.all false
set_option maxRecDepth 100000
namespace VS
open PySem PySem.Spec PyProof.Rows L2 RZ
def lendK (ρ : Env) : D × Env → Option (D × Env) := fun p => if lendOk p.1 = true then some (p.1, ρ) else none
def lendKB (ρ : Env) : Bool × Env → Option (Bool × Env) := fun p => some (p.1, ρ)
@[simp] theorem lendK_e (ρ ρ' : Env) (d : D) : lendK ρ (d, ρ') = gb (lendOk d) (some (d, ρ)) := by
  unfold lendK gb
  cases lendOk d <;> rfl
@[simp] theorem lendKB_e (ρ ρ' : Env) (b : Bool) : lendKB ρ (b, ρ') = some (b, ρ) := nrfl rfl
@[simp] theorem lendF_e (f : FE) (ρ : Env) : lendF f ρ = bd (f (lendE ρ)) (lendK ρ) := nrfl rfl
@[simp] theorem lendB_e (f : FB) (ρ : Env) : lendB f ρ = bd (f (lendE ρ)) (lendKB ρ) := nrfl rfl
@[simp] theorem lendE_nil : lendE [] = [] := nrfl rfl
@[simp] theorem lendE_some (d : D) (ρ : Env) : lendE (some d :: ρ) = some (freeze d) :: lendE ρ := nrfl rfl
@[simp] theorem lendE_none (ρ : Env) : lendE (none :: ρ) = none :: lendE ρ := nrfl rfl
@[simp] theorem lendOk_bl (b : Bool) : lendOk (.bl b) = true := rfl
@[simp] theorem lendOk_int (b : Int) : lendOk (.int b) = true := rfl
@[simp] theorem lendOk_non : lendOk .non = true := rfl
@[simp] theorem lendOk_lst (xs : List D) : lendOk (.lst true xs) = pureTs xs := rfl
def cmK2 (i : Nat) (d : D) (ρ : Env) : D → Option (D × Env) := fun e => match d, e with
  | .lst true ys, .lst true xs => if xs.length + ys.length ≤ smallL then some (.lst true (xs ++ ys), ρ.set i none) else none
  | _, _ => none
def cmK (i : Nat) : D × Env → Option (D × Env) := fun p => bd (getS p.2 i) (cmK2 i p.1 p.2)
def cmK0 (i : Nat) (f : FE) (ρ : Env) : D → Option (D × Env) := fun _ => bd (f ρ) (cmK i)
@[simp] theorem cmK2_e (i : Nat) (xs ys : List D) (ρ : Env) : cmK2 i (.lst true ys) ρ (.lst true xs) = gb (decide (xs.length + ys.length ≤ smallL)) (some (.lst true (xs ++ ys), ρ.set i none)) := gb_ite _
@[simp] theorem cmK_e (i : Nat) (d : D) (ρ : Env) : cmK i (d, ρ) = bd (getS ρ i) (cmK2 i d ρ) := nrfl rfl
@[simp] theorem cmK0_e (i : Nat) (f : FE) (ρ : Env) (d : D) : cmK0 i f ρ d = bd (f ρ) (cmK i) := nrfl rfl
@[simp] theorem catMvF_e (i : Nat) (f : FE) (ρ : Env) : catMvF i f ρ = bd (getS ρ i) (cmK0 i f ρ) := by
  unfold catMvF cmK0
  cases getS ρ i with
  | none => rfl
  | some d0 =>
    show (f ρ).bind _ = bd (f ρ) (cmK i)
    unfold bd
    congr 1
    funext p
    unfold cmK bd
    cases h : getS p.2 i with
    | none => cases p.1 with
      | lst o xs => cases o <;> rfl
      | _ => rfl
    | some e => 
      show _ = cmK2 i p.1 p.2 e
      unfold cmK2
      cases p.1 with
      | lst o xs =>
        cases o with
        | true => cases e with
          | lst o2 ys => cases o2 <;> rfl
          | _ => rfl
        | false => rfl
      | _ => rfl
/-! a list's element handed to a def -/
def ceK4 (iw il : Nat) (xs : List D) (k : Nat) (ρ : Env) (d : D) : D × D → Option (D × Env) := fun o => some (d, (ρ.set iw (some o.1)).set il (some (.lst true (xs.set k o.2))))
def ceK3 (iw il : Nat) (xs : List D) (k : Nat) (ρ : Env) : D × List (Option D) → Option (D × Env) := fun q => bd (twoOs q.2) (ceK4 iw il xs k ρ q.1)
@[simp] theorem ceK4_e (iw il : Nat) (xs : List D) (k : Nat) (ρ : Env) (d a b : D) : ceK4 iw il xs k ρ d (a, b) = some (d, (ρ.set iw (some a)).set il (some (.lst true (xs.set k b)))) := nrfl rfl
@[simp] theorem ceK3_e (iw il : Nat) (xs : List D) (k : Nat) (ρ : Env) (d a b : D) : ceK3 iw il xs k ρ (d, [some a, some b]) = some (d, (ρ.set iw (some a)).set il (some (.lst true (xs.set k b)))) := nrfl rfl
theorem callElF_e {fn : Fn} {iw il ix : Nat} {ρ : Env} {w y : D} {xs : List D} {j : Int} {k : Nat} (hn : iw ≠ il) (h1 : getS ρ iw = some w) (h2 : getS ρ il = some (.lst true xs)) (h3 : getS ρ ix = some (.int j)) (h4 : ixN xs.length j = some k) (h5 : xs[k]? = some y) : callElF fn iw il ix ρ = bd (fn.sem [w, y]) (ceK3 iw il xs k ρ) := by
  unfold callElF
  rw [if_neg hn, h1, h2, h3]
  show ((ixN xs.length j).bind _) = _
  rw [h4]
  show ((xs[k]?).bind _) = _
  rw [h5]
  rfl
end VS
set_option Elab.async false
set_option linter.all false
set_option maxRecDepth 100000
set_option maxHeartbeats 0
namespace VS
open PySem PySem.Spec PyProof.Rows L2 RZ
/-! the text: where each def stands, its slots -/
def topS (i : Nat) : Stmt := PySem.Challenge.pw_hookmats_k11_lists_spoilt.main.body.getD i (.Pass ⟨0, 0, 0, 0⟩)
abbrev s_made : Stmt := topS 19
theorem sc_made : FnScope ["_law_up", "_law_down", "_law_pairs_here", "_law_row", "_law_left", "_law_right_here", "_law_start", "_law_goal"] ["_law_up", "_law_down", "_law_pairs_here"] (defScope s_made) := ⟨rfl, rfl, rfl, by decide +kernel, rfl, by decide +kernel, by decide +kernel⟩
abbrev s_ring : Stmt := topS 18
theorem sc_ring : FnScope ["_law_up", "_law_down", "_law_at"] ["_law_up", "_law_down"] (defScope s_ring) := ⟨rfl, rfl, rfl, by decide +kernel, rfl, by decide +kernel, by decide +kernel⟩
abbrev s_all : Stmt := topS 22
theorem sc_all : FnScope ["_law_up", "_law_down", "_law_ring_here", "_law_rows", "_law_at", "_law_longer", "_law_waiting", "_law_pairs_here"] ["_law_up", "_law_down"] (defScope s_all) := ⟨rfl, rfl, rfl, by decide +kernel, rfl, by decide +kernel, by decide +kernel⟩
abbrev s_draw : Stmt := topS 16
theorem sc_draw : FnScope ["_law_well_here", "_law_limit", "_law_found", "_law_mixed"] ["_law_well_here", "_law_limit"] (defScope s_draw) := ⟨rfl, rfl, rfl, by decide +kernel, rfl, by decide +kernel, by decide +kernel⟩
abbrev s_counts : Stmt := topS 21
theorem sc_counts : FnScope ["_law_well_here", "_law_most", "_law_size", "_law_way", "_law_up"] ["_law_well_here", "_law_most"] (defScope s_counts) := ⟨rfl, rfl, rfl, by decide +kernel, rfl, by decide +kernel, by decide +kernel⟩
abbrev s_ends : Stmt := topS 23
theorem sc_ends : FnScope ["_law_up", "_law_pairs_here", "_law_left", "_law_right_here"] ["_law_up", "_law_pairs_here"] (defScope s_ends) := ⟨rfl, rfl, rfl, by decide +kernel, rfl, by decide +kernel, by decide +kernel⟩
abbrev s_pairs : Stmt := topS 20
theorem sc_pairs : FnScope ["_law_well_here", "_law_up", "_law_down", "_law_ring_here", "_law_start", "_law_found", "_law_turn", "_law_at"] ["_law_well_here", "_law_up", "_law_down"] (defScope s_pairs) := ⟨rfl, rfl, rfl, by decide +kernel, rfl, by decide +kernel, by decide +kernel⟩
abbrev s_same : Stmt := topS 17
theorem sc_same : FnScope ["_law_found", "_law_due", "_law_here", "_law_there"] ["_law_found", "_law_due"] (defScope s_same) := ⟨rfl, rfl, rfl, by decide +kernel, rfl, by decide +kernel, by decide +kernel⟩
abbrev s_spoil : Stmt := topS 24
theorem sc_spoil : FnScope ["_law_well_here", "_law_rows", "_law_turn", "_law_kind"] ["_law_well_here", "_law_rows"] (defScope s_spoil) := ⟨rfl, rfl, rfl, by decide +kernel, rfl, by decide +kernel, by decide +kernel⟩
abbrev s_p_check_counts : Stmt := topS 8
theorem sc_p_check_counts : FnScope ["n", "m", "number"] ["n", "m"] (defScope s_p_check_counts) := ⟨rfl, rfl, rfl, by decide +kernel, rfl, by decide +kernel, by decide +kernel⟩
abbrev s_p_patterns : Stmt := topS 10
theorem sc_p_patterns : FnScope ["half", "rows", "many", "row", "inner", "first", "within", "head", "behind", "mate"] ["half"] (defScope s_p_patterns) := ⟨rfl, rfl, rfl, by decide +kernel, rfl, by decide +kernel, by decide +kernel⟩
abbrev s_p_remade : Stmt := topS 9
theorem sc_p_remade : FnScope ["n", "m", "mates", "place", "row", "peg", "mate"] ["n", "m", "mates", "place"] (defScope s_p_remade) := ⟨rfl, rfl, rfl, by decide +kernel, rfl, by decide +kernel, by decide +kernel⟩
abbrev s_p_round_of : Stmt := topS 5
theorem sc_p_round_of : FnScope ["n", "m"] ["n", "m"] (defScope s_p_round_of) := ⟨rfl, rfl, rfl, by decide +kernel, rfl, by decide +kernel, by decide +kernel⟩
abbrev s_p_all_mats : Stmt := topS 11
theorem sc_p_all_mats : FnScope ["n", "m", "place", "mates"] ["n", "m"] (defScope s_p_all_mats) := ⟨rfl, rfl, rfl, by decide +kernel, rfl, by decide +kernel, by decide +kernel⟩
abbrev s_p_is_mat : Stmt := topS 6
theorem sc_p_is_mat : FnScope ["told", "n", "m", "mates", "many", "peg", "mate", "waiting"] ["told"] (defScope s_p_is_mat) := ⟨rfl, rfl, rfl, by decide +kernel, rfl, by decide +kernel, by decide +kernel⟩
abbrev s_p_checked_mat : Stmt := topS 7
theorem sc_p_checked_mat : FnScope ["mat"] ["mat"] (defScope s_p_checked_mat) := ⟨rfl, rfl, rfl, by decide +kernel, rfl, by decide +kernel, by decide +kernel⟩
abbrev s_p_rank : Stmt := topS 12
theorem sc_p_rank : FnScope ["mat"] ["mat"] (defScope s_p_rank) := ⟨rfl, rfl, rfl, by decide +kernel, rfl, by decide +kernel, by decide +kernel⟩
abbrev s_p_strings : Stmt := topS 13
theorem sc_p_strings : FnScope ["mat", "n", "m", "mates", "peg", "mate"] ["mat"] (defScope s_p_strings) := ⟨rfl, rfl, rfl, by decide +kernel, rfl, by decide +kernel, by decide +kernel⟩
abbrev s_right : Stmt := topS 25
theorem sc_right : FnScope ["_law_well_here", "_law_most", "_law_total", "_law_above", "_law_due", "_law_up", "_law_down", "_law_pairs_here", "_law_others", "_law_first", "_law_second", "_law_dues", "_law_told", "_law_left", "_law_at", "_law_thing"] ["_law_well_here", "_law_most"] (defScope s_right) := ⟨rfl, rfl, rfl, by decide +kernel, rfl, by decide +kernel, by decide +kernel⟩
abbrev s_well : Stmt := topS 15
theorem sc_well : FnScope ["_law_script", "_law_place", "_law_cell"] ["_law_script", "_law_place"] (defScope s_well) := ⟨rfl, rfl, rfl, by decide +kernel, rfl, by decide +kernel, by decide +kernel⟩
abbrev s_law : Stmt := topS 26
theorem sc_law : FnScope ["_law_script", "_law_place"] ["_law_script"] (defScope s_law) := ⟨rfl, rfl, rfl, by decide +kernel, rfl, by decide +kernel, by decide +kernel⟩
/-! what each def does with its data -/
def FUEL : Nat := 1000000
-- slots: 0 _law_up, 1 _law_down, 2 _law_pairs_here, 3 _law_row, 4 _law_left, 5 _law_right_here, 6 _law_start, 7 _law_goal
def F_made : FS :=
  seqF (asgF (opF mulD [.t (lstF [.t (litF (.int 0))]), .t (opF addD [.b 0, .b 1])]) (tgN 3)) <|
  seqF (forF (itSeq (varF 2)) (tgT 2 (tgCons (tgN 4) (tgCons (tgN 5) (tgNil)))) (seqF (parF [6, 7] [.t (opF addD [.t (opF mulD [.t (opF ixD [.b 4, .t (litF (.int 0))]), .b 0]), .t (opF ixD [.b 4, .t (litF (.int 1))])]), .t (opF addD [.t (opF mulD [.t (opF ixD [.b 5, .t (litF (.int 0))]), .b 0]), .t (opF ixD [.b 5, .t (litF (.int 1))])])]) <|
  asgF (tupF [.t (varF 7), .t (varF 6)]) (tgT 2 (tgCons (tgSub 3 (.b 6)) (tgCons (tgSub 3 (.b 7)) (tgNil)))))) <|
  retF (tupF [.t (varF 0), .t (varF 1), .t (opF tupleD [.b 3])])
def fn_made : Fn := bodyFn 8 3 [true, true, true] F_made
-- slots: 0 _law_up, 1 _law_down, 2 _law_at
def F_ring : FS :=
  retF (opF addD [.t (lcF [2] (itRg rng1D [.b 0]) (tgN 2) (yesF) (tupF [.t (litF (.int 0)), .t (varF 2)])), .t (lcF [2] (itRg rng3D [.t (opF subD [.b 1, .t (litF (.int 1))]), .t (opF negD [.t (litF (.int 1))]), .t (opF negD [.t (litF (.int 1))])]) (tgN 2) (yesF) (tupF [.t (litF (.int 1)), .t (varF 2)]))])
def fn_ring : Fn := bodyFn 3 2 [true, true] F_ring
-- slots: 0 _law_up, 1 _law_down, 2 _law_ring_here, 3 _law_rows, 4 _law_at, 5 _law_longer, 6 _law_waiting, 7 _law_pairs_here
def F_all : FS :=
  seqF (parF [2, 3] [.t (callF fn_ring [.b 0, .b 1]), .t (lstF [.t (tupF [.t (tupF []), .t (tupF [])])])]) <|
  seqF (ifF (bT (opF (eqD) [.b 2, .t (lstF [])])) (retF (lstF [])) (passF)) <|
  seqF (forF (itRg rng1D [.t (opF lenD [.b 2])]) (tgN 4) (seqF (asgF (lstF []) (tgN 5)) <|
  seqF (forF (itSeq (varF 3)) (tgT 2 (tgCons (tgN 6) (tgCons (tgN 7) (tgNil)))) (seqF (ifF (bT (opF (ltD) [.t (opF lenD [.b 6]), .t (opF subD [.t (opF subD [.t (opF lenD [.b 2]), .b 4]), .t (litF (.int 1))])])) (dropF (mutF 5 appD [.t (tupF [.t (opF addD [.b 6, .t (tupF [.t (opF ixD [.b 2, .b 4])])]), .t (varF 7)])])) (passF)) <|
  ifF (bT (opF (neD) [.b 6, .t (tupF [])])) (dropF (mutF 5 appD [.t (tupF [.t (opF (partD false true) [.b 6, .t (opF negD [.t (litF (.int 1))])]), .t (opF addD [.b 7, .t (tupF [.t (tupF [.t (opF ixD [.b 6, .t (opF negD [.t (litF (.int 1))])]), .t (opF ixD [.b 2, .b 4])])])])])])) (passF))) <|
  asgF (varF 5) (tgN 3))) <|
  retF (opF sortedMD [.t (lcF [6, 7] (itSeq (varF 3)) (tgT 2 (tgCons (tgN 6) (tgCons (tgN 7) (tgNil)))) (bT (opF (eqD) [.b 6, .t (tupF [])])) (callF fn_made [.b 0, .b 1, .b 7]))])
def fn_all : Fn := bodyFn 8 2 [true, true] F_all
-- slots: 0 _law_well_here, 1 _law_limit, 2 _law_found, 3 _law_mixed
def F_draw : FS :=
  seqF (ifF (bT (opF (gtD) [.t (opF ixD [.b 0, .t (litF (.int 0))]), .t (litF (.int 0))])) (seqF (asgF (opF modD [.t (opF intD [.t (opF ixD [.b 0, .t (litF (.int 0))])]), .b 1]) (tgN 2)) <|
  seqF (asgF (opF fdivD [.t (opF ixD [.b 0, .t (litF (.int 0))]), .b 1]) (tgSub 0 (.t (litF (.int 0))))) <|
  retF (movF 2)) (passF)) <|
  seqF (asgF (opF addD [.t (opF ixD [.b 0, .t (litF (.int 2))]), .t (litF (.int 1))]) (tgSub 0 (.t (litF (.int 2))))) <|
  seqF (asgF (opF modD [.t (opF intD [.t (opF powD [.t (opF addD [.t (opF ixD [.b 0, .t (litF (.int 1))]), .t (opF mulD [.t (litF (.int 373587883)), .t (opF ixD [.b 0, .t (litF (.int 2))])])]), .t (litF (.int 3))])]), .t (opF addD [.t (opF powD [.t (litF (.int 10)), .t (litF (.int 43))]), .t (litF (.int 63))])]) (tgN 3)) <|
  seqF (asgF (opF modD [.t (opF intD [.t (opF powD [.t (opF addD [.b 3, .t (opF mulD [.t (opF mulD [.t (litF (.int 982451653)), .t (opF ixD [.b 0, .t (litF (.int 2))])]), .t (opF ixD [.b 0, .t (litF (.int 2))])])]), .t (litF (.int 2))])]), .t (opF addD [.t (opF powD [.t (litF (.int 10)), .t (litF (.int 41))]), .t (litF (.int 69))])]) (tgN 3)) <|
  retF (opF modD [.t (opF intD [.t (opF fdivD [.b 3, .t (opF powD [.t (litF (.int 10)), .t (litF (.int 7))])])]), .b 1])
def fn_draw : Fn := bodyFn 4 2 [true, true] F_draw
-- slots: 0 _law_well_here, 1 _law_most, 2 _law_size, 3 _law_way, 4 _law_up
def F_counts : FS :=
  seqF (asgF (opF addD [.t (litF (.int 1)), .t (callF fn_draw [.b 0, .t (opF fdivD [.b 1, .t (litF (.int 2))])])]) (tgN 2)) <|
  seqF (asgF (callF fn_draw [.b 0, .t (litF (.int 5))]) (tgN 3)) <|
  seqF (ifF (bT (opF (ltD) [.b 3, .t (litF (.int 2))])) (retF (tupF [.t (varF 2), .t (varF 2)])) (passF)) <|
  seqF (asgF (callF fn_draw [.b 0, .t (opF addD [.t (opF mulD [.t (litF (.int 2)), .b 2]), .t (litF (.int 1))])]) (tgN 4)) <|
  seqF (ifF (bT (opF (eqD) [.b 3, .t (litF (.int 4))])) (asgF (opF mulD [.t (opF mulD [.t (litF (.int 2)), .b 2]), .t (opF intD [.t (opF (gtD) [.b 4, .b 2])])]) (tgN 4)) (passF)) <|
  retF (tupF [.t (varF 4), .t (opF subD [.t (opF mulD [.t (litF (.int 2)), .b 2]), .b 4])])
def fn_counts : Fn := bodyFn 5 2 [true, true] F_counts
-- slots: 0 _law_up, 1 _law_pairs_here, 2 _law_left, 3 _law_right_here
def F_ends : FS :=
  retF (opF sortedMD [.t (lcF [2, 3] (itSeq (varF 1)) (tgT 2 (tgCons (tgN 2) (tgCons (tgN 3) (tgNil)))) (yesF) (opF tupleD [.t (opF sortedID [.t (lstF [.t (opF addD [.t (opF mulD [.t (opF ixD [.b 2, .t (litF (.int 0))]), .b 0]), .t (opF ixD [.b 2, .t (litF (.int 1))])]), .t (opF addD [.t (opF mulD [.t (opF ixD [.b 3, .t (litF (.int 0))]), .b 0]), .t (opF ixD [.b 3, .t (litF (.int 1))])])])])]))])
def fn_ends : Fn := bodyFn 4 2 [true, true] F_ends
-- slots: 0 _law_well_here, 1 _law_up, 2 _law_down, 3 _law_ring_here, 4 _law_start, 5 _law_found, 6 _law_turn, 7 _law_at
def F_pairs : FS :=
  seqF (asgF (callF fn_ring [.b 1, .b 2]) (tgN 3)) <|
  seqF (asgF (callF fn_draw [.b 0, .t (opF lenD [.b 3])]) (tgN 4)) <|
  seqF (ifF (bT (opF (eqD) [.t (callF fn_draw [.b 0, .t (litF (.int 4))]), .t (litF (.int 3))])) (seqF (asgF (opF addD [.t (opF (partD true false) [.b 3, .b 4]), .t (opF (partD false true) [.b 3, .b 4])]) (tgN 3)) <|
  retF (lcF [7] (itRg rng1D [.t (opF fdivD [.t (opF lenD [.b 3]), .t (litF (.int 2))])]) (tgN 7) (yesF) (tupF [.t (opF ixD [.b 3, .b 7]), .t (opF ixD [.b 3, .t (opF subD [.t (opF negD [.t (litF (.int 1))]), .b 7])])]))) (passF)) <|
  seqF (asgF (lstF []) (tgN 5)) <|
  seqF (forF (itRg rng1D [.t (opF fdivD [.t (opF lenD [.b 3]), .t (litF (.int 2))])]) (tgN 6) (seqF (asgF (callF fn_draw [.b 0, .t (opF subD [.t (opF lenD [.b 3]), .t (litF (.int 1))])]) (tgN 7)) <|
  dropF (mutF 5 appD [.t (tupF [.t (mutF 3 popAtD [.t (varF 7)]), .t (mutF 3 popAtD [.t (varF 7)])])]))) <|
  retF (movF 5)
def fn_pairs : Fn := bodyFn 8 3 [true, true, true] F_pairs
-- slots: 0 _law_found, 1 _law_due, 2 _law_here, 3 _law_there
def F_same (fn : Fn) : FS :=
  seqF (ifF (bT (opF (isNonD) [.b 1, .t (litF .non)])) (retF (opF (isNonD) [.b 0, .t (litF .non)])) (passF)) <|
  seqF (ifF (tstF (.t (opF (isiTD ["list", "tuple"]) [.b 1]))) (seqF (ifF (orF (notF (tstF (.t (opF (isiTD ["list", "tuple"]) [.b 0])))) (bT (opF (neD) [.t (opF (isiD "list") [.b 0]), .t (opF (isiD "list") [.b 1])]))) (retF (litF (.bl false))) (passF)) <|
  seqF (ifF (bT (opF (neD) [.t (opF lenD [.b 0]), .t (opF lenD [.b 1])])) (retF (litF (.bl false))) (passF)) <|
  seqF (forF (itZip (varF 0) (varF 1)) (tgT 2 (tgCons (tgN 2) (tgCons (tgN 3) (tgNil)))) (ifF (notF (tstF (.t (callF fn [.b 2, .b 3])))) (retF (litF (.bl false))) (passF))) <|
  retF (litF (.bl true))) (passF)) <|
  seqF (ifF (tstF (.t (opF (isiD "str") [.b 1]))) (retF (andV (opF (isiD "str") [.b 0]) (opF (eqD) [.b 0, .b 1]))) (passF)) <|
  seqF (ifF (bT (opF (neD) [.t (opF (isiD "bool") [.b 0]), .t (opF (isiD "bool") [.b 1])])) (retF (litF (.bl false))) (passF)) <|
  retF (andV (opF (isiD "int") [.b 0]) (opF (eqD) [.b 0, .b 1]))
def fn_same_at : Nat → Fn
  | 0 => stuckFn 2 [true, true]
  | n + 1 => bodyFn 4 2 [true, true] (F_same (fn_same_at n))
def fn_same : Fn := fn_same_at 20
-- slots: 0 _law_well_here, 1 _law_rows, 2 _law_turn, 3 _law_kind
def F_spoil : FS :=
  forF (itRg rng1D [.t (opF addD [.t (litF (.int 1)), .t (callF fn_draw [.b 0, .t (litF (.int 3))])])]) (tgN 2) (seqF (asgF (callF fn_draw [.b 0, .t (litF (.int 5))]) (tgN 3)) <|
  ifF (orF (bT (opF (eqD) [.b 3, .t (litF (.int 0))])) (bT (opF (eqD) [.b 1, .t (lstF [])]))) (dropF (mutF 1 appD [.t (opF ixD [.t (lstF [.t (tupF [.t (litF (.int 0)), .t (litF (.int 1))]), .t (tupF [.t (litF (.int 9)), .t (litF (.int 9)), .t (tupF [.t (litF (.int 9))])]), .t (litF .non), .t (litF (.int 7))]), .t (callF fn_draw [.b 0, .t (litF (.int 4))])])])) (ifF (bT (opF (eqD) [.b 3, .t (litF (.int 1))])) (dropF (mutF 1 revD [])) (ifF (bT (opF (eqD) [.b 3, .t (litF (.int 2))])) (dropF (mutF 1 clrD [])) (ifF (bT (opF (eqD) [.b 3, .t (litF (.int 3))])) (asgF (tupF [.t (litF (.int 1)), .t (litF (.int 0))]) (tgSub 1 (.t (callF fn_draw [.b 0, .t (opF lenD [.b 1])])))) (dropF (mutF 1 popAtD [.t (callF fn_draw [.b 0, .t (opF lenD [.b 1])])]))))))
def fn_spoil : Fn := bodyFn 4 2 [true, true] F_spoil
-- slots: 0 n, 1 m, 2 number
def F_p_check_counts : FS :=
  forF (itSeq (tupF [.t (varF 0), .t (varF 1)])) (tgN 2) (ifF (bT (opF (ltD) [.b 2, .t (litF (.int 0))])) (neverF) (passF))
def fn_p_check_counts : Fn := bodyFn 3 2 [true, true] F_p_check_counts
-- slots: 0 half, 1 rows, 2 many, 3 row, 4 inner, 5 first, 6 within, 7 head, 8 behind, 9 mate
def F_p_patterns : FS :=
  seqF (asgF (lstF [.t (frzF (lstF [.t (tupF [])]))]) (tgN 1)) <|
  seqF (whF FUEL (bT (opF (leD) [.t (opF lenD [.b 1]), .b 0])) (seqF (asgF (opF lenD [.b 1]) (tgN 2)) <|
  seqF (asgF (lstF []) (tgN 3)) <|
  seqF (forF (itRg rng1D [.b 2]) (tgN 4) (seqF (asgF (opF addD [.t (opF mulD [.t (litF (.int 2)), .b 4]), .t (litF (.int 1))]) (tgN 5)) <|
  forF (itSeq (opF ixD [.b 1, .b 4])) (tgN 6) (seqF (asgF (opF addD [.t (opF addD [.t (lstF [.t (varF 5)]), .t (lcF [9] (itSeq (varF 6)) (tgN 9) (yesF) (opF addD [.b 9, .t (litF (.int 1))]))]), .t (lstF [.t (litF (.int 0))])]) (tgN 7)) <|
  forF (itSeq (opF ixD [.b 1, .t (opF subD [.t (opF subD [.b 2, .t (litF (.int 1))]), .b 4])])) (tgN 8) (dropF (mutF 3 appD [.t (opF tupleD [.t (opF addD [.b 7, .t (lcF [9] (itSeq (varF 8)) (tgN 9) (yesF) (opF addD [.t (opF addD [.b 9, .b 5]), .t (litF (.int 1))]))])])]))))) <|
  dropF (mutF 1 appD [.t (varF 3)]))) <|
  retF (opF ixD [.b 1, .b 0])
def fn_p_patterns : Fn := bodyFn 10 1 [true] F_p_patterns
-- slots: 0 n, 1 m, 2 mates, 3 place, 4 row, 5 peg, 6 mate
def F_p_remade : FS :=
  seqF (asgF (opF mulD [.t (lstF [.t (litF (.int 0))]), .t (opF addD [.b 0, .b 1])]) (tgN 4)) <|
  seqF (forF (itEnum (varF 2)) (tgT 2 (tgCons (tgN 5) (tgCons (tgN 6) (tgNil)))) (asgF (opF ixD [.b 3, .b 6]) (tgSub 4 (.t (opF ixD [.b 3, .b 5]))))) <|
  retF (tupF [.t (varF 0), .t (varF 1), .t (opF tupleD [.b 4])])
def fn_p_remade : Fn := bodyFn 7 4 [true, true, true, true] F_p_remade
-- slots: 0 n, 1 m
def F_p_round_of : FS :=
  retF (opF addD [.t (opF (lrgD rng1D) [.b 0]), .t (opF (lrgD rng3D) [.t (opF subD [.t (opF addD [.b 0, .b 1]), .t (litF (.int 1))]), .t (opF subD [.b 0, .t (litF (.int 1))]), .t (opF negD [.t (litF (.int 1))])])])
def fn_p_round_of : Fn := bodyFn 2 2 [true, true] F_p_round_of
-- slots: 0 n, 1 m, 2 place, 3 mates
def F_p_all_mats : FS :=
  seqF (dropF (callF fn_p_check_counts [.b 0, .b 1])) <|
  seqF (ifF (orF (bT (opF (eqD) [.t (opF addD [.b 0, .b 1]), .t (litF (.int 0))])) (bT (opF (neD) [.t (opF modD [.t (opF addD [.b 0, .b 1]), .t (litF (.int 2))]), .t (litF (.int 0))]))) (retF (lstF [])) (passF)) <|
  seqF (asgF (callF fn_p_round_of [.b 0, .b 1]) (tgN 2)) <|
  retF (opF sortedMD [.t (lcF [3] (itSeq (callF fn_p_patterns [.t (opF fdivD [.t (opF addD [.b 0, .b 1]), .t (litF (.int 2))])])) (tgN 3) (yesF) (callF fn_p_remade [.b 0, .b 1, .b 3, .b 2]))])
def fn_p_all_mats : Fn := bodyFn 4 2 [true, true] F_p_all_mats
-- slots: 0 told, 1 n, 2 m, 3 mates, 4 many, 5 peg, 6 mate, 7 waiting
def F_p_is_mat : FS :=
  seqF (asgF (varF 0) (tgT 3 (tgCons (tgN 1) (tgCons (tgN 2) (tgCons (tgN 3) (tgNil)))))) <|
  seqF (asgF (opF lenD [.b 3]) (tgN 4)) <|
  seqF (ifF (orF (bT (opF (ltD) [.b 1, .t (litF (.int 0))])) (orF (bT (opF (ltD) [.b 2, .t (litF (.int 0))])) (orF (bT (opF (neD) [.t (opF addD [.b 1, .b 2]), .b 4])) (bT (opF (eqD) [.b 4, .t (litF (.int 0))]))))) (retF (litF (.bl false))) (passF)) <|
  seqF (forF (itEnum (varF 3)) (tgT 2 (tgCons (tgN 5) (tgCons (tgN 6) (tgNil)))) (ifF (orF (bT (opF (ltD) [.b 6, .t (litF (.int 0))])) (orF (bT (opF (geD) [.b 6, .b 4])) (orF (bT (opF (eqD) [.b 6, .b 5])) (bT (opF (neD) [.t (opF ixD [.b 3, .b 6]), .b 5]))))) (retF (litF (.bl false))) (passF))) <|
  seqF (asgF (lstF []) (tgN 7)) <|
  seqF (forF (itSeq (callF fn_p_round_of [.b 1, .b 2])) (tgN 5) (ifF (andF (bT (opF (neD) [.b 7, .t (lstF [])])) (bT (opF (eqD) [.t (opF ixD [.b 7, .t (opF negD [.t (litF (.int 1))])]), .t (opF ixD [.b 3, .b 5])]))) (dropF (mutF 7 popD [])) (dropF (mutF 7 appD [.t (varF 5)])))) <|
  retF (opF (eqD) [.b 7, .t (lstF [])])
def fn_p_is_mat : Fn := bodyFn 8 1 [true] F_p_is_mat
-- slots: 0 mat
def F_p_checked_mat : FS :=
  seqF (ifF (notF (tstF (.t (callF fn_p_is_mat [.b 0])))) (neverF) (passF)) <|
  retF (varF 0)
def fn_p_checked_mat : Fn := bodyFn 1 1 [true] F_p_checked_mat
-- slots: 0 mat
def F_p_rank : FS :=
  seqF (dropF (callF fn_p_checked_mat [.b 0])) <|
  retF (methTF (callF fn_p_all_mats [.t (opF ixD [.b 0, .t (litF (.int 0))]), .t (opF ixD [.b 0, .t (litF (.int 1))])]) indexD [.b 0])
def fn_p_rank : Fn := bodyFn 1 1 [true] F_p_rank
-- slots: 0 mat, 1 n, 2 m, 3 mates, 4 peg, 5 mate
def F_p_strings : FS :=
  seqF (asgF (callF fn_p_checked_mat [.b 0]) (tgT 3 (tgCons (tgN 1) (tgCons (tgN 2) (tgCons (tgN 3) (tgNil)))))) <|
  retF (lcF [4, 5] (itEnum (varF 3)) (tgT 2 (tgCons (tgN 4) (tgCons (tgN 5) (tgNil)))) (bT (opF (ltD) [.b 4, .b 5])) (tupF [.t (varF 4), .t (varF 5)]))
def fn_p_strings : Fn := bodyFn 6 1 [true] F_p_strings
-- slots: 0 _law_well_here, 1 _law_most, 2 _law_total, 3 _law_above, 4 _law_due, 5 _law_up, 6 _law_down, 7 _law_pairs_here, 8 _law_others, 9 _law_first, 10 _law_second, 11 _law_dues, 12 _law_told, 13 _law_left, 14 _law_at, 15 _law_thing
def F_right : FS :=
  seqF (asgF (callF fn_draw [.b 0, .t (opF addD [.b 1, .t (litF (.int 1))])]) (tgN 2)) <|
  seqF (asgF (callF fn_draw [.b 0, .t (opF addD [.b 2, .t (litF (.int 1))])]) (tgN 3)) <|
  seqF (asgF (callF fn_all [.b 3, .t (opF subD [.b 2, .b 3])]) (tgN 4)) <|
  seqF (asgF (callF fn_counts [.b 0, .t (litF (.int 16))]) (tgT 2 (tgCons (tgN 5) (tgCons (tgN 6) (tgNil))))) <|
  seqF (parF [7, 8] [.t (callF fn_pairs [.b 0, .b 5, .b 6]), .t (callF fn_pairs [.b 0, .b 5, .b 6])]) <|
  seqF (parF [9, 10] [.t (callF fn_made [.b 5, .b 6, .b 7]), .t (callF fn_made [.b 5, .b 6, .b 8])]) <|
  seqF (asgF (lstF [.t (varF 4), .t (varF 4), .t (callF fn_ends [.b 5, .b 7]), .t (callF fn_ends [.b 5, .b 7]), .t (callF fn_ends [.b 5, .b 8])]) (tgN 11)) <|
  seqF (asgF (lstF [.t (callF fn_p_all_mats [.b 3, .t (opF subD [.b 2, .b 3])]), .t (callF fn_p_all_mats [.b 3, .t (opF subD [.b 2, .b 3])])]) (tgN 12)) <|
  seqF (asgF (catMvF 12 (lstF [.t (callF fn_p_strings [.b 9]), .t (callF fn_p_strings [.b 9]), .t (callF fn_p_strings [.b 10])])) (tgN 12)) <|
  seqF (ifF (lendB (notF (tstF (.t (callF fn_same [.b 12, .b 11]))))) (retF (lendF (litF (.bl false)))) (passF)) <|
  seqF (asgF (lstF []) (tgN 13)) <|
  seqF (forF (itSeq (tupF [.t (litF (.int 0)), .t (litF (.int 2))])) (tgN 14) (seqF (dropF (callElF fn_spoil 0 12 14)) <|
  seqF (dropF (mutF 13 appD [.t (lendF (opF listD [.t (opF ixD [.b 12, .b 14])]))])) <|
  seqF (ifF (lendB (orF (notF (tstF (.t (callF fn_same [.t (opF ixD [.b 12, .t (litF (.int 1))]), .t (opF ixD [.b 11, .t (litF (.int 1))])])))) (notF (tstF (.t (callF fn_same [.t (opF (partD true false) [.b 12, .t (litF (.int 3))]), .t (opF (partD true false) [.b 11, .t (litF (.int 3))])])))))) (retF (lendF (litF (.bl false)))) (passF)) <|
  ifF (lendB (orF (notF (tstF (.t (callF fn_same [.t (callF fn_p_all_mats [.b 3, .t (opF subD [.b 2, .b 3])]), .b 4])))) (notF (tstF (.t (callF fn_same [.t (callF fn_p_strings [.b 9]), .t (opF ixD [.b 11, .t (litF (.int 2))])])))))) (retF (lendF (litF (.bl false)))) (passF))) <|
  seqF (ifF (lendB (orF (notF (tstF (.t (callF fn_same [.t (opF addD [.t (opF (partD true true) [.b 12, .t (asInt (litF (.int 1))), .t (asInt (litF (.int 2)))]), .t (opF (partD true false) [.b 12, .t (litF (.int 3))])]), .t (opF addD [.t (opF (partD true true) [.b 11, .t (asInt (litF (.int 1))), .t (asInt (litF (.int 2)))]), .t (opF (partD true false) [.b 11, .t (litF (.int 3))])])])))) (orF (bT (opF (neD) [.t (opF ixD [.b 12, .t (litF (.int 0))]), .t (opF ixD [.b 13, .t (litF (.int 0))])])) (bT (opF (neD) [.t (opF ixD [.b 12, .t (litF (.int 2))]), .t (opF ixD [.b 13, .t (litF (.int 1))])]))))) (retF (lendF (litF (.bl false)))) (passF)) <|
  seqF (ifF (lendB (andF (bT (opF (ltD) [.b 2, .t (litF (.int 9))])) (notF (tstF (.t (callF fn_same [.t (lcF [15] (itSeq (opF ixD [.b 12, .t (litF (.int 1))])) (tgN 15) (yesF) (callF fn_p_rank [.b 15])), .t (opF (lrgD rng1D) [.t (opF lenD [.b 4])])])))))) (retF (lendF (litF (.bl false)))) (passF)) <|
  retF (lendF (callF fn_same [.t (callF fn_p_strings [.b 10]), .t (opF ixD [.b 11, .t (litF (.int 4))])]))
def fn_right : Fn := bodyFn 16 2 [true, true] F_right
-- slots: 0 _law_script, 1 _law_place, 2 _law_cell
def F_well : FS :=
  seqF (asgF (litF (.int 0)) (tgN 2)) <|
  seqF (ifF (bT (opF (ltD) [.b 1, .t (opF lenD [.b 0])])) (asgF (opF intD [.t (opF ixD [.b 0, .b 1])]) (tgN 2)) (passF)) <|
  retF (lstF [.t (opF max2D [.t (litF (.int 0)), .t (opF subD [.b 2, .t (opF powD [.t (litF (.int 10)), .t (litF (.int 18))])])]), .t (opF addD [.t (opF addD [.t (opF modD [.t (opF intD [.b 2]), .t (opF addD [.t (opF powD [.t (litF (.int 10)), .t (litF (.int 33))]), .t (litF (.int 61))])]), .t (opF mulD [.t (litF (.int 104395301)), .b 1])]), .t (litF (.int 1299709))]), .t (litF (.int 0))])
def fn_well : Fn := bodyFn 3 2 [true, true] F_well
-- slots: 0 _law_script, 1 _law_place
def F_law : FS :=
  seqF (forF (itRg rng1D [.t (opF max2D [.t (litF (.int 3)), .t (opF min2D [.t (opF lenD [.b 0]), .t (litF (.int 12))])])]) (tgN 1) (ifF (notF (tstF (.t (callF fn_right [.t (callF fn_well [.b 0, .b 1]), .t (opF ixD [.t (lstF [.t (litF (.int 8)), .t (litF (.int 12))]), .t (opF intD [.t (opF (eqD) [.b 1, .t (litF (.int 0))])])])])))) (retF (litF (.bl false))) (passF))) <|
  retF (litF (.bl true))
def fn_law : Fn := bodyFn 2 1 [true] F_law
end VS
set_option Elab.async false
set_option linter.all false
set_option maxRecDepth 100000
namespace VS
open PySem PySem.Spec PyProof.Rows L2 RZ
theorem powOk_of {a n : Int} (h0 : 0 ≤ n) (h1 : n ≤ 100) (h2 : a.natAbs < 2 ^ 100000) : powOk a n = true := by
  unfold powOk
  have hb : (Builtin.Int.intBits a : Nat) ≤ 100001 := by
    unfold Builtin.Int.intBits
    split
    · omega
    · rename_i h
      have h : a.natAbs ≠ 0 := by simp at h; omega
      have : a.natAbs.log2 < 100000 := (Nat.log2_lt h).mpr h2
      omega
  simp only [Bool.and_eq_true, decide_eq_true_eq]
  refine ⟨h0, ?_⟩
  have : (Builtin.Int.intBits a : Int) ≤ 100001 := by omega
  have : (Builtin.Int.intBits a : Int) * n ≤ 100001 * n := Int.mul_le_mul_of_nonneg_right this h0
  omega
theorem lt_pow100 {a : Nat} (h : a < 2 ^ 1000) : a < 2 ^ 100000 := Nat.lt_of_lt_of_le h (Nat.pow_le_pow_right (by decide) (by decide))
@[simp] theorem powOk_10_43 : powOk 10 43 = true := by decide +kernel
@[simp] theorem powOk_10_41 : powOk 10 41 = true := by decide +kernel
@[simp] theorem powOk_10_7 : powOk 10 7 = true := by decide +kernel
@[simp] theorem powOk_10_18 : powOk 10 18 = true := by decide +kernel
@[simp] theorem powOk_10_33 : powOk 10 33 = true := by decide +kernel
def wellD (w0 w1 w2 : Int) : D := .lst true [.int w0, .int w1, .int w2]
def Wok (N : Nat) (d : D) : Prop := ∃ w0 w1 w2 : Int, d = wellD w0 w1 w2 ∧ 0 ≤ w0 ∧ 0 ≤ w1 ∧ w1 < 2 ^ 200 ∧ 0 ≤ w2 ∧ w2 + N ≤ 2 ^ 40
theorem Wok.le {N M : Nat} {d : D} (h : Wok N d) (hl : M ≤ N) : Wok M d := by
  obtain ⟨w0, w1, w2, a, b, c, d, e, f⟩ := h
  exact ⟨w0, w1, w2, a, b, c, d, e, by omega⟩
theorem fmod_in {a b : Int} (h : 0 < b) : 0 ≤ a.fmod b ∧ a.fmod b < b := ⟨Int.fmod_nonneg_of_pos a h, Int.fmod_lt_of_pos a h⟩
theorem fdivOk_big {b : Int} (h1 : 0 < b) (h2 : b < 2 ^ 1000) : fdivOk b = true := by
  unfold fdivOk
  have h : b.natAbs.log2 < 9000 := by
    have hn : b.natAbs ≠ 0 := by omega
    have : b.natAbs.log2 < 1000 := (Nat.log2_lt hn).mpr (by omega)
    omega
  simp [h1, h]
theorem draw_ok {N : Nat} {w : D} {lim : Int} (hw : Wok (N + 1) w) (hl : 0 < lim) (hl2 : lim < 2 ^ 1000) :
    ∃ v w', fn_draw.sem [w, .int lim] = some (.int v, [some w', some (.int lim)]) ∧ 0 ≤ v ∧ v < lim ∧ Wok N w' := by
  obtain ⟨w0, w1, w2, rfl, b, c, d, e, f⟩ := hw
  by_cases h0 : 0 < w0
  · refine ⟨w0.fmod lim, wellD (w0.fdiv lim) w1 w2, ?_, (fmod_in hl).1, (fmod_in hl).2, ⟨_, _, _, rfl, ?_, c, d, e, by omega⟩⟩
    · unfold fn_draw F_draw wellD
      rw [bodyFn_sem]
      have h1 : fdivOk lim = true := fdivOk_big hl hl2
      have h2 : lim ≠ 0 := by omega
      simp [h0, h1, h2]
    · exact Int.fdiv_nonneg b (by omega)
  · have h2 : lim ≠ 0 := by omega
    have m1 : mulOk 373587883 (w2 + 1) = true := mulOk_l (by omega) (by omega)
    have m2 : mulOk 982451653 (w2 + 1) = true := mulOk_l (by omega) (by omega)
    have m3 : mulOk (982451653 * (w2 + 1)) (w2 + 1) = true := mulOk_r (by omega) (by omega)
    have p1 : powOk (w1 + 373587883 * (w2 + 1)) 3 = true := powOk_of (by omega) (by omega) (lt_pow100 (by omega))
    have p2 : ∀ x : Int, powOk (x.fmod 10000000000000000000000000000000000000000063 + 982451653 * (w2 + 1) * (w2 + 1)) 2 = true := fun x => powOk_of (by omega) (by omega) (lt_pow100 (by
      have := fmod_in (a := x) (b := 10000000000000000000000000000000000000000063) (by omega)
      have h3 : 0 ≤ 982451653 * (w2 + 1) := by omega
      have h4 : 0 ≤ 982451653 * (w2 + 1) * (w2 + 1) := Int.mul_nonneg h3 (by omega)
      have h5 : 982451653 * (w2 + 1) * (w2 + 1) ≤ (982451653 * 2 ^ 40) * 2 ^ 40 := Int.mul_le_mul (by omega) (by omega) (by omega) (by omega)
      omega))
    have f1 : fdivOk 10000000 = true := by decide +kernel
    have hs : ∃ x : Int, fn_draw.sem [wellD w0 w1 w2, .int lim] = some (.int (x.fmod lim), [some (wellD w0 w1 (w2 + 1)), some (.int lim)]) := by
      unfold fn_draw F_draw wellD
      rw [bodyFn_sem]
      simp [h0, h2, m1, m2, m3, p1, p2, f1]
      exact ⟨_, rfl⟩
    obtain ⟨x, hs⟩ := hs
    exact ⟨_, _, hs, (fmod_in hl).1, (fmod_in hl).2, ⟨_, _, _, rfl, b, c, d, by omega, by omega⟩⟩
def natD (i : Nat) : D := .int (i : Nat)
def spD (s : Nat × Nat) : D := .tup [.int (s.1 : Nat), .int (s.2 : Nat)]
def prD (p : (Nat × Nat) × (Nat × Nat)) : D := .tup [spD p.1, spD p.2]
def matD (n m : Nat) (row : List Nat) : D := .tup [.int (n : Nat), .int (m : Nat), .tup (row.map natD)]
@[simp] theorem noOwn_natD (i : Nat) : noOwn (natD i) = true := by simp [natD]
@[simp] theorem noOwn_spD (s : Nat × Nat) : noOwn (spD s) = true := by simp [spD]
@[simp] theorem noOwn_prD (p : (Nat × Nat) × (Nat × Nat)) : noOwn (prD p) = true := by simp [prD]
@[simp] theorem noOwns_natDs (xs : List Nat) : noOwns (xs.map natD) = true := noOwns_map noOwn_natD xs
@[simp] theorem noOwns_spDs (xs : List (Nat × Nat)) : noOwns (xs.map spD) = true := noOwns_map noOwn_spD xs
@[simp] theorem noOwns_prDs (xs : List ((Nat × Nat) × (Nat × Nat))) : noOwns (xs.map prD) = true := noOwns_map noOwn_prD xs
@[simp] theorem freezes_natDs (xs : List Nat) : freezes (xs.map natD) = xs.map natD := freezes_of (noOwns_natDs xs)
@[simp] theorem freezes_spDs (xs : List (Nat × Nat)) : freezes (xs.map spD) = xs.map spD := freezes_of (noOwns_spDs xs)
@[simp] theorem freezes_prDs (xs : List ((Nat × Nat) × (Nat × Nat))) : freezes (xs.map prD) = xs.map prD := freezes_of (noOwns_prDs xs)
@[simp] theorem noOwn_matD (n m : Nat) (row : List Nat) : noOwn (matD n m row) = true := by simp [matD]
theorem intsTo_natD (n : Nat) : intsTo 0 n = (List.range n).map natD := intsTo_map n
theorem goLc_mapI {α : Type} {vs : List Nat} {fg : D → Env → Option Env} {fe : FE} {ρ : Env} (enc e : α → D) (xs : List α) (h : ∀ x ∈ xs, lcTurn vs fg fe (enc x) ρ = some (e x, ρ)) : goLc vs fg yesF fe (xs.map enc) ρ = some (xs.map e, ρ) := by
  induction xs with
  | nil => rfl
  | cons x xs ih =>
    have h1 := h x (by simp)
    unfold lcTurn bd at h1
    show (fg (enc x) ρ).bind _ = _
    cases hg : fg (enc x) ρ with
    | none => rw [hg] at h1; cases h1
    | some ρ1 =>
      rw [hg] at h1
      simp only [Option.bind_some] at h1 ⊢
      show ((some (true, ρ1) : Option (Bool × Env)).bind _) = _
      simp only [Option.bind_some, if_true]
      cases hf : fe ρ1 with
      | none => rw [hf] at h1; cases h1
      | some q =>
        rw [hf] at h1
        simp only [Option.bind_some, Option.some.injEq, Prod.mk.injEq] at h1 ⊢
        rw [h1.2, ih fun d hd => h d (by simp [hd])]
        simp [h1.1]
theorem intsBy_down (lo : Int) (n : Nat) : intsBy lo (-1) n = (List.range n).map fun i => D.int (lo - (i : Nat)) := by
  unfold intsBy
  apply List.map_congr_left
  intro i _
  congr 1
  omega
theorem range_rev' (n : Nat) : (List.range n).reverse = (List.range n).map fun i => n - 1 - i := (range_rev n).symm
theorem intsBy_rev (lo n : Nat) : intsBy ((lo : Int) + n - 1) (-1) n = (List.range n).reverse.map fun i => natD (lo + i) := by
  rw [intsBy_down, range_rev', List.map_map]
  apply List.map_congr_left
  intro i hi
  have := List.mem_range.mp hi
  simp only [Function.comp_apply, natD]
  congr 1
  omega
theorem rng1_nat {u : Nat} (hu : u ≤ 100000) : rng1D [.int (u : Nat)] = some ((List.range u).map natD) := by
  rw [rng1D_e (by omega) (by omega), Int.toNat_natCast, intsTo_natD]
theorem rng3_down {lo n : Nat} {i j : Int} (hl : lo ≤ 100000) (hn : n ≤ 100000) (hi : i = lo + n - 1) (hj : j = lo - 1) : rng3D [.int i, .int j, .int (-1)] = some ((List.range n).reverse.map fun i => natD (lo + i)) := by
  rw [rng3D_e (by omega) (by omega) (by omega) (by omega), ← intsBy_rev, hi, hj]
  have e2 : ((lo : Int) + n - 1 - (lo - 1)).toNat = n := by omega
  rw [e2]
theorem small_le {n : Nat} (h : n ≤ 100000) : decide (n ≤ smallL) = true := decide_eq_true h
theorem ring_ok {u d : Nat} (hu : u ≤ 1000) (hd : d ≤ 1000) : fn_ring.sem [.int (u : Nat), .int (d : Nat)] = some (.lst true ((ring u d).map spD), [some (.int (u : Nat)), some (.int (d : Nat))]) := by
  have s1 : u ≤ 100000 := by omega
  have s2 : d ≤ 100000 := by omega
  have s3 : u + d ≤ 100000 := by omega
  have r1 := rng1_nat s1
  have r3 : rng3D [.int ((d : Nat) - 1), .int (-1), .int (-1)] = some ((List.range d).reverse.map natD) := by
    rw [rng3_down (lo := 0) (n := d) (by omega) s2 (by omega) (by omega)]
    simp only [Nat.zero_add]
  have g0 : ∀ xs : List Nat, goLc [2] (tgN 2) yesF (tupF [.t (litF (.int 0)), .t (varF 2)]) (xs.map natD) [some (.int (u : Nat)), some (.int (d : Nat)), none] = some (xs.map fun i => spD (0, i), [some (.int (u : Nat)), some (.int (d : Nat)), none]) := fun xs =>
    goLc_mapI _ (fun i => spD (0, i)) _ fun i _ => by
      rw [lcTurn_e]
      simp [natD, spD, small_le]
  have g1 : ∀ xs : List Nat, goLc [2] (tgN 2) yesF (tupF [.t (litF (.int 1)), .t (varF 2)]) (xs.map natD) [some (.int (u : Nat)), some (.int (d : Nat)), none] = some (xs.map fun i => spD (1, i), [some (.int (u : Nat)), some (.int (d : Nat)), none]) := fun xs =>
    goLc_mapI _ (fun i => spD (1, i)) _ fun i _ => by
      rw [lcTurn_e]
      simp [natD, spD, small_le]
  unfold fn_ring F_ring
  rw [bodyFn_sem]
  simp [r1, r3, g0, g1, small_le, s1, s2, s3, addD_l, noOwns_map, -List.map_reverse]
  simp [ring, Function.comp_def]
theorem counts_ok {N : Nat} {w : D} {most : Nat} (hw : Wok (N + 3) w) (h1 : 2 ≤ most) (h2 : most ≤ 1000) :
    ∃ (u d : Nat) (w' : D), fn_counts.sem [w, .int (most : Nat)] = some (.tup [.int (u : Nat), .int (d : Nat)], [some w', some (.int (most : Nat))]) ∧ Wok N w' ∧ u + d ≤ most ∧ ∃ k, u + d = 2 * k ∧ 0 < k := by
  have hf : ((most : Nat) : Int).fdiv 2 = (most : Int) / 2 := Int.fdiv_eq_ediv_of_nonneg _ (by omega)
  obtain ⟨v1, w1, e1, a1, b1, k1⟩ := draw_ok (lim := (most : Int) / 2) hw (by omega) (by omega)
  obtain ⟨v2, w2, e2, a2, b2, k2⟩ := draw_ok (lim := 5) k1 (by omega) (by omega)
  obtain ⟨v3, w3, e3, a3, b3, k3⟩ := draw_ok (lim := 2 * (1 + v1) + 1) k2 (by omega) (by omega)
  have own : ∀ {N w}, Wok N w → noOwn w = false := by
    rintro N w ⟨_, _, _, rfl, _⟩
    simp [wellD]
  have o1 := own hw; have o2 := own k1; have o3 := own k2; have o4 := own k3
  have p1 : fn_draw.pins = [true, true] := rfl
  have m0 : fdivOk 2 = true := rfl
  have m1 : mulOk 2 (1 + v1) = true := mulOk_l (by omega) (by omega)
  have c1 : freeze w = w → True := fun _ => trivial
  by_cases hc : v2 < 2
  · refine ⟨(1 + v1).toNat, (1 + v1).toNat, w2, ?_, k2.le (by omega), by omega, (1 + v1).toNat, by omega, by omega⟩
    have t1 : (((1 + v1).toNat : Nat) : Int) = 1 + v1 := by omega
    unfold fn_counts F_counts
    rw [bodyFn_sem]
    simp [hf, e1, e2, e3, o1, o2, o3, o4, p1, m0, m1, hc, small_le, t1]
  · by_cases h4 : v2 = 4
    · have m2 : ∀ x, mulOk (2 * (1 + v1)) x = true := fun x => mulOk_l (by omega) (by omega)
      by_cases h5 : 1 + v1 < v3
      · refine ⟨(2 * (1 + v1)).toNat, 0, w3, ?_, k3, by omega, (1 + v1).toNat, by omega, by omega⟩
        have t1 : (((2 * (1 + v1)).toNat : Nat) : Int) = 2 * (1 + v1) := by omega
        have t2 : 2 * (1 + v1) - 2 * (1 + v1) = 0 := by omega
        unfold fn_counts F_counts
        rw [bodyFn_sem]
        simp [hf, e1, e2, e3, o1, o2, o3, o4, p1, m0, m1, m2, hc, h4, h5, small_le, t1, t2]
      · refine ⟨0, (2 * (1 + v1)).toNat, w3, ?_, k3, by omega, (1 + v1).toNat, by omega, by omega⟩
        have t1 : (((2 * (1 + v1)).toNat : Nat) : Int) = 2 * (1 + v1) := by omega
        unfold fn_counts F_counts
        rw [bodyFn_sem]
        simp [hf, e1, e2, e3, o1, o2, o3, o4, p1, m0, m1, m2, hc, h4, h5, small_le, t1]
    · refine ⟨v3.toNat, (2 * (1 + v1) - v3).toNat, w3, ?_, k3, by omega, (1 + v1).toNat, by omega, by omega⟩
      have t1 : ((v3.toNat : Nat) : Int) = v3 := by omega
      have t2 : (((2 * (1 + v1) - v3).toNat : Nat) : Int) = 2 * (1 + v1) - v3 := by omega
      unfold fn_counts F_counts
      rw [bodyFn_sem]
      simp [hf, e1, e2, e3, o1, o2, o3, o4, p1, m0, m1, hc, h4, small_le, t1, t2]
theorem partD_L {o : Bool} {xs : List D} {i : Nat} (h : noOwns xs = true) (hi : i ≤ xs.length) : partD true false [.lst o xs, .int (i : Nat)] = some (.lst true (xs.drop i)) := by
  show (if noOwns xs = true then some (D.lst true (cutD xs (some (i : Nat)) none)) else none) = _
  rw [if_pos h]
  congr 2
  unfold cutD
  rw [HT.sIx_nat, HT.sIx_none, Nat.min_eq_left hi]
  exact List.take_of_length_le (by simp)
theorem partD_H {o : Bool} {xs : List D} {i : Nat} (h : noOwns xs = true) (hi : i ≤ xs.length) : partD false true [.lst o xs, .int (i : Nat)] = some (.lst true (xs.take i)) := by
  show (if noOwns xs = true then some (D.lst true (cutD xs none (some (i : Nat)))) else none) = _
  rw [if_pos h]
  congr 2
  unfold cutD
  rw [HT.sIx_nat, HT.sIx_none, Nat.min_eq_left hi]
  simp
theorem atI_mapN {α : Type} {f : α → D} {xs : List α} {i : Nat} {z : α} (h : i < xs.length) : atI (xs.map f) (i : Nat) = some (f (xs.getD i z)) :=
  atI_nat (by simp [h])
theorem atI_mapE {α : Type} {f : α → D} {xs : List α} {i : Nat} {z : α} (h : i < xs.length) : atI (xs.map f) (-1 - (i : Nat)) = some (f (xs.getD (xs.length - 1 - i) z)) := by
  refine atI_neg (by omega) (by rw [List.length_map]; omega) ?_
  rw [List.length_map]
  have : (-1 - (i : Nat) + (xs.length : Nat) : Int).toNat = xs.length - 1 - i := by omega
  rw [this]
  have : xs.length - 1 - i < xs.length := by omega
  simp [this]
theorem Wok.own {N : Nat} {w : D} (h : Wok N w) : noOwn w = false := by
  obtain ⟨_, _, _, rfl, _⟩ := h
  simp [wellD]
theorem natD_i (i : Nat) : natD i = .int (i : Nat) := rfl
theorem split2 {α : Type} {xs : List α} {v : Nat} (h : v + 1 < xs.length) : ∃ l a b r, xs = l ++ a :: b :: r ∧ l.length = v := by
  refine ⟨xs.take v, xs[v]'(by omega), xs[v + 1]'h, xs.drop (v + 2), ?_, by simp; omega⟩
  have h1 : xs.drop v = xs[v]'(by omega) :: xs.drop (v + 1) := List.drop_eq_getElem_cons (by omega)
  have h2 : xs.drop (v + 1) = xs[v + 1]'h :: xs.drop (v + 2) := List.drop_eq_getElem_cons (by omega)
  rw [← h2, ← h1, List.take_append_drop]
def bodyP : FS := (seqF (asgF (callF fn_draw [.b 0, .t (opF subD [.t (opF lenD [.b 3]), .t (litF (.int 1))])]) (tgN 7)) <|
  dropF (mutF 5 appD [.t (tupF [.t (mutF 3 popAtD [.t (varF 7)]), .t (mutF 3 popAtD [.t (varF 7)])])]))
theorem pairs_loop {N k : Nat} {u d st : D} {R : List (Nat × Nat)} {w : D} (hw : Wok (N + k) w) (hR : R.length = 2 * k) (hk : k ≤ 1000) :
    ∃ w' F a b, goFor (tgN 6) bodyP ((List.range k).map natD) [some w, some u, some d, some (.lst true (R.map spD)), some st, some (.lst true []), none, none] =
      some (.nx [some w', some u, some d, some (.lst true []), some st, some (.lst true (F.map prD)), a, b]) ∧ Wok N w' ∧ NCP R F := by
  obtain ⟨ρ', h, R', F, w', a, b, rfl, h1, h2, h3⟩ := for_inv (tg := tgN 6) (body := bodyP) (ds := (List.range k).map natD) (ρ := [some w, some u, some d, some (.lst true (R.map spD)), some st, some (.lst true []), none, none])
    (fun i ρ => ∃ (R' : List (Nat × Nat)) (F : List ((Nat × Nat) × (Nat × Nat))) (w' : D) (a b : Option D), ρ = [some w', some u, some d, some (.lst true (R'.map spD)), some st, some (.lst true (F.map prD)), a, b] ∧ Wok (N + (k - i)) w' ∧ (R'.length = 2 * (k - i) ∧ F.length = i) ∧ ∀ ps, NCP R' ps → NCP R (F ++ ps))
    ⟨R, [], w, none, none, rfl, by simpa using hw, ⟨by simpa using hR, rfl⟩, fun ps h => by simpa using h⟩ (by
      rintro i d0 ρ hd ⟨R', F, w', a, b, rfl, k1, ⟨k2, k4⟩, k3⟩
      have hi : i < k := by
        have := (List.getElem?_eq_some_iff.mp hd).1
        simpa using this
      obtain ⟨v, w1, e1, a1, b1, q1⟩ := draw_ok (N := N + (k - (i + 1))) (lim := (R'.length : Int) - 1) (k1.le (by omega)) (by omega) (by omega)
      obtain ⟨l, x, y, r, rfl, hl⟩ := split2 (xs := R') (v := v.toNat) (by omega)
      obtain ⟨X, hX⟩ : ∃ X, X = (l ++ x :: y :: r).map spD := ⟨_, rfl⟩
      have hXl : (X.length : Int) = ((l ++ x :: y :: r).length : Nat) := by rw [hX, List.length_map]
      rw [← hXl] at e1
      rw [← hX]
      have p1 : popAtD X [.int v] = some (spD x, (l ++ y :: r).map spD) := by
        rw [popAtD_e (d := spD x) a1 (by omega) (by rw [hX, ← hl]; simp), hX, ← hl]
        simp [List.eraseIdx_append_of_length_le]
      have p2 : popAtD ((l ++ y :: r).map spD) [.int v] = some (spD y, (l ++ r).map spD) := by
        rw [popAtD_e (d := spD y) a1 (by omega) (by rw [← hl]; simp), ← hl]
        simp [List.eraseIdx_append_of_length_le]
      have p3 : appD (F.map prD) [.tup [spD x, spD y]] = some (.non, (F ++ [(x, y)]).map prD) := by
        rw [appD_e _ (by rw [List.length_map]; omega)]
        simp [prD]
      obtain ⟨Y, hY⟩ : ∃ Y, Y = (l ++ y :: r).map spD := ⟨_, rfl⟩
      obtain ⟨Z, hZ⟩ : ∃ Z, Z = F.map prD := ⟨_, rfl⟩
      rw [← hY] at p1 p2
      rw [← hZ] at p3 ⊢
      have o1 := k1.own
      have o2 := q1.own
      have pp : fn_draw.pins = [true, true] := rfl
      refine ⟨_, .inl ?_, ⟨l ++ r, F ++ [(x, y)], w1, some d0, some (.int v), rfl, q1, ⟨?_, by simp [k4]⟩, fun ps h => ?_⟩⟩
      · unfold bodyP
        rw [turn_e]
        obtain ⟨d1, rfl⟩ : ∃ d1, d0 = natD d1 := by
          rw [List.getElem?_map] at hd
          obtain ⟨d1, _, h⟩ := Option.map_eq_some_iff.mp hd
          exact ⟨d1, h.symm⟩
        obtain ⟨U, hU⟩ : ∃ U, U = (l ++ r).map spD := ⟨_, rfl⟩
        obtain ⟨W, hW⟩ : ∃ W, W = (F ++ [(x, y)]).map prD := ⟨_, rfl⟩
        rw [← hU] at p2 ⊢
        rw [← hW] at p3 ⊢
        simp [e1, o1, o2, pp, p1, p2, p3, small_le]
      · simp at k2 ⊢; omega
      · have := k3 _ (NCP.cons h)
        simpa using this)
  rw [List.length_map, List.length_range] at h1 h2
  have hR' : R' = [] := List.eq_nil_of_length_eq_zero (by omega)
  subst hR'
  refine ⟨w', F, a, b, h, h1.le (by omega), ?_⟩
  simpa using h3 [] .nil
theorem pairs_ok {N u d k : Nat} {w : D} (hw : Wok (N + k + 2) w) (hu : u + d = 2 * k) (h0 : 0 < k) (hk : k ≤ 400) :
    ∃ w' ps, fn_pairs.sem [w, .int (u : Nat), .int (d : Nat)] = some (.lst true (ps.map prD), [some w', some (.int (u : Nat)), some (.int (d : Nat))]) ∧ Wok N w' ∧ NCP (ring u d) ps := by
  have rk := ring_ok (u := u) (d := d) (by omega) (by omega)
  have hl := ring_len u d
  obtain ⟨R, hR⟩ : ∃ R, R = ring u d := ⟨_, rfl⟩
  rw [← hR] at rk hl ⊢
  obtain ⟨v1, w1, e1, a1, b1, k1⟩ := draw_ok (N := N + k + 1) (lim := (R.length : Int)) hw (by omega) (by omega)
  obtain ⟨v2, w2, e2, a2, b2, k2⟩ := draw_ok (N := N + k) (lim := 4) k1 (by omega) (by omega)
  obtain ⟨s, rfl⟩ : ∃ s : Nat, v1 = (s : Nat) := ⟨v1.toNat, by omega⟩
  have hs : s < R.length := by omega
  obtain ⟨X, hX⟩ : ∃ X, X = R.map spD := ⟨_, rfl⟩
  have hXl : X.length = R.length := by rw [hX, List.length_map]
  have hXo : noOwns X = true := by rw [hX]; simp
  rw [← hXl] at e1
  rw [← hX] at rk
  have o1 := hw.own
  have o2 := k1.own
  have o3 := k2.own
  have pp : fn_draw.pins = [true, true] := rfl
  have pr : fn_ring.pins = [true, true] := rfl
  have f2 : fdivOk 2 = true := rfl
  have fd : (X.length : Int).fdiv 2 = (k : Nat) := by
    rw [Int.fdiv_eq_ediv_of_nonneg _ (by omega)]
    omega
  have r1 := rng1_nat (u := k) (by omega)
  by_cases h3 : v2 = 3
  · subst h3
    have pL := partD_L (o := true) hXo (i := s) (by omega)
    have pH := partD_H (o := true) hXo (i := s) (by omega)
    obtain ⟨R2, hR2⟩ : ∃ R2, R2 = R.drop s ++ R.take s := ⟨_, rfl⟩
    have hR2l : R2.length = 2 * k := by rw [hR2]; simp; omega
    have ad : addD [.lst true (X.drop s), .lst true (X.take s)] = some (.lst true (R2.map spD)) := by
      have e : R2.map spD = X.drop s ++ X.take s := by rw [hR2, hX, List.map_append, List.map_drop, List.map_take]
      rw [e, addD_l]
      · rw [hX, ← List.map_drop]; exact noOwns_spDs _
      · rw [hX, ← List.map_take]; exact noOwns_spDs _
      · simp; omega
    have g1 : goLc [7] (tgN 7) yesF (tupF [.t (opF ixD [.b 3, .b 7]), .t (opF ixD [.b 3, .t (opF subD [.t (opF negD [.t (litF (.int 1))]), .b 7])])]) ((List.range k).map natD) [some w2, some (.int (u : Nat)), some (.int (d : Nat)), some (.lst true (R2.map spD)), some (.int (s : Nat)), none, none, none]
        = some ((List.range k).map fun i => prD (R2.getD i (0, 0), R2.getD (R2.length - 1 - i) (0, 0)), [some w2, some (.int (u : Nat)), some (.int (d : Nat)), some (.lst true (R2.map spD)), some (.int (s : Nat)), none, none, none]) :=
      goLc_mapI natD (fun i => prD (R2.getD i (0, 0), R2.getD (R2.length - 1 - i) (0, 0))) _ fun i hi => by
        have hi := List.mem_range.mp hi
        have a1 := atI_mapN (f := spD) (xs := R2) (i := i) (z := (0, 0)) (by omega)
        have a2 := atI_mapE (f := spD) (xs := R2) (i := i) (z := (0, 0)) (by omega)
        obtain ⟨Y, hY⟩ : ∃ Y, Y = R2.map spD := ⟨_, rfl⟩
        obtain ⟨p, hp⟩ : ∃ p, p = R2.getD i (0, 0) := ⟨_, rfl⟩
        obtain ⟨q, hq⟩ : ∃ q, q = R2.getD (R2.length - 1 - i) (0, 0) := ⟨_, rfl⟩
        rw [← hY, ← hp] at a1
        rw [← hY, ← hq] at a2
        rw [lcTurn_e, ← hY, ← hp, ← hq, natD_i]
        simp [a1, a2, small_le, prD]
    have hR2d : ((R2.map spD).length : Int).fdiv 2 = (k : Nat) := by
      rw [Int.fdiv_eq_ediv_of_nonneg _ (by omega), List.length_map]
      omega
    obtain ⟨Y, hY⟩ : ∃ Y, Y = R2.map spD := ⟨_, rfl⟩
    rw [← hY] at ad g1 hR2d
    refine ⟨w2, (List.range k).map fun i => (R2.getD i (0, 0), R2.getD (R2.length - 1 - i) (0, 0)), ?_, k2.le (by omega), ?_⟩
    · have sk : k ≤ 100000 := by omega
      unfold fn_pairs F_pairs
      rw [bodyFn_sem]
      simp [rk, e1, e2, o1, o2, o3, pp, pr, pL, pH, ad, f2, hR2d, r1, g1, small_le, sk]
    · have := nested (0, 0) k R2 hR2l
      rw [hR2] at this ⊢
      have := NCP.rot this
      rwa [List.take_append_drop] at this
  · obtain ⟨w', F, a, b, l1, l2, l3⟩ := pairs_loop (N := N) (k := k) (u := .int (u : Nat)) (d := .int (d : Nat)) (st := .int (s : Nat)) (R := R) k2 (by omega) (by omega)
    rw [← hX] at l1
    refine ⟨w', F, ?_, l2, l3⟩
    unfold bodyP at l1
    unfold fn_pairs F_pairs
    rw [bodyFn_sem]
    simp [rk, e1, e2, o1, o2, o3, pp, pr, h3, f2, fd, r1, l1, small_le]
def bodyM : FS := (seqF (parF [6, 7] [.t (opF addD [.t (opF mulD [.t (opF ixD [.b 4, .t (litF (.int 0))]), .b 0]), .t (opF ixD [.b 4, .t (litF (.int 1))])]), .t (opF addD [.t (opF mulD [.t (opF ixD [.b 5, .t (litF (.int 0))]), .b 0]), .t (opF ixD [.b 5, .t (litF (.int 1))])])]) <|
  asgF (tupF [.t (varF 7), .t (varF 6)]) (tgT 2 (tgCons (tgSub 3 (.b 6)) (tgCons (tgSub 3 (.b 7)) (tgNil)))))
theorem map_setN (xs : List Nat) (i j : Nat) : (xs.map natD).set i (.int (j : Nat)) = (xs.set i j).map natD := by
  rw [List.map_set]; rfl
theorem made_loop {u d : Nat} {row : List Nat} (hr : row.length = u + d) (hl : u + d ≤ 1000) (o : Bool) (qs : List D) : ∀ (ps : List ((Nat × Nat) × (Nat × Nat))) (row : List Nat) (a b c e : Option D), row.length = u + d → (∀ s ∈ ends ps, s ∈ ring u d) →
    ∃ a' b' c' e', goFor (tgT 2 (tgCons (tgN 4) (tgCons (tgN 5) (tgNil)))) bodyM (ps.map prD) [some (.int (u : Nat)), some (.int (d : Nat)), some (.lst o qs), some (.lst true (row.map natD)), a, b, c, e] =
      some (.nx [some (.int (u : Nat)), some (.int (d : Nat)), some (.lst o qs), some (.lst true ((madeL u ps row).map natD)), a', b', c', e'])
  | [], row, a, b, c, e, hr, _ => ⟨a, b, c, e, rfl⟩
  | p :: ps, row, a, b, c, e, hr, hm => by
    obtain ⟨⟨s1, i1⟩, ⟨s2, i2⟩⟩ := p
    have m1 := hm (s1, i1) (mem_ends.mpr ⟨_, List.mem_cons_self .., .inl rfl⟩)
    have m2 := hm (s2, i2) (mem_ends.mpr ⟨_, List.mem_cons_self .., .inr rfl⟩)
    have t1 := idx_lt m1
    have t2 := idx_lt m2
    simp only [idx] at t1 t2
    obtain ⟨a', b', c', e', ih⟩ := made_loop hr hl o qs ps ((row.set (s1 * u + i1) (s2 * u + i2)).set (s2 * u + i2) (s1 * u + i1)) (some (spD (s1, i1))) (some (spD (s2, i2))) (some (.int ((s1 * u + i1 : Nat) : Int))) (some (.int ((s2 * u + i2 : Nat) : Int))) (by simp [hr]) (fun s hs => hm s (by
      obtain ⟨p, h1, h2⟩ := mem_ends.mp hs
      exact mem_ends.mpr ⟨p, List.mem_cons_of_mem _ h1, h2⟩))
    refine ⟨a', b', c', e', ?_⟩
    rw [List.map_cons, goFor_cons]
    have mk1 : mulOk (s1 : Nat) (u : Nat) = true := mulOk_r (by omega) (by omega)
    have mk2 : mulOk (s2 : Nat) (u : Nat) = true := mulOk_r (by omega) (by omega)
    have x1 : (s1 : Int) * (u : Int) + (i1 : Int) = ((s1 * u + i1 : Nat) : Int) := by simp
    have x2 : (s2 : Int) * (u : Int) + (i2 : Int) = ((s2 * u + i2 : Nat) : Int) := by simp
    obtain ⟨j1, hj1⟩ : ∃ j, j = s1 * u + i1 := ⟨_, rfl⟩
    obtain ⟨j2, hj2⟩ : ∃ j, j = s2 * u + i2 := ⟨_, rfl⟩
    rw [← hj1] at x1 t1 ih
    rw [← hj2] at x2 t2 ih
    obtain ⟨X, hX⟩ : ∃ X, X = row.map natD := ⟨_, rfl⟩
    have n1 : ixN X.length (j1 : Nat) = some j1 := ixN_nat (by rw [hX, List.length_map, hr]; exact t1)
    have n2 : ixN X.length (j2 : Nat) = some j2 := ixN_nat (by rw [hX, List.length_map, hr]; exact t2)
    have st : (X.set j1 (.int (j2 : Nat))).set j2 (.int (j1 : Nat)) = ((row.set j1 j2).set j2 j1).map natD := by rw [hX, map_setN, map_setN]
    have ht : turn (tgT 2 (tgCons (tgN 4) (tgCons (tgN 5) (tgNil)))) bodyM (prD ((s1, i1), (s2, i2))) [some (.int (u : Nat)), some (.int (d : Nat)), some (.lst o qs), some (.lst true (row.map natD)), a, b, c, e] =
        some (.nx [some (.int (u : Nat)), some (.int (d : Nat)), some (.lst o qs), some (.lst true (((row.set j1 j2).set j2 j1).map natD)), some (spD (s1, i1)), some (spD (s2, i2)), some (.int (j1 : Nat)), some (.int (j2 : Nat))]) := by
      rw [turn_e, ← hX, ← st]
      unfold bodyM prD spD
      simp [mk1, mk2, x1, x2, n1, n2, small_le]
    rw [ht, bd_some, loopK_nx, ih]
    unfold madeL
    simp only [List.foldl_cons, idx]
    rw [← hj1, ← hj2]
theorem made_ok {u d : Nat} {ps : List ((Nat × Nat) × (Nat × Nat))} {o : Bool} (hl : u + d ≤ 1000) (hm : ∀ s ∈ ends ps, s ∈ ring u d) :
    ∃ o' , fn_made.sem [.int (u : Nat), .int (d : Nat), .lst o (ps.map prD)] = some (matD u d (madeL u ps (List.replicate (u + d) 0)), [some (.int (u : Nat)), some (.int (d : Nat)), some o']) ∧ (o' = .lst false (ps.map prD)) := by
  obtain ⟨a, b, c, e, h⟩ := made_loop (u := u) (d := d) (row := List.replicate (u + d) 0) (by simp) hl false (ps.map prD) ps (List.replicate (u + d) 0) none none none none (by simp) hm
  refine ⟨_, ?_, rfl⟩
  have m1 : mulD [.lst true [.int 0], .int ((u : Nat) + (d : Nat))] = some (.lst true ((List.replicate (u + d) 0).map natD)) := by
    rw [mulD_n (by simp) (by omega) (by omega) (by simp; omega)]
    have : ((u : Int) + (d : Int)).toNat = u + d := by omega
    rw [this]
    congr 2
    rw [List.map_replicate]
    induction (u + d) with
    | zero => rfl
    | succ n ih => rw [List.replicate_succ, List.replicate_succ, List.flatten_cons, ih]; rfl
  obtain ⟨X, hX⟩ : ∃ X, X = (List.replicate (u + d) 0).map natD := ⟨_, rfl⟩
  rw [← hX] at m1 h
  obtain ⟨Y, hY⟩ : ∃ Y, Y = ps.map prD := ⟨_, rfl⟩
  have hYo : noOwns Y = true := by rw [hY]; simp
  have hYf := freezes_of hYo
  rw [← hY] at h ⊢
  unfold bodyM at h
  unfold fn_made F_made
  rw [bodyFn_sem]
  cases o
  · simp [m1, small_le, hYo, hYf, h, tupleD_l, matD]
  · simp [m1, small_le, hYo, hYf, h, tupleD_l, matD]
inductive Plain : Nat → D → Prop
  | non {k : Nat} : Plain k .non
  | int {k : Nat} (i : Int) : Plain k (.int i)
  | bl {k : Nat} (i : Bool) : Plain k (.bl i)
  | str {k : Nat} {s : Str} (h : eqOk (.str s) = true) : Plain k (.str s)
  | tup {k : Nat} {xs : List D} : (∀ x ∈ xs, Plain k x) → Plain (k + 1) (.tup xs)
  | lst {k : Nat} {xs : List D} : (∀ x ∈ xs, Plain k x) → Plain (k + 1) (.lst false xs)
theorem Plain.own {k : Nat} {d : D} (h : Plain k d) : noOwn d = true := by
  induction h with
  | non => simp
  | int i => simp
  | bl i => simp
  | str h => rfl
  | tup _ ih => rw [noOwn_tup]; exact noOwns_all ih
  | lst _ ih => rw [noOwn_lst]; simpa using noOwns_all ih
theorem isiTD_tup (xs : List D) : isiTD ["list", "tuple"] [.tup xs] = some (.bl true) := by
  show (if ["list", "tuple"].length ≤ smallL then _ else none) = _
  rw [if_pos (by decide)]; rfl
theorem isiTD_lst (o : Bool) (xs : List D) : isiTD ["list", "tuple"] [.lst o xs] = some (.bl true) := by
  show (if ["list", "tuple"].length ≤ smallL then _ else none) = _
  rw [if_pos (by decide)]; rfl
theorem isiTD_int (i : Int) : isiTD ["list", "tuple"] [.int i] = some (.bl false) := by
  show (if ["list", "tuple"].length ≤ smallL then _ else none) = _
  rw [if_pos (by decide)]; rfl
theorem isiTD_bl (i : Bool) : isiTD ["list", "tuple"] [.bl i] = some (.bl false) := by
  show (if ["list", "tuple"].length ≤ smallL then _ else none) = _
  rw [if_pos (by decide)]; rfl
theorem isiTD_str (i : Str) : isiTD ["list", "tuple"] [.str i] = some (.bl false) := by
  show (if ["list", "tuple"].length ≤ smallL then _ else none) = _
  rw [if_pos (by decide)]; rfl
theorem isiD_s_str (i : Str) : isiD "str" [.str i] = some (.bl true) := rfl
theorem deq_strS (s : Str) : deq (.str s) (.str s) = true := by
  unfold deq
  simp [pyD, PyData.eqv]
theorem isiD_l_tup (xs : List D) : isiD "list" [.tup xs] = some (.bl false) := rfl
theorem isiD_l_lst (o : Bool) (xs : List D) : isiD "list" [.lst o xs] = some (.bl true) := rfl
theorem isiD_s_int (i : Int) : isiD "str" [.int i] = some (.bl false) := rfl
theorem isiD_s_bl (i : Bool) : isiD "str" [.bl i] = some (.bl false) := rfl
theorem isiD_b_int (i : Int) : isiD "bool" [.int i] = some (.bl false) := rfl
theorem isiD_b_bl (i : Bool) : isiD "bool" [.bl i] = some (.bl true) := rfl
theorem isiD_i_int (i : Int) : isiD "int" [.int i] = some (.bl true) := rfl
theorem isiD_i_bl (i : Bool) : isiD "int" [.bl i] = some (.bl true) := rfl
theorem same_pins (n : Nat) : (fn_same_at n).pins = [true, true] := by cases n <;> rfl
def bodyS (fn : Fn) : FS := (ifF (notF (tstF (.t (callF fn [.b 2, .b 3])))) (retF (litF (.bl false))) (passF))
theorem same_loop {fn : Fn} {d e : D} (hp : fn.pins = [true, true]) : ∀ (xs : List D) (a b : Option D), (∀ x ∈ xs, noOwn x = true ∧ fn.sem [x, x] = some (.bl true, [some x, some x])) →
    ∃ a' b', goFor (tgT 2 (tgCons (tgN 2) (tgCons (tgN 3) (tgNil)))) (bodyS fn) (zipL xs xs) [some d, some e, a, b] = some (.nx [some d, some e, a', b'])
  | [], a, b, _ => ⟨a, b, rfl⟩
  | x :: xs, a, b, h => by
    obtain ⟨h1, h2⟩ := h x (by simp)
    obtain ⟨a', b', ih⟩ := same_loop (d := d) (e := e) hp xs (some x) (some x) fun y hy => h y (by simp [hy])
    refine ⟨a', b', ?_⟩
    have hz : zipL (x :: xs) (x :: xs) = .tup [x, x] :: zipL xs xs := rfl
    rw [hz, goFor_cons]
    have : turn (tgT 2 (tgCons (tgN 2) (tgCons (tgN 3) (tgNil)))) (bodyS fn) (.tup [x, x]) [some d, some e, a, b] = some (.nx [some d, some e, some x, some x]) := by
      rw [turn_e]
      unfold bodyS
      simp [h1, h2, hp]
    rw [this, bd_some, loopK_nx, ih]
theorem same_ok : ∀ {k : Nat} {d : D}, Plain k d → (fn_same_at (k + 1)).sem [d, d] = some (.bl true, [some d, some d])
  | k, _, .non => by
    show (bodyFn 4 2 [true, true] (F_same (fn_same_at k))).sem _ = _
    rw [bodyFn_sem]; unfold F_same
    simp
  | k, _, .int i => by
    show (bodyFn 4 2 [true, true] (F_same (fn_same_at k))).sem _ = _
    rw [bodyFn_sem]; unfold F_same
    simp [isiTD_int, isiD_s_int, isiD_b_int, isiD_i_int]
  | k, _, .bl i => by
    show (bodyFn 4 2 [true, true] (F_same (fn_same_at k))).sem _ = _
    rw [bodyFn_sem]; unfold F_same
    simp [isiTD_bl, isiD_s_bl, isiD_b_bl, isiD_i_bl]
  | k, _, .str (s := s) h => by
    show (bodyFn 4 2 [true, true] (F_same (fn_same_at k))).sem _ = _
    rw [bodyFn_sem]; unfold F_same
    simp [isiTD_str, isiD_s_str, h, deq_strS]
  | k + 1, _, .tup (xs := xs) h => by
    obtain ⟨a, b, l⟩ := same_loop (fn := fn_same_at (k + 1)) (d := .tup xs) (e := .tup xs) (same_pins _) xs none none fun x hx => ⟨(h x hx).own, same_ok (h x hx)⟩
    have ho : noOwns xs = true := noOwns_all fun x hx => (h x hx).own
    have hf := freezes_of ho
    unfold bodyS at l
    show (bodyFn 4 2 [true, true] (F_same (fn_same_at (k + 1)))).sem _ = _
    rw [bodyFn_sem]; unfold F_same
    simp [isiTD_tup, isiD_l_tup, ho, hf, l]
  | k + 1, _, .lst (xs := xs) h => by
    obtain ⟨a, b, l⟩ := same_loop (fn := fn_same_at (k + 1)) (d := .lst false xs) (e := .lst false xs) (same_pins _) xs none none fun x hx => ⟨(h x hx).own, same_ok (h x hx)⟩
    have ho : noOwns xs = true := noOwns_all fun x hx => (h x hx).own
    have hf := freezes_of ho
    unfold bodyS at l
    show (bodyFn 4 2 [true, true] (F_same (fn_same_at (k + 1)))).sem _ = _
    rw [bodyFn_sem]; unfold F_same
    simp [isiTD_lst, isiD_l_lst, ho, hf, l]
theorem Plain.le {k : Nat} {d : D} (h : Plain k d) : ∀ {n : Nat}, k ≤ n → Plain n d := by
  induction h with
  | non => intro n _; exact .non
  | int i => intro n _; exact .int i
  | bl i => intro n _; exact .bl i
  | str h => intro n _; exact .str h
  | @tup k xs _ ih =>
    intro n hn
    obtain ⟨m, rfl⟩ : ∃ m, n = m + 1 := ⟨n - 1, by omega⟩
    exact .tup fun x hx => ih x hx (by omega)
  | @lst k xs _ ih =>
    intro n hn
    obtain ⟨m, rfl⟩ : ∃ m, n = m + 1 := ⟨n - 1, by omega⟩
    exact .lst fun x hx => ih x hx (by omega)
theorem plain_nats (k : Nat) (xs : List Nat) : ∀ x ∈ xs.map natD, Plain k x := fun x hx => by
  obtain ⟨i, _, rfl⟩ := List.mem_map.mp hx
  exact .int _
theorem plain_mat (n m : Nat) (row : List Nat) : Plain 2 (matD n m row) := by
  refine .tup fun x hx => ?_
  simp only [List.mem_cons, List.not_mem_nil, or_false] at hx
  rcases hx with rfl | rfl | rfl
  · exact .int _
  · exact .int _
  · exact .tup (plain_nats _ _)
/-! what may be compared -/
def EqB (k : Nat) (d : D) : Prop := noTy d = true ∧ (pyD d).canLay0 = true ∧ (pyD d).depth ≤ k
theorem EqB.ok {k : Nat} {d : D} (h : EqB k d) (hk : k ≤ 64) : eqOk d = true := by
  unfold eqOk SeqAt.shaped
  rw [h.1, h.2.1]
  simp
  exact Nat.le_trans h.2.2 hk
theorem EqB.all {k : Nat} : ∀ {xs : List D}, (∀ x ∈ xs, EqB k x) → noTys xs = true ∧ PyData.canLayAll0 (pyDs xs) = true ∧ PyData.depthAll (pyDs xs) ≤ k
  | [], _ => ⟨by simp [noTys], by simp [pyDs, PyData.canLayAll0], by simp [pyDs, PyData.depthAll]⟩
  | x :: xs, h => by
    obtain ⟨a, b, c⟩ := h x (by simp)
    obtain ⟨a', b', c'⟩ := EqB.all (xs := xs) fun y hy => h y (by simp [hy])
    refine ⟨by simp [noTys, a, a'], by simp [pyDs, PyData.canLayAll0, b, b'], ?_⟩
    simp only [pyDs, PyData.depthAll]
    omega
theorem EqB.int {k : Nat} (i : Int) : EqB k (.int i) := ⟨rfl, rfl, Nat.zero_le _⟩
theorem EqB.bl {k : Nat} (i : Bool) : EqB k (.bl i) := ⟨rfl, rfl, Nat.zero_le _⟩
theorem EqB.non {k : Nat} : EqB k .non := ⟨rfl, rfl, Nat.zero_le _⟩
theorem EqB.lst {k : Nat} {o : Bool} {xs : List D} (h : ∀ x ∈ xs, EqB k x) : EqB (k + 1) (.lst o xs) := by
  obtain ⟨a, b, c⟩ := EqB.all h
  exact ⟨by simp [noTy, a], by simp [pyD, PyData.canLay0, b], by simp only [pyD, PyData.depth]; omega⟩
theorem EqB.tup {k : Nat} {xs : List D} (h : ∀ x ∈ xs, EqB k x) : EqB (k + 1) (.tup xs) := by
  obtain ⟨a, b, c⟩ := EqB.all h
  exact ⟨by simp [noTy, a], by simp [pyD, PyData.canLay0, b], by simp only [pyD, PyData.depth]; omega⟩
theorem eqB_nats (xs : List Nat) : ∀ x ∈ xs.map natD, EqB 0 x := fun x hx => by
  obtain ⟨i, _, rfl⟩ := List.mem_map.mp hx
  exact .int _
theorem eqOk_nats (o : Bool) (xs : List Nat) : eqOk (.lst o (xs.map natD)) = true := (EqB.lst (eqB_nats xs)).ok (by omega)
theorem eqOk_emp (o : Bool) : eqOk (.lst o []) = true := eqOk_nats o []
theorem deq_emp (o o' : Bool) (xs : List D) : deq (.lst o xs) (.lst o' []) = xs.isEmpty := by
  unfold deq
  cases xs <;> simp [pyD, pyDs, PyData.eqv, PyData.eqvAll]
/-! the pegs round about -/
theorem round_ok {n m : Nat} (hn : n ≤ 1000) (hm : m ≤ 1000) : fn_p_round_of.sem [.int (n : Nat), .int (m : Nat)] = some (.lst true ((roundL n m).map natD), [some (.int (n : Nat)), some (.int (m : Nat))]) := by
  have s1 : n ≤ 100000 := by omega
  have s2 : m ≤ 100000 := by omega
  have s3 : n + m ≤ 100000 := by omega
  have r1 := rng1_nat s1
  have r3 : rng3D [.int ((n : Nat) + (m : Nat) - 1), .int ((n : Nat) - 1), .int (-1)] = some ((List.range m).reverse.map fun i => natD (n + i)) := rng3_down (lo := n) (n := m) s1 s2 (by omega) (by omega)
  unfold fn_p_round_of F_p_round_of
  rw [bodyFn_sem]
  simp [r1, r3, small_le, lrgK_e, s1, s2, s3, addD_l, noOwns_map, -List.map_reverse]
  simp [roundL, Function.comp_def]
theorem atI_last {α : Type} (xs : List α) (x : α) : atI (xs ++ [x]) (-1) = some x := by
  refine atI_neg (by omega) (by rw [List.length_append, List.length_singleton]; omega) ?_
  have : (-1 + ((xs ++ [x]).length : Nat) : Int).toNat = xs.length := by rw [List.length_append, List.length_singleton]; omega
  rw [this]
  simp
theorem enum_get {row : List Nat} {i : Nat} {d : D} (h : (enumL (row.map natD))[i]? = some d) : ∃ j, row[i]? = some j ∧ d = .tup [.int (i : Nat), .int (j : Nat)] := by
  unfold enumL at h
  rw [List.getElem?_map] at h
  obtain ⟨q, h1, rfl⟩ := Option.map_eq_some_iff.mp h
  obtain ⟨h2, h3⟩ := List.getElem?_zip_eq_some.mp h1
  rw [List.getElem?_map] at h3
  obtain ⟨j, h4, h5⟩ := Option.map_eq_some_iff.mp h3
  rw [intsTo_map, List.getElem?_map] at h2
  obtain ⟨k, h6, h7⟩ := Option.map_eq_some_iff.mp h2
  have : k = i := by
    have := (List.getElem?_eq_some_iff.mp h6).2
    simpa using this.symm
  subst this
  refine ⟨j, h4, ?_⟩
  rw [← h5, ← h7]
  rfl
def bodyI1 : FS := (ifF (orF (bT (opF ltD [.b 6, .t (litF (.int 0))])) (orF (bT (opF geD [.b 6, .b 4])) (orF (bT (opF eqD [.b 6, .b 5])) (bT (opF neD [.t (opF ixD [.b 3, .b 6]), .b 5]))))) (retF (litF (.bl false))) (passF))
def bodyI2 : FS := (ifF (andF (bT (opF neD [.b 7, .t (lstF [])])) (bT (opF eqD [.t (opF ixD [.b 7, .t (opF negD [.t (litF (.int 1))])]), .t (opF ixD [.b 3, .b 5])]))) (dropF (mutF 7 popD [])) (dropF (mutF 7 appD [.t (varF 5)])))
theorem is_mat_l1 {n m : Nat} {row : List Nat} (h : IsMat n m row) {t a b c : Option D} : ∃ a' b', goFor (tgT 2 (tgCons (tgN 5) (tgCons (tgN 6) (tgNil)))) bodyI1 (enumL (row.map natD)) [t, some (.int (n : Nat)), some (.int (m : Nat)), some (.tup (row.map natD)), some (.int ((row.map natD).length : Nat)), a, b, c] =
    some (.nx [t, some (.int (n : Nat)), some (.int (m : Nat)), some (.tup (row.map natD)), some (.int ((row.map natD).length : Nat)), a', b', c]) := by
  obtain ⟨ρ', h1, a', b', rfl⟩ := for_inv (tg := (tgT 2 (tgCons (tgN 5) (tgCons (tgN 6) (tgNil))))) (body := bodyI1) (ds := enumL (row.map natD)) (ρ := [t, some (.int (n : Nat)), some (.int (m : Nat)), some (.tup (row.map natD)), some (.int ((row.map natD).length : Nat)), a, b, c])
    (fun _ ρ => ∃ a' b', ρ = [t, some (.int (n : Nat)), some (.int (m : Nat)), some (.tup (row.map natD)), some (.int ((row.map natD).length : Nat)), a', b', c]) ⟨a, b, rfl⟩ (by
      rintro i d ρ hd ⟨a', b', rfl⟩
      obtain ⟨j, hj, rfl⟩ := enum_get hd
      obtain ⟨l1, l2, l3⟩ := h.lt i j hj
      refine ⟨_, .inl ?_, some (.int (i : Nat)), some (.int (j : Nat)), rfl⟩
      have x1 : atI (row.map natD) (j : Nat) = some (natD i) := atI_nat (by rw [List.getElem?_map, l3]; rfl)
      have x2 : (row.map natD).length = n + m := by rw [List.length_map, h.len]
      obtain ⟨X, hX⟩ : ∃ X, X = row.map natD := ⟨_, rfl⟩
      rw [← hX] at x1 x2 ⊢
      rw [natD_i] at x1
      have c1 : ¬ ((j : Int) < 0) := by omega
      have c2 : ¬ (X.length ≤ j) := by omega
      rw [turn_e]
      unfold bodyI1
      have c3 : ¬ ((j : Int) = (i : Int)) := by omega
      simp [x1, c1, c2, c3])
  exact ⟨a', b', h1⟩
theorem is_mat_l2 {n m : Nat} {row : List Nat} (h : IsMat n m row) (hl : n + m ≤ 2000) {t a b many nn mm : Option D} : ∃ a' b', goFor (tgN 5) bodyI2 ((roundL n m).map natD) [t, nn, mm, some (.tup (row.map natD)), many, a, b, some (.lst true [])] =
    some (.nx [t, nn, mm, some (.tup (row.map natD)), many, a', b', some (.lst true [])]) := by
  obtain ⟨ρ', h1, a', rfl⟩ := for_inv (tg := tgN 5) (body := bodyI2) (ds := (roundL n m).map natD) (ρ := [t, nn, mm, some (.tup (row.map natD)), many, a, b, some (.lst true [])])
    (fun i ρ => ∃ a', ρ = [t, nn, mm, some (.tup (row.map natD)), many, a', b, some (.lst true ((red (fun i => row.getD i 0) [] ((roundL n m).take i)).reverse.map natD))]) ⟨a, rfl⟩ (by
      rintro i d ρ hd ⟨a', rfl⟩
      rw [List.getElem?_map] at hd
      obtain ⟨x, hx, rfl⟩ := Option.map_eq_some_iff.mp hd
      have hxl : x < row.length := by rw [h.len]; exact mem_roundL.mp (List.mem_of_getElem? hx)
      have ht : (roundL n m).take (i + 1) = (roundL n m).take i ++ [x] := by
        rw [List.take_add_one, hx]; rfl
      have hi : i < n + m := by
        have := (List.getElem?_eq_some_iff.mp hx).1
        rw [(roundL_perm n m).length_eq, List.length_range] at this
        exact this
      have x1 : atI (row.map natD) (x : Nat) = some (natD (row.getD x 0)) := atI_mapN hxl
      have hlen : (red (fun i => row.getD i 0) [] ((roundL n m).take i)).length ≤ i := by
        have : ∀ (l s : List Nat), (red (fun i => row.getD i 0) s l).length ≤ s.length + l.length := by
          intro l
          induction l with
          | nil => intro s; exact Nat.le_refl _
          | cons y l ih =>
            intro s
            rw [red_cons]
            have := ih (push (fun i => row.getD i 0) s y)
            have : (push (fun i => row.getD i 0) s y).length ≤ s.length + 1 := by
              cases s with
              | nil => exact Nat.le_refl _
              | cons t s => rw [push_cons]; split <;> simp <;> omega
            simp only [List.length_cons]
            omega
        have := this ((roundL n m).take i) []
        rw [List.length_take, List.length_nil] at this
        omega
      obtain ⟨Y, hY⟩ : ∃ Y, Y = row.map natD := ⟨_, rfl⟩
      rw [← hY] at x1 ⊢
      rw [ht, red_append, red_cons]
      obtain ⟨s, hs⟩ : ∃ s, s = red (fun i => row.getD i 0) [] ((roundL n m).take i) := ⟨_, rfl⟩
      rw [← hs] at hlen ⊢
      obtain ⟨fx, hfx⟩ : ∃ fx, fx = row.getD x 0 := ⟨_, rfl⟩
      rw [← hfx] at x1
      rw [natD_i] at x1 ⊢
      cases s with
      | nil =>
        refine ⟨_, .inl ?_, some (.int (x : Nat)), rfl⟩
        have pa : appD [] [.int (x : Nat)] = some (.non, [.int (x : Nat)]) := appD_e _ (by simp)
        rw [turn_e]
        unfold bodyI2
        simp [eqOk_emp, deq_emp, pa, small_le, push, red, natD]
      | cons tp s =>
        have hz : ((tp :: s).reverse.map natD) = s.reverse.map natD ++ [.int (tp : Nat)] := by simp [natD]
        have x2 : atI ((tp :: s).reverse.map natD) (-1) = some (.int (tp : Nat)) := by rw [hz, atI_last]
        have x3 := eqOk_nats true (tp :: s).reverse
        have x4 : ((tp :: s).reverse.map natD).isEmpty = false := by simp
        have x5 : appD ((tp :: s).reverse.map natD) [.int (x : Nat)] = some (.non, (x :: tp :: s).reverse.map natD) := by
          rw [appD_e _ (by rw [List.length_map, List.length_reverse]; omega)]
          simp [natD]
        have x6 : popD ((tp :: s).reverse.map natD) [] = some (.int (tp : Nat), s.reverse.map natD) := by rw [hz, popD_e]
        obtain ⟨Z, hZ⟩ : ∃ Z, Z = (tp :: s).reverse.map natD := ⟨_, rfl⟩
        rw [← hZ] at x2 x3 x4 x5 x6 ⊢
        have hred : red (fun i => row.getD i 0) (push (fun i => row.getD i 0) (tp :: s) x) [] = if tp = fx then s else x :: tp :: s := by
          show push (fun i => row.getD i 0) (tp :: s) x = _
          rw [push_cons, hfx]
        rw [hred]
        obtain ⟨U, hU⟩ : ∃ U, U = (x :: tp :: s).reverse.map natD := ⟨_, rfl⟩
        rw [← hU] at x5
        by_cases e : tp = fx
        · refine ⟨_, .inl ?_, some (.int (x : Nat)), rfl⟩
          rw [turn_e, if_pos e]
          unfold bodyI2
          simp [x1, x2, x3, x4, x6, eqOk_emp, deq_emp, small_le, e, -List.map_reverse]
        · refine ⟨_, .inl ?_, some (.int (x : Nat)), rfl⟩
          rw [turn_e, if_neg e, ← hU]
          unfold bodyI2
          have e' : ¬ ((tp : Int) = (fx : Int)) := by omega
          simp [x1, x2, x3, x4, x5, eqOk_emp, deq_emp, small_le, e'])
  have hfin : red (fun i => row.getD i 0) [] (roundL n m) = [] := h.nc.red (roundL_nodup n m)
  refine ⟨a', b, ?_⟩
  rw [h1, List.length_map, List.take_of_length_le (Nat.le_refl _), hfin]
  rfl
theorem is_mat_ok {n m : Nat} {row : List Nat} (h : IsMat n m row) (hl : n + m ≤ 1000) : fn_p_is_mat.sem [matD n m row] = some (.bl true, [some (matD n m row)]) := by
  obtain ⟨a, b, l1⟩ := is_mat_l1 (t := some (matD n m row)) (a := none) (b := none) (c := none) h
  obtain ⟨a2, b2, l2⟩ := is_mat_l2 (t := some (matD n m row)) (nn := some (.int (n : Nat))) (mm := some (.int (m : Nat))) (many := some (.int ((row.map natD).length : Nat))) (a := a) (b := b) h (by omega)
  have rd := round_ok (n := n) (m := m) (by omega) (by omega)
  have hlen : (row.map natD).length = n + m := by rw [List.length_map, h.len]
  have ho := noOwns_natDs row
  have hf := freezes_natDs row
  have ho2 := noOwns_natDs (roundL n m)
  have hf2 := freezes_natDs (roundL n m)
  unfold matD at l1 l2 ⊢
  obtain ⟨X, hX⟩ : ∃ X, X = row.map natD := ⟨_, rfl⟩
  rw [← hX] at l1 l2 ho hf hlen ⊢
  obtain ⟨Y, hY⟩ : ∃ Y, Y = (roundL n m).map natD := ⟨_, rfl⟩
  rw [← hY] at l2 rd ho2 hf2
  unfold bodyI1 at l1
  unfold bodyI2 at l2
  have c1 : ¬ ((n : Int) < 0) := by omega
  have c2 : ¬ ((m : Int) < 0) := by omega
  have c3 : (n : Int) + (m : Int) = (X.length : Int) := by omega
  have hp := h.pos
  have c4 : ¬ ((X.length : Int) = 0) := by omega
  have pr : fn_p_round_of.pins = [true, true] := rfl
  have c5 : X ≠ [] := by intro e; rw [e] at hlen; simp at hlen; omega
  unfold fn_p_is_mat F_p_is_mat
  rw [bodyFn_sem]
  simp [ho, hf, ho2, hf2, c1, c2, c3, c4, c5, l1, l2, rd, pr, eqOk_emp, deq_emp, small_le]
theorem checked_ok {n m : Nat} {row : List Nat} (h : IsMat n m row) (hl : n + m ≤ 1000) : fn_p_checked_mat.sem [matD n m row] = some (matD n m row, [some (matD n m row)]) := by
  have e := is_mat_ok h hl
  have ho := noOwn_matD n m row
  obtain ⟨M, hM⟩ : ∃ M, M = matD n m row := ⟨_, rfl⟩
  rw [← hM] at e ho ⊢
  have pp : fn_p_is_mat.pins = [true] := rfl
  unfold fn_p_checked_mat F_p_checked_mat
  rw [bodyFn_sem]
  simp [e, ho, pp]
def bodyR : FS := (asgF (opF ixD [.b 3, .b 6]) (tgSub 4 (.t (opF ixD [.b 3, .b 5]))))
theorem remade_ok {n m : Nat} {row placeL : List Nat} (hr : row.length = n + m) (hp : placeL.length = n + m) (hl : n + m ≤ 1000) (hrow : ∀ i j : Nat, row[i]? = some j → j < n + m)
    (hlt : ∀ i, i < n + m → placeL.getD i 0 < n + m) (hinj : ∀ i j, i < n + m → j < n + m → placeL.getD i 0 = placeL.getD j 0 → i = j) :
    ∃ new os, fn_p_remade.sem [.int (n : Nat), .int (m : Nat), .tup (row.map natD), .lst true (placeL.map natD)] = some (matD n m new, os) ∧ os = [some (.int (n : Nat)), some (.int (m : Nat)), some (.tup (row.map natD)), some (.lst true (placeL.map natD))] ∧ new.length = n + m ∧ ∀ i j : Nat, row[i]? = some j → new[placeL.getD i 0]? = some (placeL.getD j 0) := by
  obtain ⟨ρ', h1, new, a', b', rfl, n1, n2⟩ := for_inv (tg := (tgT 2 (tgCons (tgN 5) (tgCons (tgN 6) (tgNil))))) (body := bodyR) (ds := enumL (row.map natD)) (ρ := [some (.int (n : Nat)), some (.int (m : Nat)), some (.tup (row.map natD)), some (.lst true (placeL.map natD)), some (.lst true ((List.replicate (n + m) 0).map natD)), none, none])
    (fun k ρ => ∃ (new : List Nat) (a' b' : Option D), ρ = [some (.int (n : Nat)), some (.int (m : Nat)), some (.tup (row.map natD)), some (.lst true (placeL.map natD)), some (.lst true (new.map natD)), a', b'] ∧ new.length = n + m ∧ ∀ i j : Nat, i < k → row[i]? = some j → new[placeL.getD i 0]? = some (placeL.getD j 0))
    ⟨_, none, none, rfl, by simp, fun i j h => by omega⟩ (by
      rintro i d ρ hd ⟨new, a', b', rfl, n1, n2⟩
      obtain ⟨j, hj, rfl⟩ := enum_get hd
      have hi : i < n + m := by have := (List.getElem?_eq_some_iff.mp hj).1; omega
      have hjl := hrow i j hj
      refine ⟨_, .inl ?_, new.set (placeL.getD i 0) (placeL.getD j 0), some (.int (i : Nat)), some (.int (j : Nat)), rfl, by simp [n1], fun i' j' hi' e' => ?_⟩
      · have x1 : atI (placeL.map natD) (i : Nat) = some (natD (placeL.getD i 0)) := atI_mapN (by omega)
        have x2 : atI (placeL.map natD) (j : Nat) = some (natD (placeL.getD j 0)) := atI_mapN (by omega)
        have x3 : ixN (new.map natD).length ((placeL.getD i 0 : Nat) : Int) = some (placeL.getD i 0) := ixN_nat (by rw [List.length_map, n1]; exact hlt i hi)
        have x4 : (new.set (placeL.getD i 0) (placeL.getD j 0)).map natD = (new.map natD).set (placeL.getD i 0) (.int (placeL.getD j 0 : Nat)) := (map_setN _ _ _).symm
        rw [x4]
        obtain ⟨X, hX⟩ : ∃ X, X = placeL.map natD := ⟨_, rfl⟩
        obtain ⟨Y, hY⟩ : ∃ Y, Y = new.map natD := ⟨_, rfl⟩
        obtain ⟨Z, hZ⟩ : ∃ Z, Z = row.map natD := ⟨_, rfl⟩
        obtain ⟨p, hp⟩ : ∃ p, p = placeL.getD i 0 := ⟨_, rfl⟩
        obtain ⟨q, hq⟩ : ∃ q, q = placeL.getD j 0 := ⟨_, rfl⟩
        rw [← hX, ← hp, natD_i] at x1
        rw [← hX, ← hq, natD_i] at x2
        rw [← hY, ← hp] at x3
        rw [← hX, ← hY, ← hZ, ← hp, ← hq, turn_e]
        unfold bodyR
        simp [x1, x2, x3]
      · have hi2 : i' < n + m := by have := (List.getElem?_eq_some_iff.mp e').1; omega
        by_cases e : i' = i
        · subst e
          rw [hj] at e'
          cases e'
          rw [List.getElem?_set_self (by rw [n1]; exact hlt _ hi)]
        · rw [List.getElem?_set_ne (fun h => e (hinj _ _ hi2 hi h.symm))]
          exact n2 i' j' (by omega) e')
  refine ⟨new, _, ?_, rfl, n1, fun i j e => n2 i j ?_ e⟩
  · have m1 : mulD [.lst true [.int 0], .int ((n : Nat) + (m : Nat))] = some (.lst true ((List.replicate (n + m) 0).map natD)) := by
      rw [mulD_n (by simp) (by omega) (by omega) (by simp; omega)]
      have : ((n : Int) + (m : Int)).toNat = n + m := by omega
      rw [this]
      congr 2
      rw [List.map_replicate]
      induction (n + m) with
      | zero => rfl
      | succ n ih => rw [List.replicate_succ, List.replicate_succ, List.flatten_cons, ih]; rfl
    have ho := noOwns_natDs row
    have hf := freezes_natDs row
    have ho2 := noOwns_natDs new
    unfold matD
    obtain ⟨X, hX⟩ : ∃ X, X = (List.replicate (n + m) 0).map natD := ⟨_, rfl⟩
    obtain ⟨Y, hY⟩ : ∃ Y, Y = row.map natD := ⟨_, rfl⟩
    obtain ⟨Z, hZ⟩ : ∃ Z, Z = placeL.map natD := ⟨_, rfl⟩
    obtain ⟨U, hU⟩ : ∃ U, U = new.map natD := ⟨_, rfl⟩
    rw [← hX] at m1 h1
    rw [← hY] at ho hf h1 ⊢
    rw [← hZ] at h1 ⊢
    rw [← hU] at ho2 h1 ⊢
    unfold bodyR at h1
    unfold fn_p_remade F_p_remade
    rw [bodyFn_sem]
    simp [m1, h1, ho, hf, ho2, small_le, tupleD_l]
  · rw [enumL, List.length_map, List.length_zip, len_intsTo, List.length_map]
    have := (List.getElem?_eq_some_iff.mp e).1
    omega
def M (u d : Nat) (ps : List ((Nat × Nat) × (Nat × Nat))) : List Nat := madeL u ps (List.replicate (u + d) 0)
def flipP (ps : List ((Nat × Nat) × (Nat × Nat))) : List ((Nat × Nat) × (Nat × Nat)) := ps.map fun p => (flipS p.1, flipS p.2)
def sideP (u d : Nat) (ps : List ((Nat × Nat) × (Nat × Nat))) : List ((Nat × Nat) × (Nat × Nat)) := ps.map fun p => (sideS u d p.1, sideS u d p.2)
theorem M_row {u d : Nat} {ps : List ((Nat × Nat) × (Nat × Nat))} (h : NCP (ring u d) ps) : Row u d ps (M u d ps) := madeL_row h.ends
theorem M_mat {u d : Nat} {ps : List ((Nat × Nat) × (Nat × Nat))} (h : NCP (ring u d) ps) (h0 : 0 < u + d) : IsMat u d (M u d ps) := (M_row h).mat h h0
def upL (n m : Nat) : List Nat := ((List.range n).map fun i => m + i) ++ List.range m
def leL (n m : Nat) : List Nat := (List.range n).reverse ++ (List.range m).reverse.map fun i => n + i
theorem ends_len {α : Type} (ps : List (α × α)) : (ends ps).length = 2 * ps.length := by
  induction ps with
  | nil => rfl
  | cons p ps ih =>
    show (p.1 :: p.2 :: ends ps).length = _
    simp only [List.length_cons, ih]; omega
theorem made_M {u d : Nat} {ps : List ((Nat × Nat) × (Nat × Nat))} {o : Bool} (hl : u + d ≤ 1000) (hp : (ends ps).Perm (ring u d)) :
    fn_made.sem [.int (u : Nat), .int (d : Nat), .lst o (ps.map prD)] = some (matD u d (M u d ps), [some (.int (u : Nat)), some (.int (d : Nat)), some (.lst false (ps.map prD))]) := by
  obtain ⟨o', e, rfl⟩ := made_ok (o := o) hl (fun s hs => hp.mem_iff.mp hs)
  exact e
theorem putB_t1 (f : FE) (d : D) (os : List (Option D)) (ρ : Env) : putB [.t f] [d] os ρ = ρ := by cases os <;> rfl
theorem well_ok {ns : List Int} {p : Nat} (hp : p ≤ 1000) : ∃ w, fn_well.sem [.scr ns, .int (p : Nat)] = some (w, [some (.scr ns), some (.int (p : Nat))]) ∧ Wok 1000000 w := by
  have mk : mulOk 104395301 (p : Nat) = true := mulOk_l (by omega) (by omega)
  have key : ∀ c : Int, Wok 1000000 (.lst true [.int (if c - 1000000000000000000 > 0 then c - 1000000000000000000 else 0), .int (c.fmod 1000000000000000000000000000000061 + 104395301 * (p : Nat) + 1299709), .int 0]) := fun c => by
    have hm := fmod_in (a := c) (b := 1000000000000000000000000000000061) (by omega)
    refine ⟨_, _, _, rfl, ?_, ?_, ?_, ?_, ?_⟩
    · split <;> omega
    · omega
    · omega
    · omega
    · omega
  by_cases h : (p : Int) < (ns.length : Int)
  · have hx : p < ns.length := by omega
    have x1 : atI ns (p : Nat) = some (ns[p]'hx) := atI_nat (List.getElem?_eq_getElem hx)
    refine ⟨_, ?_, key (ns[p]'hx)⟩
    unfold fn_well F_well
    rw [bodyFn_sem]
    simp [h, hx, x1, mk, small_le]
  · have hx : ¬ p < ns.length := by omega
    refine ⟨_, ?_, key 0⟩
    unfold fn_well F_well
    rw [bodyFn_sem]
    simp [h, hx, mk, small_le]
/-! ### a comprehension with an if -/
def flK3 (vs : List Nat) : D × Env → Option (Option D × Env) := fun q => some (some q.1, wipeD q.2 vs)
@[simp] theorem flK3_e (vs : List Nat) (d : D) (ρ : Env) : flK3 vs (d, ρ) = some (some d, wipeD ρ vs) := nrfl rfl
def flK (vs : List Nat) (fe : FE) : Bool × Env → Option (Option D × Env) := fun b => if b.1 = true then bd (fe b.2) (flK3 vs) else some (none, wipeD b.2 vs)
@[simp] theorem flK_t (vs : List Nat) (fe : FE) (ρ : Env) : flK vs fe (true, ρ) = bd (fe ρ) (flK3 vs) := nrfl rfl
@[simp] theorem flK_f (vs : List Nat) (fe : FE) (ρ : Env) : flK vs fe (false, ρ) = some (none, wipeD ρ vs) := nrfl rfl
def lcTurnF (vs : List Nat) (fg : D → Env → Option Env) (ft : FB) (fe : FE) (d : D) (ρ : Env) : Option (Option D × Env) := bd (bd (fg d ρ) ft) (flK vs fe)
theorem lcTurnF_e (vs : List Nat) (fg : D → Env → Option Env) (ft : FB) (fe : FE) (d : D) (ρ : Env) : lcTurnF vs fg ft fe d ρ = bd (bd (fg d ρ) ft) (flK vs fe) := rfl
theorem goLc_filt {α : Type} {vs : List Nat} {fg : D → Env → Option Env} {ft : FB} {fe : FE} {ρ : Env} (enc e : α → D) (b : α → Bool) : ∀ (xs : List α), (∀ x ∈ xs, lcTurnF vs fg ft fe (enc x) ρ = some (if b x = true then some (e x) else none, ρ)) → goLc vs fg ft fe (xs.map enc) ρ = some ((xs.filter b).map e, ρ)
  | [], _ => rfl
  | x :: xs, h => by
    have h1 := h x (by simp)
    have ih := goLc_filt enc e b xs fun y hy => h y (by simp [hy])
    unfold lcTurnF bd at h1
    show (fg (enc x) ρ).bind _ = _
    cases hg : fg (enc x) ρ with
    | none => rw [hg] at h1; cases h1
    | some ρ1 =>
      rw [hg] at h1
      simp only [Option.bind_some] at h1 ⊢
      cases ht : ft ρ1 with
      | none => rw [ht] at h1; cases h1
      | some q =>
        obtain ⟨c, ρ2⟩ := q
        rw [ht] at h1
        simp only [Option.bind_some] at h1 ⊢
        cases c with
        | false =>
          rw [flK_f] at h1
          simp only [Option.some.injEq, Prod.mk.injEq] at h1
          simp only [Bool.false_eq_true, if_false]
          rw [h1.2, ih]
          have hb : b x = false := by
            cases hb : b x with
            | false => rfl
            | true => rw [hb] at h1; simp at h1
          simp [List.filter_cons, hb]
        | true =>
          rw [flK_t] at h1
          unfold bd at h1
          simp only [if_true]
          cases hf : fe ρ2 with
          | none => rw [hf] at h1; cases h1
          | some r =>
            rw [hf] at h1
            simp only [Option.bind_some, flK3, Option.some.injEq, Prod.mk.injEq] at h1 ⊢
            rw [h1.2, ih]
            have hb : b x = true := by
              cases hb : b x with
              | true => rfl
              | false => rw [hb] at h1; simp at h1
            rw [hb] at h1
            simp only [if_true, Option.some.injEq] at h1
            simp [List.filter_cons, hb, h1.1]
/-! binomials -/
theorem fdivN (a b : Nat) : Int.fdiv (a : Nat) (b : Nat) = ((a / b : Nat) : Int) := by
  rw [Int.fdiv_eq_ediv_of_nonneg _ (by omega), Int.natCast_ediv]
def toI (r : List Nat) : List Int := r.map (fun i : Nat => (i : Int))
theorem toI_inj {r s : List Nat} (h : toI r = toI s) : r = s := by
  unfold toI at h
  refine List.map_inj_right (fun a b e => ?_) |>.mp h
  exact Int.ofNat.inj e
theorem pyDs_nats (r : List Nat) : pyDs (r.map natD) = (toI r).map PyData.int := by
  rw [pyDs_map, List.map_map, toI, List.map_map]
  rfl
theorem eqvAll_ints : ∀ r s : List Int, PyData.eqvAll (r.map PyData.int) (s.map PyData.int) = true → r = s
  | [], [], _ => rfl
  | [], _ :: _, h => by simp [PyData.eqvAll] at h
  | _ :: _, [], h => by simp [PyData.eqvAll] at h
  | x :: r, y :: s, h => by
    simp only [List.map_cons, PyData.eqvAll, Bool.and_eq_true, PyData.eqv, beq_iff_eq] at h
    rw [h.1, eqvAll_ints r s h.2]
theorem alikeAll_ints : ∀ r s : List Int, PySem.W.alikeAll (r.map PyData.int) (s.map PyData.int) = true
  | [], _ => by simp [PySem.W.alikeAll]
  | _ :: _, [] => by simp [PySem.W.alikeAll]
  | x :: r, y :: s => by simp [PySem.W.alikeAll, PySem.W.alike, alikeAll_ints r s]
def matP (n m : Nat) (r : List Nat) : PyData := .tuple [.int (n : Nat), .int (m : Nat), .tuple ((toI r).map PyData.int)]
theorem pyD_mat (n m : Nat) (r : List Nat) : pyD (matD n m r) = matP n m r := by
  unfold matD matP
  simp only [pyD, pyDs, pyDs_nats]
theorem lt_mat (n m : Nat) (r s : List Nat) : PySem.W.dataLt (matP n m r) (matP n m s) = decide (toI r < toI s) := by
  unfold matP
  have e : PyProof.Rows.lexLt PyProof.Rows.itemOrd (PySem.W.keyToksAll []) (PySem.W.keyToksAll []) = false := PyProof.Rows.lex_irrefl _
  rw [PySem.W.dataLt_tuple, PySem.W.dataLt_cons (by simp [PySem.W.alike]), if_pos (by simp [PyData.eqv]), PySem.W.dataLt_cons (by simp [PySem.W.alike]), if_pos (by simp [PyData.eqv]), PySem.W.dataLt_cons (by simp [PySem.W.alike, alikeAll_ints])]
  split
  · rename_i h
    have := eqvAll_ints (toI r) (toI s) (by simpa [PyData.eqv] using h)
    rw [this, e]
    simp
  · rw [PySem.W.dataLt_tuple]
    exact PySem.W.dataLt_ints (toI r) (toI s)
def rowLe (r s : List Nat) : Bool := decide (toI r ≤ toI s)
theorem le_mat (n m : Nat) (r s : List Nat) : PySem.W.dataLe false pyD (matD n m r) (matD n m s) = rowLe r s := by
  show (!PySem.W.dataLt (pyD (matD n m s)) (pyD (matD n m r))) = _
  rw [pyD_mat, pyD_mat, lt_mat]
  unfold rowLe
  by_cases h : toI s < toI r
  · have h' : ¬ toI r ≤ toI s := fun q => List.not_lt.mpr q h
    simp [h, h']
  · have h' : toI r ≤ toI s := List.not_lt.mp h
    simp [h, h']
theorem sort_mats (n m : Nat) (rs : List (List Nat)) : sortMD (rs.map (matD n m)) = (rs.mergeSort rowLe).map (matD n m) :=
  (List.map_mergeSort (r := rowLe) (s := PySem.W.dataLe false pyD) (f := matD n m) (l := rs) fun a _ b _ => (le_mat n m a b).symm).symm
theorem sort_perm {rs ss : List (List Nat)} (h : rs.Perm ss) : rs.mergeSort rowLe = ss.mergeSort rowLe := by
  have tr : ∀ a b c : List Nat, rowLe a b = true → rowLe b c = true → rowLe a c = true := fun a b c h k => by
    unfold rowLe at *
    exact decide_eq_true (List.le_trans (of_decide_eq_true h) (of_decide_eq_true k))
  have to : ∀ a b : List Nat, (rowLe a b || rowLe b a) = true := fun a b => by
    unfold rowLe
    rcases List.le_total (toI a) (toI b) with h | h <;> simp [h]
  refine List.Perm.eq_of_pairwise (fun a b _ _ h k => ?_) (List.pairwise_mergeSort tr to rs) (List.pairwise_mergeSort tr to ss) (((List.mergeSort_perm rs rowLe).trans h).trans (List.mergeSort_perm ss rowLe).symm)
  unfold rowLe at h k
  exact toI_inj (List.le_antisymm (of_decide_eq_true h) (of_decide_eq_true k))
theorem noTys_nats (r : List Nat) : noTys (r.map natD) = true := by
  induction r with
  | nil => rfl
  | cons x r ih => rw [List.map_cons, noTys, ih]; rfl
theorem noTys_mats (n m : Nat) : ∀ rs : List (List Nat), noTys (rs.map (matD n m)) = true
  | [] => rfl
  | r :: rs => by
    rw [List.map_cons, noTys, noTys_mats n m rs]
    unfold matD
    simp only [noTy, noTys, noTys_nats]
    rfl
theorem depth_ints : ∀ r : List Int, PyData.depthAll (r.map PyData.int) ≤ 1
  | [] => by simp [PyData.depthAll]
  | x :: r => by
    have := depth_ints r
    simp only [List.map_cons, PyData.depthAll, PyData.depth]
    omega
theorem sorted_ok (n m : Nat) (o : Bool) (rs : List (List Nat)) : sortedMD [.lst o (rs.map (matD n m))] = some (.lst true ((rs.mergeSort rowLe).map (matD n m))) := by
  have h1 : noOwns (rs.map (matD n m)) = true := noOwns_map (noOwn_matD n m) rs
  have h2 := noTys_mats n m rs
  have h3 : shapeOk (pyDs (rs.map (matD n m))) = true := by
    rw [pyDs_map, List.map_map]
    unfold shapeOk
    rw [Bool.and_eq_true, Bool.and_eq_true]
    refine ⟨List.all_eq_true.mpr fun d hd => List.all_eq_true.mpr fun e he => ?_, List.all_eq_true.mpr fun d hd => ?_, List.all_eq_true.mpr fun d hd => ?_⟩
    · obtain ⟨r, _, rfl⟩ := List.mem_map.mp hd
      obtain ⟨s, _, rfl⟩ := List.mem_map.mp he
      simp only [Function.comp_apply, pyD_mat, matP, PySem.W.alike, PySem.W.alikeAll, alikeAll_ints]
      rfl
    · obtain ⟨r, _, rfl⟩ := List.mem_map.mp hd
      rw [Function.comp_apply, pyD_mat]
      rfl
    · obtain ⟨r, _, rfl⟩ := List.mem_map.mp hd
      rw [Function.comp_apply, pyD_mat]
      have := depth_ints (toI r)
      unfold matP
      simp only [PyData.depth, PyData.depthAll]
      exact decide_eq_true (by omega)
  show (if _ then _ else _) = _
  rw [if_pos ⟨h1, h2, h3⟩, sort_mats]
/-! the rows, step by step -/
abbrev St (α : Type) := List α × List (α × α)
def runPre {α : Type} (z : α) (R : List α) : Nat → List (St α)
  | 0 => [([], [])]
  | i + 1 => stepA (R.getD i z) (R.length - i - 1) (runPre z R i)
theorem runA_pre {α : Type} (z : α) (R : List α) : ∀ k, k ≤ R.length → runA (R.drop (R.length - k)) (runPre z R (R.length - k)) = runPre z R R.length
  | 0, _ => by simp [runA]
  | k + 1, h => by
    have hk : R.length - (k + 1) < R.length := by omega
    rw [List.drop_eq_getElem_cons hk, runA]
    have e : R.length - (k + 1) + 1 = R.length - k := by omega
    rw [e, List.length_drop, show R.length - (R.length - k) = k by omega]
    have e2 : runPre z R (R.length - k) = stepA (R.getD (R.length - (k + 1)) z) (R.length - (R.length - (k + 1)) - 1) (runPre z R (R.length - (k + 1))) := by
      rw [← e]; rfl
    rw [← runA_pre z R k (by omega), e2, show R.length - (R.length - (k + 1)) - 1 = k by omega]
    congr 2
    simp [List.getD_eq_getElem?_getD, List.getElem?_eq_getElem hk]
theorem allA_pre {α : Type} (z : α) (R : List α) : allA R = shutA (runPre z R R.length) := by
  unfold allA
  have := runA_pre z R R.length (Nat.le_refl _)
  rw [Nat.sub_self, List.drop_zero] at this
  rw [← this]
  rfl
def one1 {α : Type} (a : α) (left : Nat) (r : St α) : List (St α) := if r.1.length < left then [(r.1 ++ [a], r.2)] else []
def one2 {α : Type} (a : α) (r : St α) : List (St α) := match r.1.getLast? with | some x => [(r.1.dropLast, r.2 ++ [(x, a)])] | none => []
theorem stepA_one {α : Type} (a : α) (left : Nat) (rows : List (St α)) : stepA a left rows = rows.flatMap fun r => one1 a left r ++ one2 a r := rfl
theorem one_len {α : Type} (a : α) (left : Nat) (r : St α) : (one1 a left r ++ one2 a r).length ≤ 2 := by
  unfold one1 one2
  split <;> split <;> simp
theorem flat_len {α β : Type} {f : α → List β} {c : Nat} (h : ∀ x, (f x).length ≤ c) : ∀ xs : List α, (xs.flatMap f).length ≤ c * xs.length
  | [] => by simp
  | x :: xs => by
    have := flat_len h xs
    have := h x
    rw [List.flatMap_cons, List.length_append, List.length_cons, Nat.mul_succ]
    omega
theorem runPre_len {α : Type} (z : α) (R : List α) : ∀ i, (runPre z R i).length ≤ 2 ^ i
  | 0 => by simp [runPre]
  | i + 1 => by
    have := runPre_len z R i
    have := flat_len (one_len (R.getD i z) (R.length - i - 1)) (runPre z R i)
    rw [runPre, stepA_one, Nat.pow_succ]
    omega
structure InR {α : Type} (R : List α) (n : Nat) (r : St α) : Prop where
  w : ∀ s ∈ r.1, s ∈ R
  p : ∀ s ∈ ends r.2, s ∈ R
  l : r.1.length + r.2.length ≤ n
theorem ends_app {α : Type} (ps qs : List (α × α)) : ends (ps ++ qs) = ends ps ++ ends qs := by unfold ends; rw [List.flatMap_append]
theorem runPre_in {α : Type} (z : α) (R : List α) : ∀ i, i ≤ R.length → ∀ r ∈ runPre z R i, InR R i r
  | 0, _, r, h => by
    have : r = ([], []) := by simpa [runPre] using h
    subst this
    exact ⟨fun s hs => (nomatch hs), fun s hs => (nomatch hs), by simp⟩
  | i + 1, hi, r, h => by
    rw [runPre, stepA_one] at h
    obtain ⟨q, hq, h⟩ := List.mem_flatMap.mp h
    have ih := runPre_in z R i (by omega) q hq
    have hm : R.getD i z ∈ R := by
      rw [List.getD_eq_getElem?_getD, List.getElem?_eq_getElem (by omega)]
      exact List.getElem_mem _
    have il := ih.l
    rcases List.mem_append.mp h with h | h
    · unfold one1 at h
      split at h
      · obtain rfl : r = _ := by simpa using h
        refine ⟨fun s hs => ?_, ih.p, by simp; omega⟩
        rcases List.mem_append.mp hs with hs | hs
        · exact ih.w s hs
        · obtain rfl : s = _ := by simpa using hs
          exact hm
      · cases h
    · unfold one2 at h
      split at h
      · rename_i x hx
        obtain rfl : r = _ := by simpa using h
        have xm : x ∈ q.1 := List.mem_of_getLast? hx
        have l0 : 0 < q.1.length := List.length_pos_of_mem xm
        refine ⟨fun s hs => ih.w s (List.dropLast_subset _ hs), fun s hs => ?_, by simp; omega⟩
        rw [ends_app] at hs
        rcases List.mem_append.mp hs with hs | hs
        · exact ih.p s hs
        · have : s = x ∨ s = R.getD i z := by simpa [ends] using hs
          rcases this with rfl | rfl
          · exact ih.w _ xm
          · exact hm
      · cases h
/-! made, of a tuple of pairs -/
theorem made_loopT {u d : Nat} (hl : u + d ≤ 1000) (Q : D) : ∀ (ps : List ((Nat × Nat) × (Nat × Nat))) (row : List Nat) (a b c e : Option D), row.length = u + d → (∀ s ∈ ends ps, s ∈ ring u d) →
    ∃ a' b' c' e', goFor (tgT 2 (tgCons (tgN 4) (tgCons (tgN 5) (tgNil)))) bodyM (ps.map prD) [some (.int (u : Nat)), some (.int (d : Nat)), some Q, some (.lst true (row.map natD)), a, b, c, e] =
      some (.nx [some (.int (u : Nat)), some (.int (d : Nat)), some Q, some (.lst true ((madeL u ps row).map natD)), a', b', c', e'])
  | [], row, a, b, c, e, hr, _ => ⟨a, b, c, e, rfl⟩
  | p :: ps, row, a, b, c, e, hr, hm => by
    obtain ⟨⟨s1, i1⟩, ⟨s2, i2⟩⟩ := p
    have m1 := hm (s1, i1) (mem_ends.mpr ⟨_, List.mem_cons_self .., .inl rfl⟩)
    have m2 := hm (s2, i2) (mem_ends.mpr ⟨_, List.mem_cons_self .., .inr rfl⟩)
    have t1 := idx_lt m1
    have t2 := idx_lt m2
    simp only [idx] at t1 t2
    obtain ⟨a', b', c', e', ih⟩ := made_loopT hl Q ps ((row.set (s1 * u + i1) (s2 * u + i2)).set (s2 * u + i2) (s1 * u + i1)) (some (spD (s1, i1))) (some (spD (s2, i2))) (some (.int ((s1 * u + i1 : Nat) : Int))) (some (.int ((s2 * u + i2 : Nat) : Int))) (by simp [hr]) (fun s hs => hm s (by
      obtain ⟨p, h1, h2⟩ := mem_ends.mp hs
      exact mem_ends.mpr ⟨p, List.mem_cons_of_mem _ h1, h2⟩))
    refine ⟨a', b', c', e', ?_⟩
    rw [List.map_cons, goFor_cons]
    have mk1 : mulOk (s1 : Nat) (u : Nat) = true := mulOk_r (by omega) (by omega)
    have mk2 : mulOk (s2 : Nat) (u : Nat) = true := mulOk_r (by omega) (by omega)
    have x1 : (s1 : Int) * (u : Int) + (i1 : Int) = ((s1 * u + i1 : Nat) : Int) := by simp
    have x2 : (s2 : Int) * (u : Int) + (i2 : Int) = ((s2 * u + i2 : Nat) : Int) := by simp
    obtain ⟨j1, hj1⟩ : ∃ j, j = s1 * u + i1 := ⟨_, rfl⟩
    obtain ⟨j2, hj2⟩ : ∃ j, j = s2 * u + i2 := ⟨_, rfl⟩
    rw [← hj1] at x1 t1 ih
    rw [← hj2] at x2 t2 ih
    obtain ⟨X, hX⟩ : ∃ X, X = row.map natD := ⟨_, rfl⟩
    have n1 : ixN X.length (j1 : Nat) = some j1 := ixN_nat (by rw [hX, List.length_map, hr]; exact t1)
    have n2 : ixN X.length (j2 : Nat) = some j2 := ixN_nat (by rw [hX, List.length_map, hr]; exact t2)
    have st : (X.set j1 (.int (j2 : Nat))).set j2 (.int (j1 : Nat)) = ((row.set j1 j2).set j2 j1).map natD := by rw [hX, map_setN, map_setN]
    have ht : turn (tgT 2 (tgCons (tgN 4) (tgCons (tgN 5) (tgNil)))) bodyM (prD ((s1, i1), (s2, i2))) [some (.int (u : Nat)), some (.int (d : Nat)), some Q, some (.lst true (row.map natD)), a, b, c, e] =
        some (.nx [some (.int (u : Nat)), some (.int (d : Nat)), some Q, some (.lst true (((row.set j1 j2).set j2 j1).map natD)), some (spD (s1, i1)), some (spD (s2, i2)), some (.int (j1 : Nat)), some (.int (j2 : Nat))]) := by
      rw [turn_e, ← hX, ← st]
      unfold bodyM prD spD
      simp [mk1, mk2, x1, x2, n1, n2, small_le]
    rw [ht, bd_some, loopK_nx, ih]
    unfold madeL
    simp only [List.foldl_cons, idx]
    rw [← hj1, ← hj2]
theorem made_okT {u d : Nat} {ps : List ((Nat × Nat) × (Nat × Nat))} (hl : u + d ≤ 1000) (hm : ∀ s ∈ ends ps, s ∈ ring u d) (h5 : ps.length ≤ 1000) :
    fn_made.sem [.int (u : Nat), .int (d : Nat), .tup (ps.map prD)] = some (matD u d (madeL u ps (List.replicate (u + d) 0)), [some (.int (u : Nat)), some (.int (d : Nat)), some (.tup (ps.map prD))]) := by
  obtain ⟨a, b, c, e, h⟩ := made_loopT (u := u) (d := d) hl (.tup (ps.map prD)) ps (List.replicate (u + d) 0) none none none none (by simp) hm
  have m1 : mulD [.lst true [.int 0], .int ((u : Nat) + (d : Nat))] = some (.lst true ((List.replicate (u + d) 0).map natD)) := by
    rw [mulD_n (by simp) (by omega) (by omega) (by simp; omega)]
    have : ((u : Int) + (d : Int)).toNat = u + d := by omega
    rw [this]
    congr 2
    rw [List.map_replicate]
    induction (u + d) with
    | zero => rfl
    | succ n ih => rw [List.replicate_succ, List.replicate_succ, List.flatten_cons, ih]; rfl
  have hlen : (madeL u ps (List.replicate (u + d) 0)).length ≤ 1000 := by
    have : ∀ (ps : List ((Nat × Nat) × (Nat × Nat))) (row : List Nat), (madeL u ps row).length = row.length := by
      intro ps
      induction ps with
      | nil => intro row; rfl
      | cons p ps ih => intro row; unfold madeL at ih ⊢; rw [List.foldl_cons, ih]; simp
    rw [this]; simpa using hl
  have sm : decide (((madeL u ps (List.replicate (u + d) 0)).map natD).length ≤ smallL) = true := small_le (by rw [List.length_map]; omega)
  have q1 := noOwns_natDs (madeL u ps (List.replicate (u + d) 0))
  have t1 := tupleD_l (o := true) q1
  have sy : decide ((ps.map prD).length ≤ smallL) = true := small_le (by rw [List.length_map]; omega)
  obtain ⟨X, hX⟩ : ∃ X, X = (List.replicate (u + d) 0).map natD := ⟨_, rfl⟩
  rw [← hX] at m1 h
  obtain ⟨Y, hY⟩ : ∃ Y, Y = ps.map prD := ⟨_, rfl⟩
  have hYo : noOwns Y = true := by rw [hY]; simp
  have hYf := freezes_of hYo
  rw [← hY] at h sy ⊢
  unfold bodyM at h
  unfold fn_made F_made matD
  rw [bodyFn_sem]
  generalize (madeL u ps (List.replicate (u + d) 0)).map natD = Z at *
  simp [m1, h, hYo, hYf, sm, sy, q1, t1, small_le (n := 1) (by omega), small_le (n := 3) (by omega)]
abbrev Sp := Nat × Nat
def stD (r : St Sp) : D := .tup [.tup (r.1.map spD), .tup (r.2.map prD)]
@[simp] theorem noOwn_stD (r : St Sp) : noOwn (stD r) = true := by simp [stD]
theorem noOwns_stDs (rs : List (St Sp)) : noOwns (rs.map stD) = true := noOwns_map noOwn_stD rs
theorem eqOk_tsp (w : List Sp) : eqOk (.tup (w.map spD)) = true := (EqB.tup (k := 1) (fun x hx => by
  obtain ⟨s, _, rfl⟩ := List.mem_map.mp hx
  exact EqB.tup (k := 0) fun y hy => by
    have : y = .int (s.1 : Nat) ∨ y = .int (s.2 : Nat) := by simpa using hy
    rcases this with rfl | rfl <;> exact .int _)).ok (by omega)
theorem eqOk_lsp (o : Bool) (w : List Sp) : eqOk (.lst o (w.map spD)) = true := (EqB.lst (k := 1) (fun x hx => by
  obtain ⟨s, _, rfl⟩ := List.mem_map.mp hx
  exact EqB.tup (k := 0) fun y hy => by
    have : y = .int (s.1 : Nat) ∨ y = .int (s.2 : Nat) := by simpa using hy
    rcases this with rfl | rfl <;> exact .int _)).ok (by omega)
theorem eqOk_t0 : eqOk (.tup []) = true := eqOk_tsp []
theorem deq_t0 (xs : List D) : deq (.tup xs) (.tup []) = xs.isEmpty := by
  unfold deq
  cases xs <;> simp [pyD, pyDs, PyData.eqv, PyData.eqvAll]
theorem partD_m1 {xs : List D} {x : D} (h : noOwns (xs ++ [x]) = true) : partD false true [.tup (xs ++ [x]), .int (-1)] = some (.tup xs) := by
  show (if noOwns (xs ++ [x]) = true then some (D.tup (cutD (xs ++ [x]) none (some (-1)))) else none) = _
  rw [if_pos h]
  unfold cutD
  rw [HT.sIx_none]
  have : HT.sIx (xs ++ [x]).length (xs ++ [x]).length (some (-1)) = xs.length := by
    unfold HT.sIx
    simp
    omega
  rw [this]
  simp
def tgA : D → Env → Option Env := tgT 2 (tgCons (tgN 6) (tgCons (tgN 7) (tgNil)))
def bodyA1 : FS := ifF (bT (opF (ltD) [.t (opF lenD [.b 6]), .t (opF subD [.t (opF subD [.t (opF lenD [.b 2]), .b 4]), .t (litF (.int 1))])])) (dropF (mutF 5 appD [.t (tupF [.t (opF addD [.b 6, .t (tupF [.t (opF ixD [.b 2, .b 4])])]), .t (varF 7)])])) (passF)
def bodyA2 : FS := ifF (bT (opF (neD) [.b 6, .t (tupF [])])) (dropF (mutF 5 appD [.t (tupF [.t (opF (partD false true) [.b 6, .t (opF negD [.t (litF (.int 1))])]), .t (opF addD [.b 7, .t (tupF [.t (tupF [.t (opF ixD [.b 6, .t (opF negD [.t (litF (.int 1))])]), .t (opF ixD [.b 2, .b 4])])])])])])) (passF)
def bodyA : FS := seqF bodyA1 bodyA2
theorem A1_ok {R : List Sp} {i : Nat} {r : St Sp} {L : List D} {A0 A1 A3 : Option D} (hi : i < R.length) (hR : R.length ≤ 1000) (hr : r.1.length + r.2.length ≤ 1000) (hL : L.length < 90000) :
    bodyA1 [A0, A1, some (.lst true (R.map spD)), A3, some (.int (i : Nat)), some (.lst true L), some (.tup (r.1.map spD)), some (.tup (r.2.map prD))] = some (.nx [A0, A1, some (.lst true (R.map spD)), A3, some (.int (i : Nat)), some (.lst true (L ++ (one1 (R.getD i (0, 0)) (R.length - i - 1) r).map stD)), some (.tup (r.1.map spD)), some (.tup (r.2.map prD))]) := by
  obtain ⟨w, p⟩ := r
  simp only at hr ⊢
  have l1 : (w.map spD).length = w.length := by simp
  have l2 : (R.map spD).length = R.length := by simp
  by_cases h : w.length < R.length - i - 1
  · have h' : (w.length : Int) < (R.length : Int) - (i : Int) - 1 := by omega
    have x1 : atI (R.map spD) (i : Nat) = some (spD (R.getD i (0, 0))) := atI_mapN hi
    have q1 := noOwns_spDs w
    have q2 := noOwns_prDs p
    have q3 := noOwn_spD (R.getD i (0, 0))
    have a1 : addD [.tup (w.map spD), .tup [spD (R.getD i (0, 0))]] = some (.tup (w.map spD ++ [spD (R.getD i (0, 0))])) := addD_t q1 (by simp) (by simp; omega)
    have e1 : (one1 (R.getD i (0, 0)) (R.length - i - 1) (w, p)).map stD = [.tup [.tup (w.map spD ++ [spD (R.getD i (0, 0))]), .tup (p.map prD)]] := by
      unfold one1
      simp only
      rw [if_pos h]
      simp [stD]
    have a2 := appD_e (xs := L) (.tup [.tup (w.map spD ++ [spD (R.getD i (0, 0))]), .tup (p.map prD)]) (by omega)
    have q4 : noOwns (w.map spD ++ [spD (R.getD i (0, 0))]) = true := by rw [noOwns_append, q1]; simp
    have s1 : decide ((w.map spD ++ [spD (R.getD i (0, 0))]).length ≤ smallL) = true := small_le (by simp; omega)
    rw [e1]
    generalize spD (R.getD i (0, 0)) = S at *
    generalize w.map spD = W at *
    generalize W ++ [S] = W2 at *
    generalize p.map prD = P at *
    generalize R.map spD = RD at *
    unfold bodyA1
    simp [l1, l2, h, h', x1, q1, q2, q3, q4, a1, a2, small_le (n := 1) (by omega), small_le (n := 2) (by omega)]
  · have h' : ¬ (w.length : Int) < (R.length : Int) - (i : Int) - 1 := by omega
    have e1 : (one1 (R.getD i (0, 0)) (R.length - i - 1) (w, p)).map stD = [] := by
      unfold one1
      simp only
      rw [if_neg h]
      rfl
    rw [e1, List.append_nil]
    generalize w.map spD = W at *
    generalize p.map prD = P at *
    generalize R.map spD = RD at *
    unfold bodyA1
    simp [l1, l2, h, h']
theorem A2_ok {R : List Sp} {i : Nat} {r : St Sp} {L : List D} {A0 A1 A3 : Option D} (hi : i < R.length) (hR : R.length ≤ 1000) (hr : r.1.length + r.2.length ≤ 1000) (hL : L.length < 90002) :
    bodyA2 [A0, A1, some (.lst true (R.map spD)), A3, some (.int (i : Nat)), some (.lst true L), some (.tup (r.1.map spD)), some (.tup (r.2.map prD))] = some (.nx [A0, A1, some (.lst true (R.map spD)), A3, some (.int (i : Nat)), some (.lst true (L ++ (one2 (R.getD i (0, 0)) r).map stD)), some (.tup (r.1.map spD)), some (.tup (r.2.map prD))]) := by
  obtain ⟨w, p⟩ := r
  simp only at hr ⊢
  have e1 := eqOk_tsp w
  have e2 := deq_t0 (w.map spD)
  have e3 := eqOk_t0
  rcases List.eq_nil_or_concat w with rfl | ⟨l, x, rfl⟩
  · have e4 : (one2 (R.getD i (0, 0)) (([], p) : St Sp)).map stD = [] := rfl
    have e2' : deq (.tup []) (.tup []) = true := e2
    rw [e4, List.append_nil]
    generalize p.map prD = P at *
    generalize R.map spD = RD at *
    unfold bodyA2
    simp [e3, e2']
  · rw [List.concat_eq_append] at *
    have q1 := noOwns_spDs (l ++ [x])
    have q2 := noOwns_prDs p
    have q3 := noOwn_spD (R.getD i (0, 0))
    have q5 := noOwns_spDs l
    have x1 : atI (R.map spD) (i : Nat) = some (spD (R.getD i (0, 0))) := atI_mapN hi
    have hw : (l ++ [x]).map spD = l.map spD ++ [spD x] := by simp
    have x2 : atI ((l ++ [x]).map spD) (-1) = some (spD x) := by rw [hw]; exact atI_last _ _
    have x3 : partD false true [.tup ((l ++ [x]).map spD), .int (-1)] = some (.tup (l.map spD)) := by
      rw [hw]; exact partD_m1 (by rw [← hw]; exact q1)
    have x4 : ((l ++ [x]).map spD).isEmpty = false := by simp
    rw [x4] at e2
    have pr : prD (x, R.getD i (0, 0)) = .tup [spD x, spD (R.getD i (0, 0))] := rfl
    have a1 : addD [.tup (p.map prD), .tup [.tup [spD x, spD (R.getD i (0, 0))]]] = some (.tup (p.map prD ++ [.tup [spD x, spD (R.getD i (0, 0))]])) := addD_t q2 (by simp) (by simp at hr ⊢; omega)
    have e4 : ∀ a : Sp, (one2 a ((l ++ [x], p) : St Sp)).map stD = [.tup [.tup (l.map spD), .tup (p.map prD ++ [.tup [spD x, spD a]])]] := fun a => by
      have pa : prD (x, a) = .tup [spD x, spD a] := rfl
      unfold one2
      simp [stD, pa]
    have e4 := e4 (R.getD i (0, 0))
    have a2 := appD_e (xs := L) (.tup [.tup (l.map spD), .tup (p.map prD ++ [.tup [spD x, spD (R.getD i (0, 0))]])]) (by omega)
    have q4 : noOwns (p.map prD ++ [.tup [spD x, spD (R.getD i (0, 0))]]) = true := by rw [noOwns_append, q2]; simp
    have qx := noOwn_spD x
    rw [e4]
    clear hw e4 pr
    generalize spD (R.getD i (0, 0)) = S at *
    generalize spD x = SX at *
    generalize (l ++ [x]).map spD = W at *
    generalize l.map spD = W1 at *
    generalize p.map prD = P at *
    generalize P ++ [.tup [SX, S]] = P2 at *
    generalize R.map spD = RD at *
    unfold bodyA2
    simp [e1, e2, e3, x1, x2, x3, q1, q2, q3, q4, q5, qx, a1, a2, small_le (n := 1) (by omega), small_le (n := 2) (by omega), small_le (n := 0) (by omega)]
theorem A_turn {R : List Sp} {i : Nat} {r : St Sp} {L : List D} {A0 A1 A3 A6 A7 : Option D} (hi : i < R.length) (hR : R.length ≤ 1000) (hr : r.1.length + r.2.length ≤ 1000) (hL : L.length < 90000) :
    turn tgA bodyA (stD r) [A0, A1, some (.lst true (R.map spD)), A3, some (.int (i : Nat)), some (.lst true L), A6, A7] = some (.nx [A0, A1, some (.lst true (R.map spD)), A3, some (.int (i : Nat)), some (.lst true (L ++ (one1 (R.getD i (0, 0)) (R.length - i - 1) r ++ one2 (R.getD i (0, 0)) r).map stD)), some (.tup (r.1.map spD)), some (.tup (r.2.map prD))]) := by
  have h1 := A1_ok (A0 := A0) (A1 := A1) (A3 := A3) hi hR hr hL
  have l1 : ((one1 (R.getD i (0, 0)) (R.length - i - 1) r).map stD).length ≤ 1 := by
    rw [List.length_map]; unfold one1; split <;> simp
  have h2 := A2_ok (A0 := A0) (A1 := A1) (A3 := A3) (L := L ++ (one1 (R.getD i (0, 0)) (R.length - i - 1) r).map stD) hi hR hr (by rw [List.length_append]; omega)
  rw [List.append_assoc, ← List.map_append] at h2
  rw [turn_e]
  unfold tgA bodyA stD at *
  generalize (one1 (R.getD i (0, 0)) (R.length - i - 1) r) = O1 at *
  generalize r.1.map spD = W at *
  generalize r.2.map prD = P at *
  generalize R.map spD = RD at *
  simp [h1, h2]
theorem A_loop {R : List Sp} {i : Nat} (hi : i < R.length) (hR : R.length ≤ 14) {A0 A1 A3 A6 A7 : Option D} :
    ∃ B6 B7, goFor tgA bodyA ((runPre (0, 0) R i).map stD) [A0, A1, some (.lst true (R.map spD)), A3, some (.int (i : Nat)), some (.lst true []), A6, A7] = some (.nx [A0, A1, some (.lst true (R.map spD)), A3, some (.int (i : Nat)), some (.lst true ((runPre (0, 0) R (i + 1)).map stD)), B6, B7]) := by
  have hlen : (runPre (0, 0) R i).length ≤ 8192 := Nat.le_trans (runPre_len _ R i) (Nat.le_trans (Nat.pow_le_pow_right (by decide) (show i ≤ 13 by omega)) (by decide))
  obtain ⟨ρ', h1, B6, B7, rfl⟩ := for_inv (tg := tgA) (body := bodyA) (ds := (runPre (0, 0) R i).map stD) (ρ := [A0, A1, some (.lst true (R.map spD)), A3, some (.int (i : Nat)), some (.lst true []), A6, A7])
    (fun j ρ => ∃ B6 B7, ρ = [A0, A1, some (.lst true (R.map spD)), A3, some (.int (i : Nat)), some (.lst true ((((runPre (0, 0) R i).take j).flatMap fun r => one1 (R.getD i (0, 0)) (R.length - i - 1) r ++ one2 (R.getD i (0, 0)) r).map stD)), B6, B7])
    ⟨A6, A7, by simp⟩ (by
      rintro j d ρ hd ⟨B6, B7, rfl⟩
      rw [List.getElem?_map] at hd
      obtain ⟨r, hr, rfl⟩ := Option.map_eq_some_iff.mp hd
      obtain ⟨hj, hrj⟩ := List.getElem?_eq_some_iff.mp hr
      have hin := runPre_in (0, 0) R i (by omega) r (List.mem_of_getElem? hr)
      have hl := flat_len (one_len (R.getD i (0, 0)) (R.length - i - 1)) ((runPre (0, 0) R i).take j)
      have hl2 : ((runPre (0, 0) R i).take j).length ≤ 8192 := by rw [List.length_take]; omega
      have := A_turn (R := R) (i := i) (r := r) (L := (((runPre (0, 0) R i).take j).flatMap fun r => one1 (R.getD i (0, 0)) (R.length - i - 1) r ++ one2 (R.getD i (0, 0)) r).map stD) (A0 := A0) (A1 := A1) (A3 := A3) (A6 := B6) (A7 := B7) hi (by omega) (by have := hin.l; omega) (by rw [List.length_map]; omega)
      refine ⟨_, .inl this, some (.tup (r.1.map spD)), some (.tup (r.2.map prD)), ?_⟩
      rw [List.take_succ_eq_append_getElem hj, List.flatMap_append, hrj, List.map_append]
      simp)
  rw [List.length_map, List.take_length] at h1
  exact ⟨B6, B7, h1⟩
def bodyB : FS := (seqF (asgF (lstF []) (tgN 5)) <|
  seqF (forF (itSeq (varF 3)) tgA bodyA) <|
  asgF (varF 5) (tgN 3))
theorem B_turn {R : List Sp} {i : Nat} (hi : i < R.length) (hR : R.length ≤ 14) {o : Bool} {A0 A1 A4 A5 A6 A7 : Option D} :
    ∃ B5 B6 B7, turn (tgN 4) bodyB (natD i) [A0, A1, some (.lst true (R.map spD)), some (.lst o ((runPre (0, 0) R i).map stD)), A4, A5, A6, A7] = some (.nx [A0, A1, some (.lst true (R.map spD)), some (.lst false ((runPre (0, 0) R (i + 1)).map stD)), some (natD i), B5, B6, B7]) := by
  have hlen : (runPre (0, 0) R i).length ≤ 8192 := Nat.le_trans (runPre_len _ R i) (Nat.le_trans (Nat.pow_le_pow_right (by decide) (show i ≤ 13 by omega)) (by decide))
  obtain ⟨B6, B7, h1⟩ := A_loop (R := R) hi hR (A0 := A0) (A1 := A1) (A3 := some (.lst false ((runPre (0, 0) R i).map stD))) (A6 := A6) (A7 := A7)
  refine ⟨some (.lst false ((runPre (0, 0) R (i + 1)).map stD)), B6, B7, ?_⟩
  have q1 := noOwns_stDs (runPre (0, 0) R i)
  have q2 := noOwns_stDs (runPre (0, 0) R (i + 1))
  have f1 := freezes_of q1
  have f2 := freezes_of q2
  have s1 : decide (((runPre (0, 0) R i).map stD).length ≤ smallL) = true := small_le (by rw [List.length_map]; omega)
  rw [turn_e, natD_i]
  generalize (runPre (0, 0) R (i + 1)).map stD = Y at *
  generalize (runPre (0, 0) R i).map stD = X at *
  generalize R.map spD = RD at *
  unfold bodyB
  cases o <;> simp [h1, q1, q2, f1, f2, s1, small_le (n := 0) (by omega)]
def rowsL (u d : Nat) : List (List Nat) := (allA (ring u d)).map fun ps => madeL u ps (List.replicate (u + d) 0)
theorem all_ok {u d : Nat} (h : u + d ≤ 14) : ∃ o, fn_all.sem [.int (u : Nat), .int (d : Nat)] = some (.lst true ((if u + d = 0 then [] else (rowsL u d).mergeSort rowLe).map (matD u d)), [some (.int (u : Nat)), some (.int (d : Nat))]) ∧ o = () := by
  refine ⟨(), ?_, rfl⟩
  have rg := ring_ok (u := u) (d := d) (by omega) (by omega)
  have p1 : fn_ring.pins = [true, true] := rfl
  have p2 : fn_made.pins = [true, true, true] := rfl
  have rl := ring_len u d
  have e1 := eqOk_lsp true (ring u d)
  have e2 := eqOk_emp true
  have e3 := deq_emp true true ((ring u d).map spD)
  have q1 := noOwns_spDs (ring u d)
  by_cases h0 : u + d = 0
  · rw [if_pos h0]
    have hz : ring u d = [] := List.eq_nil_of_length_eq_zero (by omega)
    rw [hz] at rg e1 e3
    have e3' : deq (.lst true []) (.lst true []) = true := e3
    have rg' : fn_ring.sem [.int (u : Nat), .int (d : Nat)] = some (.lst true [], [some (.int (u : Nat)), some (.int (d : Nat))]) := rg
    unfold fn_all F_all
    rw [bodyFn_sem]
    simp [rg', p1, e2, e3', small_le (n := 0) (by omega), small_le (n := 1) (by omega), small_le (n := 2) (by omega)]
  · rw [if_neg h0]
    have z : ((ring u d).map spD).isEmpty = false := by
      cases hr : ring u d with
      | nil => rw [hr] at rl; simp at rl; omega
      | cons a b => rfl
    rw [z] at e3
    obtain ⟨ρ', h1, o, A4, A5, A6, A7, rfl⟩ := for_inv (tg := tgN 4) (body := bodyB) (ds := (List.range (u + d)).map natD) (ρ := [some (.int (u : Nat)), some (.int (d : Nat)), some (.lst true ((ring u d).map spD)), some (.lst true [.tup [.tup [], .tup []]]), none, none, none, none])
      (fun i ρ => ∃ o A4 A5 A6 A7, ρ = [some (.int (u : Nat)), some (.int (d : Nat)), some (.lst true ((ring u d).map spD)), some (.lst o ((runPre (0, 0) (ring u d) i).map stD)), A4, A5, A6, A7])
      ⟨true, none, none, none, none, rfl⟩ (by
        rintro i d' ρ hd ⟨o, A4, A5, A6, A7, rfl⟩
        rw [List.getElem?_map] at hd
        obtain ⟨i', hi', rfl⟩ := Option.map_eq_some_iff.mp hd
        obtain ⟨hi, hii⟩ := List.getElem?_eq_some_iff.mp hi'
        rw [List.length_range] at hi
        obtain rfl : i' = i := by simpa using hii.symm
        obtain ⟨B5, B6, B7, e⟩ := B_turn (R := ring u d) (i := i') (by omega) (by omega) (o := o) (A0 := some (.int (u : Nat))) (A1 := some (.int (d : Nat))) (A4 := A4) (A5 := A5) (A6 := A6) (A7 := A7)
        exact ⟨_, .inl e, false, _, _, _, _, rfl⟩)
    rw [List.length_map, List.length_range] at h1
    have hlen : (runPre (0, 0) (ring u d) (u + d)).length ≤ 16384 := Nat.le_trans (runPre_len _ _ _) (Nat.le_trans (Nat.pow_le_pow_right (by decide) h) (by decide))
    have lc : goLc [6, 7] tgA (bT (opF (eqD) [.b 6, .t (tupF [])])) (callF fn_made [.b 0, .b 1, .b 7]) ((runPre (0, 0) (ring u d) (u + d)).map stD) [some (.int (u : Nat)), some (.int (d : Nat)), some (.lst true ((ring u d).map spD)), some (.lst false ((runPre (0, 0) (ring u d) (u + d)).map stD)), A4, A5, none, none]
        = some ((((runPre (0, 0) (ring u d) (u + d)).filter fun r => r.1.isEmpty).map fun r => matD u d (madeL u r.2 (List.replicate (u + d) 0))), [some (.int (u : Nat)), some (.int (d : Nat)), some (.lst true ((ring u d).map spD)), some (.lst false ((runPre (0, 0) (ring u d) (u + d)).map stD)), A4, A5, none, none]) := by
      refine goLc_filt stD (fun r => matD u d (madeL u r.2 (List.replicate (u + d) 0))) (fun r => r.1.isEmpty) _ fun r hr => ?_
      have hin := runPre_in (0, 0) (ring u d) (u + d) (by omega) r hr
      obtain ⟨w, p⟩ := r
      have f1 := eqOk_tsp w
      have f2 := deq_t0 (w.map spD)
      have f3 := eqOk_t0
      have mk := made_okT (u := u) (d := d) (ps := p) (by omega) hin.p (by have := hin.l; simp at this; omega)
      have qw := noOwns_spDs w
      have qp := noOwns_prDs p
      have qm := noOwn_matD u d (madeL u p (List.replicate (u + d) 0))
      have ew : (w.map spD).isEmpty = w.isEmpty := by cases w <;> rfl
      rw [ew] at f2
      rw [lcTurnF_e]
      unfold stD tgA
      simp only
      generalize matD u d (madeL u p (List.replicate (u + d) 0)) = MM at *
      generalize (runPre (0, 0) (ring u d) (u + d)).map stD = RR at *
      generalize (ring u d).map spD = RD at *
      generalize p.map prD = P at *
      generalize w.map spD = W at *
      cases hb : w.isEmpty with
      | true =>
        rw [hb] at f2
        simp [f1, f2, f3, mk, qw, qp, qm, p2]
      | false =>
        rw [hb] at f2
        simp [f1, f2, f3, mk, qw, qp, qm, p2]
    have le : (((runPre (0, 0) (ring u d) (u + d)).filter fun r => r.1.isEmpty).map fun r => matD u d (madeL u r.2 (List.replicate (u + d) 0))) = (rowsL u d).map (matD u d) := by
      unfold rowsL
      rw [allA_pre (0, 0) (ring u d), rl]
      unfold shutA
      rw [List.map_map, List.map_map]
      rfl
    have lfin : ((rowsL u d).map (matD u d)).length ≤ 16384 := by
      rw [← le, List.length_map]
      exact Nat.le_trans (List.length_filter_le _ _) hlen
    rw [le] at lc
    have sd := sorted_ok u d true (rowsL u d)
    have r1 := rng1_nat (u := u + d) (by omega)
    rw [Int.natCast_add] at r1
    have lr : ((ring u d).map spD).length = u + d := by simp [rl]
    have q2 := noOwns_stDs (runPre (0, 0) (ring u d) (u + d))
    have f2 := freezes_of q2
    have q3 : noOwns ((rowsL u d).map (matD u d)) = true := noOwns_map (noOwn_matD u d) _
    have q4 : noOwns (((rowsL u d).mergeSort rowLe).map (matD u d)) = true := noOwns_map (noOwn_matD u d) _
    have s1 : decide (((rowsL u d).map (matD u d)).length ≤ smallL) = true := small_le (by omega)
    have s2 : decide (((runPre (0, 0) (ring u d) (u + d)).map stD).length ≤ smallL) = true := small_le (by rw [List.length_map]; omega)
    unfold bodyB bodyA bodyA1 bodyA2 tgA at h1
    unfold tgA at lc
    unfold fn_all F_all
    rw [bodyFn_sem]
    generalize ((rowsL u d).mergeSort rowLe).map (matD u d) = S2 at *
    generalize (rowsL u d).map (matD u d) = S1 at *
    generalize (runPre (0, 0) (ring u d) (u + d)).map stD = RR at *
    generalize (ring u d).map spD = RD at *
    generalize (List.range (u + d)).map natD = N at *
    cases o <;> simp [rg, p1, e1, e2, e3, q1, h1, lc, sd, r1, lr, q2, f2, q3, q4, s1, s2, small_le (n := 0) (by omega), small_le (n := 1) (by omega), small_le (n := 2) (by omega)]
theorem goWhile_succ (c : FB) (body : FS) (n : Nat) (ρ : Env) : goWhile c body (n + 1) ρ = (c ρ).bind fun p => if p.1 = true then (body p.2).bind fun o => match o with
    | .nx ρ2 => goWhile c body n ρ2
    | .ct ρ2 => goWhile c body n ρ2
    | .bk ρ2 => some (.nx ρ2)
    | .rt d ρ2 => some (.rt d ρ2)
    | .rz n d ρ2 => some (.rz n d ρ2) else some (.nx p.2) := rfl
def rowT (r : List Nat) : D := .tup (r.map natD)
@[simp] theorem noOwn_rowT (r : List Nat) : noOwn (rowT r) = true := by simp [rowT]
theorem noOwns_rowTs (t : List (List Nat)) : noOwns (t.map rowT) = true := noOwns_map noOwn_rowT t
def rowsD (t : List (List Nat)) : D := .lst false (t.map rowT)
@[simp] theorem noOwn_rowsD (t : List (List Nat)) : noOwn (rowsD t) = true := by simp [rowsD, noOwns_rowTs]
def hdL (f : Nat) (w : List Nat) : List Nat := f :: (w.map (· + 1) ++ [0])
theorem hdL_cmb {f inner : Nat} (hf : f = 2 * inner + 1) (w b : List Nat) : hdL f w ++ b.map (· + f + 1) = cmb inner w b := by subst hf; simp [hdL, cmb]
def bodyBe : FS := dropF (mutF 3 appD [.t (opF tupleD [.t (opF addD [.b 7, .t (lcF [9] (itSeq (varF 8)) (tgN 9) (yesF) (opF addD [.t (opF addD [.b 9, .b 5]), .t (litF (.int 1))]))])])])
theorem Be_turn {hd b : List Nat} {f : Nat} {L : List D} {A0 A1 A2 A4 A6 A8 A9 : Option D} (h1 : hd.length + b.length ≤ 1000) (h2 : L.length < 95000) :
    turn (tgN 8) bodyBe (rowT b) [A0, A1, A2, some (.lst true L), A4, some (.int (f : Nat)), A6, some (.lst true (hd.map natD)), A8, A9] = some (.nx [A0, A1, A2, some (.lst true (L ++ [rowT (hd ++ b.map (· + f + 1))])), A4, some (.int (f : Nat)), A6, some (.lst true (hd.map natD)), some (rowT b), none]) := by
  have lc : goLc [9] (tgN 9) yesF (opF addD [.t (opF addD [.b 9, .b 5]), .t (litF (.int 1))]) (b.map natD) [A0, A1, A2, some (.lst true L), A4, some (.int (f : Nat)), A6, some (.lst true (hd.map natD)), some (rowT b), none] = some ((b.map (· + f + 1)).map natD, [A0, A1, A2, some (.lst true L), A4, some (.int (f : Nat)), A6, some (.lst true (hd.map natD)), some (rowT b), none]) := by
    rw [List.map_map]
    refine goLc_mapI natD _ _ fun x hx => ?_
    rw [lcTurn_e, natD_i]
    show _ = some (D.int ((x + f + 1 : Nat) : Int), _)
    simp
  have q1 := noOwns_natDs hd
  have q2 := noOwns_natDs (b.map (· + f + 1))
  have q3 := noOwns_natDs b
  have a1 : addD [.lst true (hd.map natD), .lst true ((b.map (· + f + 1)).map natD)] = some (.lst true ((hd ++ b.map (· + f + 1)).map natD)) := by
    rw [addD_l q1 q2 (by simp only [List.length_map]; omega), List.map_append]
  have q4 := noOwns_natDs (hd ++ b.map (· + f + 1))
  have t1 : tupleD [.lst true ((hd ++ b.map (· + f + 1)).map natD)] = some (rowT (hd ++ b.map (· + f + 1))) := tupleD_l q4
  have a2 := appD_e (xs := L) (rowT (hd ++ b.map (· + f + 1))) (by omega)
  have q5 := noOwn_rowT (hd ++ b.map (· + f + 1))
  have s1 : decide (((b.map (· + f + 1)).map natD).length ≤ smallL) = true := small_le (by simp only [List.length_map]; omega)
  have s2 : decide ((b.map natD).length ≤ smallL) = true := small_le (by simp only [List.length_map]; omega)
  have s3 : decide (((hd ++ b.map (· + f + 1)).map natD).length ≤ smallL) = true := small_le (by simp only [List.length_map, List.length_append]; omega)
  have fz := freezes_natDs b
  unfold rowT at lc ⊢ a2 t1 q5
  rw [turn_e]
  generalize (hd ++ b.map (· + f + 1)).map natD = Z at *
  generalize (b.map (· + f + 1)).map natD = Y at *
  generalize hd.map natD = H at *
  generalize b.map natD = B at *
  unfold bodyBe
  simp [lc, q1, q2, q3, q4, q5, a1, a2, t1, s1, s2, s3, fz]
theorem Be_loop {hd : List Nat} {f : Nat} {bs : List (List Nat)} {L : List D} {A0 A1 A2 A4 A6 A8 A9 : Option D} (h1 : ∀ b ∈ bs, hd.length + b.length ≤ 1000) (h2 : L.length + bs.length < 95000) :
    ∃ B8 B9, goFor (tgN 8) bodyBe (bs.map rowT) [A0, A1, A2, some (.lst true L), A4, some (.int (f : Nat)), A6, some (.lst true (hd.map natD)), A8, A9] = some (.nx [A0, A1, A2, some (.lst true (L ++ bs.map fun b => rowT (hd ++ b.map (· + f + 1)))), A4, some (.int (f : Nat)), A6, some (.lst true (hd.map natD)), B8, B9]) := by
  obtain ⟨ρ', g1, B8, B9, rfl⟩ := for_inv (tg := tgN 8) (body := bodyBe) (ds := bs.map rowT) (ρ := [A0, A1, A2, some (.lst true L), A4, some (.int (f : Nat)), A6, some (.lst true (hd.map natD)), A8, A9])
    (fun i ρ => ∃ B8 B9, ρ = [A0, A1, A2, some (.lst true (L ++ (bs.take i).map fun b => rowT (hd ++ b.map (· + f + 1)))), A4, some (.int (f : Nat)), A6, some (.lst true (hd.map natD)), B8, B9])
    ⟨A8, A9, by simp⟩ (by
      rintro i d ρ hd' ⟨B8, B9, rfl⟩
      rw [List.getElem?_map] at hd'
      obtain ⟨b, hb, rfl⟩ := Option.map_eq_some_iff.mp hd'
      obtain ⟨hi, hbi⟩ := List.getElem?_eq_some_iff.mp hb
      refine ⟨_, .inl (Be_turn (h1 b (List.mem_of_getElem? hb)) (by rw [List.length_append, List.length_map, List.length_take]; omega)), some (rowT b), none, ?_⟩
      rw [List.take_succ_eq_append_getElem hi, List.map_append, hbi, List.append_assoc]
      rfl)
  rw [List.length_map, List.take_length] at g1
  exact ⟨B8, B9, g1⟩
def bodyWi : FS := seqF (asgF (opF addD [.t (opF addD [.t (lstF [.t (varF 5)]), .t (lcF [9] (itSeq (varF 6)) (tgN 9) (yesF) (opF addD [.b 9, .t (litF (.int 1))]))]), .t (lstF [.t (litF (.int 0))])]) (tgN 7)) <|
  forF (itSeq (opF ixD [.b 1, .t (opF subD [.t (opF subD [.b 2, .t (litF (.int 1))]), .b 4])])) (tgN 8) bodyBe
theorem Wi_turn {tab : List (List (List Nat))} {m inner f : Nat} {w : List Nat} {bs : List (List Nat)} {L : List D} {A0 A6 A7 A8 A9 : Option D} (hf : f = 2 * inner + 1) (hm : m = tab.length) (hi : inner < m) (hb : bs = tab.getD (m - 1 - inner) []) (hw : w.length ≤ 100) (h1 : ∀ b ∈ bs, b.length ≤ 100) (h2 : L.length + bs.length < 95000) (h3 : bs.length ≤ 90000) :
    ∃ B7 B8 B9, turn (tgN 6) bodyWi (rowT w) [A0, some (.lst true (tab.map rowsD)), some (.int (m : Nat)), some (.lst true L), some (.int (inner : Nat)), some (.int (f : Nat)), A6, A7, A8, A9] = some (.nx [A0, some (.lst true (tab.map rowsD)), some (.int (m : Nat)), some (.lst true (L ++ bs.map fun b => rowT (cmb inner w b))), some (.int (inner : Nat)), some (.int (f : Nat)), some (rowT w), B7, B8, B9]) := by
  have lh : (hdL f w).length = w.length + 2 := by simp [hdL]
  obtain ⟨B8, B9, g1⟩ := Be_loop (hd := hdL f w) (f := f) (bs := bs) (L := L) (A0 := A0) (A1 := some (.lst true (tab.map rowsD))) (A2 := some (.int (m : Nat))) (A4 := some (.int (inner : Nat))) (A6 := some (rowT w)) (A8 := A8) (A9 := none) (fun b hb => by have := h1 b hb; omega) h2
  refine ⟨some (.lst true ((hdL f w).map natD)), B8, B9, ?_⟩
  have eb : (bs.map fun b => rowT (hdL f w ++ b.map (· + f + 1))) = bs.map fun b => rowT (cmb inner w b) := by
    apply List.map_congr_left
    intro b _
    rw [hdL_cmb hf]
  rw [eb] at g1
  have lc : ∀ A7 : Option D, goLc [9] (tgN 9) yesF (opF addD [.b 9, .t (litF (.int 1))]) (w.map natD) [A0, some (.lst true (tab.map rowsD)), some (.int (m : Nat)), some (.lst true L), some (.int (inner : Nat)), some (.int (f : Nat)), some (rowT w), A7, A8, none] = some ((w.map (· + 1)).map natD, [A0, some (.lst true (tab.map rowsD)), some (.int (m : Nat)), some (.lst true L), some (.int (inner : Nat)), some (.int (f : Nat)), some (rowT w), A7, A8, none]) := fun A7 => by
    rw [List.map_map]
    refine goLc_mapI natD _ _ fun x hx => ?_
    rw [lcTurn_e, natD_i]
    show _ = some (D.int ((x + 1 : Nat) : Int), _)
    simp
  have q2 := noOwns_natDs (w.map (· + 1))
  have q3 := noOwns_natDs w
  have a1 : addD [.lst true [.int (f : Nat)], .lst true ((w.map (· + 1)).map natD)] = some (.lst true (.int (f : Nat) :: (w.map (· + 1)).map natD)) := by
    rw [addD_l (by simp) q2 (by simp only [List.length_map, List.length_cons, List.length_nil]; omega)]; rfl
  have a2 : addD [.lst true (.int (f : Nat) :: (w.map (· + 1)).map natD), .lst true [.int 0]] = some (.lst true ((hdL f w).map natD)) := by
    rw [addD_l (by rw [noOwns_cons, q2]; simp) (by simp) (by simp only [List.length_map, List.length_cons, List.length_nil]; omega)]
    unfold hdL
    rw [List.map_cons, List.map_append]
    rfl
  have x1 : atI (tab.map rowsD) ((m - 1 - inner : Nat) : Int) = some (rowsD bs) := by rw [hb]; exact atI_mapN (by omega)
  have e1 : ((m - 1 - inner : Nat) : Int) = (m : Int) - 1 - (inner : Int) := by omega
  rw [e1] at x1
  have q4 := noOwns_rowTs bs
  have f4 := freezes_of q4
  have s1 : decide (((w.map (· + 1)).map natD).length ≤ smallL) = true := small_le (by simp only [List.length_map]; omega)
  have s2 : decide ((w.map natD).length ≤ smallL) = true := small_le (by simp only [List.length_map]; omega)
  have s3 : decide ((bs.map rowT).length ≤ smallL) = true := small_le (by simp only [List.length_map]; omega)
  have fz := freezes_natDs w
  have xr : rowsD bs = .lst false (bs.map rowT) := rfl
  rw [xr] at x1
  generalize tab.map rowsD = TD at *
  generalize (bs.map fun b => rowT (cmb inner w b)) = NB at *
  generalize bs.map rowT = BS at *
  unfold rowT at lc g1 ⊢
  rw [turn_e]
  generalize (hdL f w).map natD = H at *
  generalize (w.map (· + 1)).map natD = Y at *
  generalize w.map natD = W at *
  unfold bodyWi
  simp [lc, q2, q3, q4, f4, a1, a2, s1, s2, s3, fz, x1, g1, small_le (n := 1) (by omega)]
theorem take_flat {α β : Type} (f : α → List β) (xs : List α) (j : Nat) : ((xs.take j).flatMap f).length ≤ (xs.flatMap f).length := by
  conv => rhs; rw [← List.take_append_drop j xs, List.flatMap_append, List.length_append]
  omega
theorem Wi_loop {tab : List (List (List Nat))} {m inner f : Nat} {ws bs : List (List Nat)} {L : List D} {A0 A6 A7 A8 A9 : Option D} (hf : f = 2 * inner + 1) (hm : m = tab.length) (hi : inner < m) (hb : bs = tab.getD (m - 1 - inner) []) (hw : ∀ w ∈ ws, w.length ≤ 100) (h1 : ∀ b ∈ bs, b.length ≤ 100) (h2 : L.length + (ws.flatMap fun w => bs.map fun b => cmb inner w b).length < 95000) (h3 : bs.length ≤ 90000) :
    ∃ B6 B7 B8 B9, goFor (tgN 6) bodyWi (ws.map rowT) [A0, some (.lst true (tab.map rowsD)), some (.int (m : Nat)), some (.lst true L), some (.int (inner : Nat)), some (.int (f : Nat)), A6, A7, A8, A9] = some (.nx [A0, some (.lst true (tab.map rowsD)), some (.int (m : Nat)), some (.lst true (L ++ (ws.flatMap fun w => bs.map fun b => cmb inner w b).map rowT)), some (.int (inner : Nat)), some (.int (f : Nat)), B6, B7, B8, B9]) := by
  obtain ⟨ρ', g1, B6, B7, B8, B9, rfl⟩ := for_inv (tg := tgN 6) (body := bodyWi) (ds := ws.map rowT) (ρ := [A0, some (.lst true (tab.map rowsD)), some (.int (m : Nat)), some (.lst true L), some (.int (inner : Nat)), some (.int (f : Nat)), A6, A7, A8, A9])
    (fun i ρ => ∃ B6 B7 B8 B9, ρ = [A0, some (.lst true (tab.map rowsD)), some (.int (m : Nat)), some (.lst true (L ++ ((ws.take i).flatMap fun w => bs.map fun b => cmb inner w b).map rowT)), some (.int (inner : Nat)), some (.int (f : Nat)), B6, B7, B8, B9])
    ⟨A6, A7, A8, A9, by simp⟩ (by
      rintro i d ρ hd ⟨B6, B7, B8, B9, rfl⟩
      rw [List.getElem?_map] at hd
      obtain ⟨w, hwi, rfl⟩ := Option.map_eq_some_iff.mp hd
      obtain ⟨hi2, hbi⟩ := List.getElem?_eq_some_iff.mp hwi
      have hl := take_flat (fun w => bs.map fun b => cmb inner w b) ws (i + 1)
      rw [List.take_succ_eq_append_getElem hi2, List.flatMap_append, List.length_append, hbi] at hl
      simp only [List.flatMap_cons, List.flatMap_nil, List.append_nil, List.length_map] at hl
      obtain ⟨C7, C8, C9, e⟩ := Wi_turn (tab := tab) (w := w) (bs := bs) (L := L ++ ((ws.take i).flatMap fun w => bs.map fun b => cmb inner w b).map rowT) (A0 := A0) (A6 := B6) (A7 := B7) (A8 := B8) (A9 := B9) hf hm hi hb (hw w (List.mem_of_getElem? hwi)) h1 (by rw [List.length_append, List.length_map]; omega) h3
      refine ⟨_, .inl e, some (rowT w), C7, C8, C9, ?_⟩
      rw [List.take_succ_eq_append_getElem hi2, List.flatMap_append, List.map_append, hbi, List.append_assoc]
      simp [List.map_map, Function.comp_def])
  rw [List.length_map, List.take_length] at g1
  exact ⟨B6, B7, B8, B9, g1⟩
def bodyI : FS := (seqF (asgF (opF addD [.t (opF mulD [.t (litF (.int 2)), .b 4]), .t (litF (.int 1))]) (tgN 5)) <|
  forF (itSeq (opF ixD [.b 1, .b 4])) (tgN 6) bodyWi)
def nx1 (tab : List (List (List Nat))) (inner : Nat) : List (List Nat) := (tab.getD inner []).flatMap fun w => (tab.getD (tab.length - 1 - inner) []).map fun b => cmb inner w b
theorem nxt_e (tab : List (List (List Nat))) : nxt tab = (List.range tab.length).flatMap (nx1 tab) := rfl
structure TabOk (tab : List (List (List Nat))) : Prop where
  l : tab.length ≤ 100
  r : ∀ t ∈ tab, t.length ≤ 1000 ∧ ∀ w ∈ t, w.length ≤ 100
  n : (nxt tab).length ≤ 1000
theorem I_loop {tab : List (List (List Nat))} (h : TabOk tab) {A0 A4 A5 A6 A7 A8 A9 : Option D} :
    ∃ B4 B5 B6 B7 B8 B9, goFor (tgN 4) bodyI ((List.range tab.length).map natD) [A0, some (.lst true (tab.map rowsD)), some (.int (tab.length : Nat)), some (.lst true []), A4, A5, A6, A7, A8, A9] = some (.nx [A0, some (.lst true (tab.map rowsD)), some (.int (tab.length : Nat)), some (.lst true ((nxt tab).map rowT)), B4, B5, B6, B7, B8, B9]) := by
  obtain ⟨ρ', g1, B4, B5, B6, B7, B8, B9, rfl⟩ := for_inv (tg := tgN 4) (body := bodyI) (ds := (List.range tab.length).map natD) (ρ := [A0, some (.lst true (tab.map rowsD)), some (.int (tab.length : Nat)), some (.lst true []), A4, A5, A6, A7, A8, A9])
    (fun i ρ => ∃ B4 B5 B6 B7 B8 B9, ρ = [A0, some (.lst true (tab.map rowsD)), some (.int (tab.length : Nat)), some (.lst true (((List.range i).flatMap (nx1 tab)).map rowT)), B4, B5, B6, B7, B8, B9])
    ⟨A4, A5, A6, A7, A8, A9, by simp⟩ (by
      rintro i d ρ hd ⟨B4, B5, B6, B7, B8, B9, rfl⟩
      rw [List.getElem?_map] at hd
      obtain ⟨i', hi', rfl⟩ := Option.map_eq_some_iff.mp hd
      obtain ⟨hi, hii⟩ := List.getElem?_eq_some_iff.mp hi'
      rw [List.length_range] at hi
      obtain rfl : i' = i := by simpa using hii.symm
      obtain ⟨ws, hws⟩ : ∃ ws, ws = tab.getD i' [] := ⟨_, rfl⟩
      obtain ⟨bs, hbs⟩ : ∃ bs, bs = tab.getD (tab.length - 1 - i') [] := ⟨_, rfl⟩
      have mem : ∀ j, j < tab.length → tab.getD j [] ∈ tab := fun j hj => by
        rw [List.getD_eq_getElem?_getD, List.getElem?_eq_getElem hj]
        exact List.getElem_mem _
      have rw1 := h.r ws (hws ▸ mem i' hi)
      have rb1 := h.r bs (hbs ▸ mem _ (by omega))
      have hl := take_flat (nx1 tab) (List.range tab.length) (i' + 1)
      rw [List.take_range, Nat.min_eq_left (by omega), ← nxt_e, List.range_succ, List.flatMap_append, List.length_append] at hl
      have en : nx1 tab i' = ws.flatMap fun w => bs.map fun b => cmb i' w b := by unfold nx1; rw [← hws, ← hbs]
      simp only [List.flatMap_cons, List.flatMap_nil, List.append_nil] at hl
      rw [en] at hl
      have hn := h.n
      obtain ⟨f, hf⟩ : ∃ f, f = 2 * i' + 1 := ⟨_, rfl⟩
      have hfi : 2 * (i' : Int) + 1 = (f : Int) := by omega
      obtain ⟨C6, C7, C8, C9, e⟩ := Wi_loop (tab := tab) (f := f) (m := tab.length) (inner := i') (ws := ws) (bs := bs) (L := ((List.range i').flatMap (nx1 tab)).map rowT) (A0 := A0) (A6 := B6) (A7 := B7) (A8 := B8) (A9 := B9) hf rfl hi hbs rw1.2 rb1.2 (by rw [List.length_map]; omega) (by have := rb1.1; omega)
      refine ⟨_, .inl ?_, some (natD i'), some (.int (f : Nat)), C6, C7, C8, C9, rfl⟩
      have x1 : atI (tab.map rowsD) (i' : Nat) = some (rowsD ws) := by rw [hws]; exact atI_mapN hi
      have q4 := noOwns_rowTs ws
      have f4 := freezes_of q4
      have s3 : decide ((ws.map rowT).length ≤ smallL) = true := small_le (by rw [List.length_map]; have := rw1.1; omega)
      have mk : mulOk 2 (i' : Nat) = true := mulOk_l (by omega) (by omega)
      have er : ((List.range (i' + 1)).flatMap (nx1 tab)).map rowT = ((List.range i').flatMap (nx1 tab)).map rowT ++ (ws.flatMap fun w => bs.map fun b => cmb i' w b).map rowT := by
        rw [List.range_succ, List.flatMap_append, List.map_append, ← en]
        simp
      rw [er]
      have xr : rowsD ws = .lst false (ws.map rowT) := rfl
      rw [xr] at x1
      rw [turn_e, natD_i]
      generalize ((List.range i').flatMap (nx1 tab)).map rowT = L1 at *
      generalize (ws.flatMap fun w => bs.map fun b => cmb i' w b).map rowT = L2' at *
      generalize ws.map rowT = WS at *
      generalize tab.map rowsD = TD at *
      unfold bodyI
      simp [x1, q4, f4, s3, mk, hfi, e])
  rw [List.length_map, List.length_range] at g1
  exact ⟨B4, B5, B6, B7, B8, B9, by rw [nxt_e]; exact g1⟩
def condW : FB := (bT (opF (leD) [.t (opF lenD [.b 1]), .b 0]))
def bodyW : FS := (seqF (asgF (opF lenD [.b 1]) (tgN 2)) <|
  seqF (asgF (lstF []) (tgN 3)) <|
  seqF (forF (itRg rng1D [.b 2]) (tgN 4) bodyI) <|
  dropF (mutF 1 appD [.t (varF 3)]))
theorem W_step {tab : List (List (List Nat))} (h : TabOk tab) {A0 A2 A3 A4 A5 A6 A7 A8 A9 : Option D} :
    ∃ B2 B3 B4 B5 B6 B7 B8 B9, bodyW [A0, some (.lst true (tab.map rowsD)), A2, A3, A4, A5, A6, A7, A8, A9] = some (.nx [A0, some (.lst true ((tab ++ [nxt tab]).map rowsD)), B2, B3, B4, B5, B6, B7, B8, B9]) := by
  obtain ⟨B4, B5, B6, B7, B8, B9, g1⟩ := I_loop h (A0 := A0) (A4 := A4) (A5 := A5) (A6 := A6) (A7 := A7) (A8 := A8) (A9 := A9)
  have hl := h.l
  refine ⟨some (.int (tab.length : Nat)), some (rowsD (nxt tab)), B4, B5, B6, B7, B8, B9, ?_⟩
  have q4 := noOwns_rowTs (nxt tab)
  have f4 := freezes_of q4
  have a1 := appD_e (xs := tab.map rowsD) (rowsD (nxt tab)) (by rw [List.length_map]; omega)
  have r1 := rng1_nat (u := tab.length) (by omega)
  have l1 : (tab.map rowsD).length = tab.length := by simp
  rw [List.map_append]
  have q5 : noOwns (tab.map rowsD) = true := noOwns_map noOwn_rowsD tab
  have e2 : [nxt tab].map rowsD = [rowsD (nxt tab)] := rfl
  rw [e2]
  have er : rowsD (nxt tab) = .lst false ((nxt tab).map rowT) := rfl
  rw [er] at a1 ⊢
  clear er e2
  generalize (nxt tab).map rowT = NT at *
  generalize (List.range tab.length).map natD = RG at *
  generalize tab.map rowsD = TD at *
  unfold bodyW
  simp [g1, q4, f4, a1, r1, l1, small_le (n := 0) (by omega)]
theorem tabN_get : ∀ k i, i ≤ k → (tabN k).getD i [] = pat i
  | 0, i, h => by obtain rfl : i = 0 := by omega
                  rfl
  | k + 1, i, h => by
    by_cases hi : i ≤ k
    · rw [← tabN_get k i hi, tabN]
      have := tabN_len k
      simp only [List.getD_eq_getElem?_getD]
      rw [List.getElem?_append_left (by omega)]
    · obtain rfl : i = k + 1 := by omega
      rfl
theorem nxt_pat (k : Nat) : nxt (tabN k) = pat (k + 1) := by
  unfold pat
  rw [tabN]
  have := tabN_len k
  simp only [List.getD_eq_getElem?_getD]
  rw [List.getElem?_append_right (by omega), this]
  simp
theorem okT_e {h : Nat} (hh : h < 8) : (rowsP (2 * h)).Perm (pat h) ∧ (∀ ps ∈ allA (ring (2 * h) 0), (ends ps).Perm (ring (2 * h) 0)) ∧ (pat h).length = catN h ∧ allA (ring (2 * h + 1) 0) = [] ∧ ∀ r ∈ pat h, r.length = 2 * h ∧ ∀ j ∈ r, j < 2 * h := by
  have := okT_all h hh
  unfold okT at this
  simp only [Bool.and_eq_true, List.all_eq_true, beq_iff_eq, decide_eq_true_eq, List.isPerm_iff, List.isEmpty_iff] at this
  obtain ⟨⟨⟨⟨a, b⟩, c⟩, d⟩, e⟩ := this
  exact ⟨a, b, c, d, e⟩
theorem catN_small7 : ∀ h, h < 8 → catN h ≤ 429 := by decide
theorem tabN_ok {k : Nat} (h : k < 7) : TabOk (tabN k) := by
  refine ⟨by rw [tabN_len]; omega, fun t ht => ?_, ?_⟩
  · obtain ⟨i, hi, rfl⟩ := List.getElem_of_mem ht
    have hi2 : i ≤ k := by rw [tabN_len] at hi; omega
    have e : (tabN k)[i] = pat i := by
      rw [← tabN_get k i hi2]
      simp [List.getD_eq_getElem?_getD, List.getElem?_eq_getElem hi]
    obtain ⟨_, _, c, _, r⟩ := okT_e (h := i) (by omega)
    rw [e]
    have := catN_small7 i (by omega)
    exact ⟨by omega, fun w hw => by have := (r w hw).1; omega⟩
  · rw [nxt_pat]
    obtain ⟨_, _, c, _, r⟩ := okT_e (h := k + 1) (by omega)
    have := catN_small7 (k + 1) (by omega)
    omega
theorem wh_t {c : FB} {b : FS} {n : Nat} {ρ ρ1 ρ2 : Env} (h1 : c ρ = some (true, ρ1)) (h2 : b ρ1 = some (.nx ρ2)) : goWhile c b (n + 1) ρ = goWhile c b n ρ2 := by
  rw [goWhile_succ, h1]
  simp only [Option.bind_some, if_true, h2]
theorem wh_f {c : FB} {b : FS} {n : Nat} {ρ ρ1 : Env} (h1 : c ρ = some (false, ρ1)) : goWhile c b (n + 1) ρ = some (.nx ρ1) := by
  rw [goWhile_succ, h1]
  simp only [Option.bind_some, Bool.false_eq_true, if_false]
theorem condW_f {k h : Nat} {TD : List D} {A2 A3 A4 A5 A6 A7 A8 A9 : Option D} (l1 : TD.length = k + 1) (hk : h < k + 1) : condW [some (.int (h : Nat)), some (.lst true TD), A2, A3, A4, A5, A6, A7, A8, A9] = some (false, [some (.int (h : Nat)), some (.lst true TD), A2, A3, A4, A5, A6, A7, A8, A9]) := by
  unfold condW
  have c1 : ¬ ((k : Int) + 1 ≤ (h : Int)) := by omega
  simp [l1, c1]
theorem condW_t {k h : Nat} {TD : List D} {A2 A3 A4 A5 A6 A7 A8 A9 : Option D} (l1 : TD.length = k + 1) (hk : k + 1 ≤ h) : condW [some (.int (h : Nat)), some (.lst true TD), A2, A3, A4, A5, A6, A7, A8, A9] = some (true, [some (.int (h : Nat)), some (.lst true TD), A2, A3, A4, A5, A6, A7, A8, A9]) := by
  unfold condW
  have c1 : ((k : Int) + 1 ≤ (h : Int)) := by omega
  simp [l1, c1]
theorem W_loop {h : Nat} (f : Nat → List D) (hl : ∀ k, (f k).length = k + 1) (hs : ∀ k, k < h → ∀ A2 A3 A4 A5 A6 A7 A8 A9 : Option D, ∃ B2 B3 B4 B5 B6 B7 B8 B9, bodyW [some (.int (h : Nat)), some (.lst true (f k)), A2, A3, A4, A5, A6, A7, A8, A9] = some (.nx [some (.int (h : Nat)), some (.lst true (f (k + 1))), B2, B3, B4, B5, B6, B7, B8, B9])) (n : Nat) : ∀ (k F : Nat) (A2 A3 A4 A5 A6 A7 A8 A9 : Option D), k + n = h → n < F →
    ∃ B2 B3 B4 B5 B6 B7 B8 B9, goWhile condW bodyW F [some (.int (h : Nat)), some (.lst true (f k)), A2, A3, A4, A5, A6, A7, A8, A9] = some (.nx [some (.int (h : Nat)), some (.lst true (f h)), B2, B3, B4, B5, B6, B7, B8, B9]) := by
  induction n with
  | zero =>
    intro k F A2 A3 A4 A5 A6 A7 A8 A9 hk hF
    obtain ⟨F, rfl⟩ : ∃ G, F = G + 1 := ⟨F - 1, by omega⟩
    obtain rfl : k = h := by omega
    exact ⟨A2, A3, A4, A5, A6, A7, A8, A9, wh_f (condW_f (hl k) (by omega))⟩
  | succ n ih =>
    intro k F A2 A3 A4 A5 A6 A7 A8 A9 hk hF
    obtain ⟨F, rfl⟩ : ∃ G, F = G + 1 := ⟨F - 1, by omega⟩
    obtain ⟨B2, B3, B4, B5, B6, B7, B8, B9, e⟩ := hs k (by omega) A2 A3 A4 A5 A6 A7 A8 A9
    obtain ⟨C2, C3, C4, C5, C6, C7, C8, C9, ih⟩ := ih (k + 1) F B2 B3 B4 B5 B6 B7 B8 B9 (by omega) (by omega)
    exact ⟨C2, C3, C4, C5, C6, C7, C8, C9, (wh_t (condW_t (hl k) (by omega)) e).trans ih⟩
theorem patterns_ok {h : Nat} (hh : h < 8) : fn_p_patterns.sem [.int (h : Nat)] = some (rowsD (pat h), [some (.int (h : Nat))]) := by
  obtain ⟨TDf, hT⟩ : ∃ f : Nat → List D, ∀ k, f k = (tabN k).map rowsD := ⟨_, fun _ => rfl⟩
  obtain ⟨B2, B3, B4, B5, B6, B7, B8, B9, e⟩ := W_loop (h := h) TDf (fun k => by rw [hT, List.length_map, tabN_len]) (fun k hk A2 A3 A4 A5 A6 A7 A8 A9 => by
    rw [hT, hT, tabN]
    exact W_step (tabN_ok (by omega))) h 0 FUEL none none none none none none none none (by omega) (by show h < 1000000; omega)
  rw [hT, hT] at e
  have e0 : (tabN 0).map rowsD = [.lst false [.tup []]] := rfl
  rw [e0] at e
  have x1 : atI ((tabN h).map rowsD) (h : Nat) = some (rowsD (pat h)) := by
    rw [← tabN_get h h (Nat.le_refl _)]
    exact atI_mapN (by rw [tabN_len]; omega)
  have q1 := noOwn_rowsD (pat h)
  have fz0 : freeze (D.tup []) = .tup [] := freeze_of (by simp)
  unfold condW bodyW bodyI bodyWi bodyBe at e
  unfold fn_p_patterns F_p_patterns
  rw [bodyFn_sem]
  generalize rowsD (pat h) = PD at *
  generalize (tabN h).map rowsD = TD at *
  simp [e, x1, q1, fz0, small_le (n := 1) (by omega), small_le (n := 0) (by omega)]
/-! the numbers -/
def cbin (h : Nat) : Nat := ch (2 * h) h
def manyN (T : Nat) : Nat := if T = 0 ∨ T % 2 = 1 then 0 else catN (T / 2)
def bodyCc : FS := (ifF (bT (opF (ltD) [.b 2, .t (litF (.int 0))])) (neverF) (passF))
theorem counts_p {n m : Nat} : fn_p_check_counts.sem [.int (n : Nat), .int (m : Nat)] = some (.non, [some (.int (n : Nat)), some (.int (m : Nat))]) := by
  obtain ⟨ρ', h1, a, rfl⟩ := for_inv (tg := tgN 2) (body := bodyCc) (ds := [.int (n : Nat), .int (m : Nat)]) (ρ := [some (.int (n : Nat)), some (.int (m : Nat)), none])
    (fun _ ρ => ∃ a, ρ = [some (.int (n : Nat)), some (.int (m : Nat)), a]) ⟨none, rfl⟩ (by
      rintro i d ρ hd ⟨a, rfl⟩
      obtain ⟨k, rfl⟩ : ∃ k : Nat, d = .int (k : Nat) := by
        have := List.mem_of_getElem? hd
        have : d = .int (n : Nat) ∨ d = .int (m : Nat) := by simpa using this
        rcases this with rfl | rfl
        · exact ⟨n, rfl⟩
        · exact ⟨m, rfl⟩
      have c1 : ¬ ((k : Int) < 0) := by omega
      refine ⟨[some (.int (n : Nat)), some (.int (m : Nat)), some (.int (k : Nat))], .inl ?_, _, rfl⟩
      rw [turn_e]
      unfold bodyCc
      simp [c1])
  have f1 : ∀ i : Int, freeze (.int i) = .int i := fun i => freeze_of (by simp)
  unfold bodyCc at h1
  unfold fn_p_check_counts F_p_check_counts
  rw [bodyFn_sem]
  simp [h1, f1, small_le (n := 2) (by omega)]
theorem mod2 (T : Nat) : (T : Int).fmod 2 = ((T % 2 : Nat) : Int) := by
  rw [Int.fmod_eq_emod_of_nonneg _ (by omega)]; omega
theorem div2 (T : Nat) : (T : Int).fdiv 2 = ((T / 2 : Nat) : Int) := fdivN T 2
def bodyHv : FS := (asgF (opF fdivD [.t (opF mulD [.b 1, .t (opF addD [.t (opF mulD [.t (litF (.int 4)), .b 2]), .t (litF (.int 2))])]), .t (opF addD [.b 2, .t (litF (.int 2))])]) (tgN 1))
/-! all mats -/
def phi (n m : Nat) (s : Sp) : Sp := (ring n m).getD s.2 (0, 0)
theorem ring_phi (n m : Nat) : (ring (n + m) 0).map (phi n m) = ring n m := by
  have rl := ring_len n m
  have : ring (n + m) 0 = (List.range (n + m)).map fun i => (0, i) := by simp [ring]
  rw [this, List.map_map]
  refine List.ext_getElem (by simp [rl]) fun i h1 h2 => ?_
  simp only [List.getElem_map, List.getElem_range, Function.comp_apply, phi]
  simp [List.getD_eq_getElem?_getD, List.getElem?_eq_getElem h2]
theorem allA_phi (n m : Nat) : allA (ring n m) = (allA (ring (n + m) 0)).map fun ps => ps.map fun p => (phi n m p.1, phi n m p.2) := by
  conv => lhs; rw [← ring_phi n m]
  exact allA_map (phi n m) (ring (n + m) 0)
theorem ends_map {α β : Type} (φ : α → β) (ps : List (α × α)) : ends (ps.map fun p => (φ p.1, φ p.2)) = (ends ps).map φ := by
  induction ps with
  | nil => rfl
  | cons p ps ih =>
    show φ p.1 :: φ p.2 :: ends (ps.map fun p => (φ p.1, φ p.2)) = _
    rw [ih]; rfl
theorem roundL_len (n m : Nat) : (roundL n m).length = n + m := by rw [← ring_idx, List.length_map, ring_len]
theorem roundL_phi {n m i : Nat} (h : i < n + m) : (roundL n m).getD i 0 = idx n ((ring n m).getD i (0, 0)) := by
  have rl := ring_len n m
  rw [← ring_idx]
  simp [List.getD_eq_getElem?_getD, List.getElem?_map, List.getElem?_eq_getElem (show i < (ring n m).length by omega)]
theorem rem_ok {n m : Nat} {row : List Nat} (hl : n + m ≤ 14) (hr : row.length = n + m) (hrow : ∀ j ∈ row, j < n + m) :
    ∃ new, fn_p_remade.sem [.int (n : Nat), .int (m : Nat), rowT row, .lst true ((roundL n m).map natD)] = some (matD n m new, [some (.int (n : Nat)), some (.int (m : Nat)), some (rowT row), some (.lst true ((roundL n m).map natD))]) ∧ ∀ ps : List (Sp × Sp), (ends ps).Perm (ring (n + m) 0) → row = madeL (n + m) ps (List.replicate (n + m + 0) 0) → new = madeL n (ps.map fun p => (phi n m p.1, phi n m p.2)) (List.replicate (n + m) 0) := by
  have nd := roundL_nodup n m
  have lr := roundL_len n m
  obtain ⟨new, os, e1, rfl, h1, h2⟩ := remade_ok (n := n) (m := m) (row := row) (placeL := roundL n m) hr lr (by omega) (fun i j e => hrow j (List.mem_of_getElem? e))
    (fun i hi => by
      have : (roundL n m).getD i 0 ∈ roundL n m := by
        rw [List.getD_eq_getElem?_getD, List.getElem?_eq_getElem (by omega)]
        exact List.getElem_mem _
      exact mem_roundL.mp this)
    (fun i j hi hj e => by
      rw [List.getD_eq_getElem?_getD, List.getD_eq_getElem?_getD, List.getElem?_eq_getElem (by omega), List.getElem?_eq_getElem (by omega)] at e
      exact (List.getElem_inj nd).mp (by simpa using e))
  refine ⟨new, e1, fun ps hp er => ?_⟩
  have r0 : Row (n + m) 0 ps row := by rw [er]; exact madeL_row hp
  have r1 : Row n m (ps.map fun p => (phi n m p.1, phi n m p.2)) new := Row.remade (place := fun i => (roundL n m).getD i 0) (φ := phi n m) r0 hp h1 h2 fun s hs => by
    obtain ⟨i, hi, rfl⟩ : ∃ i, i < n + m ∧ s = (0, i) := by
      have : ring (n + m) 0 = (List.range (n + m)).map fun i => (0, i) := by simp [ring]
      rw [this] at hs
      obtain ⟨i, hi, rfl⟩ := List.mem_map.mp hs
      exact ⟨i, List.mem_range.mp hi, rfl⟩
    have e : idx (n + m) (0, i) = i := by simp [idx]
    show (roundL n m).getD (idx (n + m) (0, i)) 0 = _
    rw [e, roundL_phi hi]
    rfl
  have hp2 : (ends (ps.map fun p => (phi n m p.1, phi n m p.2))).Perm (ring n m) := by
    rw [ends_map, ← ring_phi n m]
    exact hp.map _
  exact Row.uniq r1 (madeL_row hp2) hp2
theorem all_mats_ok {u d : Nat} (h : u + d ≤ 14) : fn_p_all_mats.sem [.int (u : Nat), .int (d : Nat)] = some (.lst true ((if u + d = 0 then [] else (rowsL u d).mergeSort rowLe).map (matD u d)), [some (.int (u : Nat)), some (.int (d : Nat))]) ∧ (if u + d = 0 then [] else (rowsL u d).mergeSort rowLe).length = manyN (u + d) := by
  have ck := counts_p (n := u) (m := d)
  have p1 : fn_p_check_counts.pins = [true, true] := rfl
  have f2 : fdivOk 2 = true := rfl
  have eT : (u : Int) + (d : Int) = ((u + d : Nat) : Int) := by omega
  have e1 := div2 (u + d)
  have e2 := mod2 (u + d)
  by_cases h0 : u + d = 0
  · rw [if_pos h0]
    refine ⟨?_, by rw [h0]; rfl⟩
    have eT0 : (u : Int) + (d : Int) = 0 := by omega
    unfold fn_p_all_mats F_p_all_mats
    rw [bodyFn_sem]
    simp [ck, p1, eT0, small_le (n := 0) (by omega)]
  · rw [if_neg h0]
    have h0' : ¬ (((u + d : Nat) : Int) = 0) := by omega
    by_cases h1 : (u + d) % 2 = 1
    · have hz : rowsL u d = [] := by
        unfold rowsL
        rw [allA_phi]
        obtain ⟨_, _, _, z, _⟩ := okT_e (h := (u + d) / 2) (by omega)
        rw [show 2 * ((u + d) / 2) + 1 = u + d by omega] at z
        rw [z]; rfl
      rw [hz, List.mergeSort_nil]
      refine ⟨?_, by unfold manyN; rw [if_pos (.inr h1)]; rfl⟩
      rw [h1] at e2
      have e2' : ((u + d : Nat) : Int).fmod 2 = 1 := e2
      unfold fn_p_all_mats F_p_all_mats
      rw [bodyFn_sem]
      rw [← eT] at h0' e2'
      simp [ck, p1, h0', e2', small_le (n := 0) (by omega)]
    · obtain ⟨hh, hhh⟩ : ∃ hh, hh = (u + d) / 2 := ⟨_, rfl⟩
      have h2 : 2 * hh = u + d := by omega
      obtain ⟨pm, pe, pl, _, pr⟩ := okT_e (h := hh) (by omega)
      rw [h2] at pm pe pr
      obtain ⟨F, hF⟩ := Classical.axiomOfChoice (r := fun (row new : List Nat) => row ∈ pat hh → fn_p_remade.sem [.int (u : Nat), .int (d : Nat), rowT row, .lst true ((roundL u d).map natD)] = some (matD u d new, [some (.int (u : Nat)), some (.int (d : Nat)), some (rowT row), some (.lst true ((roundL u d).map natD))]) ∧ ∀ ps : List (Sp × Sp), (ends ps).Perm (ring (u + d) 0) → row = madeL (u + d) ps (List.replicate (u + d + 0) 0) → new = madeL u (ps.map fun p => (phi u d p.1, phi u d p.2)) (List.replicate (u + d) 0)) (fun row => by
        by_cases hm : row ∈ pat hh
        · obtain ⟨new, g⟩ := rem_ok (n := u) (m := d) (row := row) h (pr row hm).1 (pr row hm).2
          exact ⟨new, fun _ => g⟩
        · exact ⟨[], fun z => absurd z hm⟩)
      have perm : ((pat hh).map F).Perm (rowsL u d) := by
        have e : rowsL u d = (rowsP (u + d)).map F := by
          unfold rowsL rowsP
          rw [allA_phi, List.map_map, List.map_map]
          apply List.map_congr_left
          intro ps hps
          have hm : madeL (u + d) ps (List.replicate (u + d + 0) 0) ∈ pat hh := pm.mem_iff.mp (List.mem_map_of_mem hps)
          exact ((hF _ hm).2 ps (pe ps hps) rfl).symm
        rw [e]
        exact (pm.map F).symm
      have pt := patterns_ok (h := hh) (by omega)
      have rd := round_ok (n := u) (m := d) (by omega) (by omega)
      have p2 : fn_p_round_of.pins = [true, true] := rfl
      have p3 : fn_p_patterns.pins = [true] := rfl
      have p4 : fn_p_remade.pins = [true, true, true, true] := rfl
      have lc : goLc [3] (tgN 3) yesF (callF fn_p_remade [.b 0, .b 1, .b 3, .b 2]) ((pat hh).map rowT) [some (.int (u : Nat)), some (.int (d : Nat)), some (.lst true ((roundL u d).map natD)), none] = some (((pat hh).map F).map (matD u d), [some (.int (u : Nat)), some (.int (d : Nat)), some (.lst true ((roundL u d).map natD)), none]) := by
        rw [List.map_map]
        refine goLc_mapI rowT _ _ fun row hrow => ?_
        have e := (hF row hrow).1
        have q1 := noOwn_rowT row
        have q2 := noOwn_matD u d (F row)
        rw [lcTurn_e]
        show _ = some (matD u d (F row), _)
        generalize matD u d (F row) = MM at *
        generalize rowT row = RT at *
        generalize (roundL u d).map natD = RL at *
        simp [e, p4, q1, q2]
      have sd := sorted_ok u d true ((pat hh).map F)
      rw [sort_perm perm] at sd
      have cs := catN_small7 hh (by omega)
      refine ⟨?_, ?_⟩
      · rw [show (u + d) % 2 = 0 by omega] at e2
        have e2' : ((u + d : Nat) : Int).fmod 2 = 0 := e2
        rw [← hhh] at e1
        have q3 := noOwns_rowTs (pat hh)
        have f3 := freezes_of q3
        have s1 : decide (((pat hh).map rowT).length ≤ smallL) = true := small_le (by rw [List.length_map]; omega)
        have s2 : decide ((((pat hh).map F).map (matD u d)).length ≤ smallL) = true := small_le (by rw [List.length_map, List.length_map]; omega)
        have q4 : noOwns (((pat hh).map F).map (matD u d)) = true := noOwns_map (noOwn_matD u d) _
        have q5 : noOwns (((rowsL u d).mergeSort rowLe).map (matD u d)) = true := noOwns_map (noOwn_matD u d) _
        have er : rowsD (pat hh) = .lst false ((pat hh).map rowT) := rfl
        rw [er] at pt
        rw [← eT] at h0' e2' e1
        unfold fn_p_all_mats F_p_all_mats
        rw [bodyFn_sem]
        generalize ((rowsL u d).mergeSort rowLe).map (matD u d) = S2 at *
        generalize ((pat hh).map F).map (matD u d) = S1 at *
        generalize (pat hh).map rowT = PP at *
        generalize (roundL u d).map natD = RL at *
        simp [ck, p1, p2, p3, f2, h0', e1, e2', pt, rd, lc, sd, q3, f3, q4, q5, s1, s2]
      · rw [(List.mergeSort_perm _ _).length_eq, ← perm.length_eq, List.length_map, pl]
        unfold manyN
        rw [if_neg (by omega), ← hhh]
/-! rows told once each -/
def ltL : List Nat → List Nat → Bool
  | [], [] => false
  | [], _ :: _ => true
  | _ :: _, [] => false
  | a :: r, b :: s => decide (a < b) || (decide (a = b) && ltL r s)
theorem ltL_irr : ∀ r, ltL r r = false
  | [] => rfl
  | a :: r => by simp [ltL, ltL_irr r]
theorem ltL_trans : ∀ {r s t : List Nat}, ltL r s = true → ltL s t = true → ltL r t = true
  | [], [], _, h, _ => by cases h
  | [], _ :: _, [], _, h => by cases h
  | [], _ :: _, _ :: _, _, _ => rfl
  | _ :: _, [], _, h, _ => by cases h
  | _ :: _, _ :: _, [], _, h => by cases h
  | a :: r, b :: s, c :: t, h, k => by
    simp only [ltL, Bool.or_eq_true, Bool.and_eq_true, decide_eq_true_eq] at h k ⊢
    rcases h with h | ⟨h, h'⟩ <;> rcases k with k | ⟨k, k'⟩
    · exact .inl (by omega)
    · exact .inl (by omega)
    · exact .inl (by omega)
    · exact .inr ⟨by omega, ltL_trans h' k'⟩
def chL : List (List Nat) → Bool
  | a :: b :: r => ltL a b && chL (b :: r)
  | _ => true
theorem chL_pw : ∀ {xs : List (List Nat)}, chL xs = true → xs.Pairwise fun a b => ltL a b = true
  | [], _ => .nil
  | [a], _ => List.pairwise_singleton _ _
  | a :: b :: r, h => by
    simp only [chL, Bool.and_eq_true] at h
    have ih := chL_pw h.2
    refine List.pairwise_cons.mpr ⟨fun c hc => ?_, ih⟩
    rcases List.mem_cons.mp hc with rfl | hc
    · exact h.1
    · exact ltL_trans h.1 ((List.pairwise_cons.mp ih).1 c hc)
theorem pat_ch : ∀ h, h < 8 → chL (pat h) = true := by decide +kernel
theorem pat_nodup {h : Nat} (hh : h < 8) : (pat h).Nodup := (chL_pw (pat_ch h hh)).imp fun q e => by rw [e, ltL_irr] at q; cases q
theorem rowsP_nodup {h : Nat} (hh : h < 8) : (rowsP (2 * h)).Nodup := (okT_e hh).1.nodup_iff.mpr (pat_nodup hh)
theorem row_same {u d u' d' : Nat} {φ : Nat × Nat → Nat × Nat} {ps qs : List ((Nat × Nat) × (Nat × Nat))} {r1 r2 new : List Nat} (hp : (ends ps).Perm (ring u d)) (hq : (ends qs).Perm (ring u d)) (h1 : Row u d ps r1) (h2 : Row u d qs r2)
    (inj : ∀ a ∈ ring u d, ∀ b ∈ ring u d, idx u' (φ a) = idx u' (φ b) → a = b) (k1 : Row u' d' (ps.map fun p => (φ p.1, φ p.2)) new) (k2 : Row u' d' (qs.map fun p => (φ p.1, φ p.2)) new) : r1 = r2 := by
  have key : ∀ p ∈ ps, r2[idx u p.1]? = some (idx u p.2) ∧ r2[idx u p.2]? = some (idx u p.1) := fun p hm => by
    have m1 : p.1 ∈ ring u d := hp.mem_iff.mp (mem_ends.mpr ⟨p, hm, .inl rfl⟩)
    have m2 : p.2 ∈ ring u d := hp.mem_iff.mp (mem_ends.mpr ⟨p, hm, .inr rfl⟩)
    obtain ⟨a1, a2⟩ := k1.at_ _ (List.mem_map_of_mem (f := fun p : (Nat × Nat) × (Nat × Nat) => (φ p.1, φ p.2)) hm)
    have one : ∀ a b : Nat × Nat, a ∈ ring u d → b ∈ ring u d → new[idx u' (φ a)]? = some (idx u' (φ b)) → r2[idx u a]? = some (idx u b) := fun a b ha hb e => by
      obtain ⟨q, hqm, hqa⟩ := mem_ends.mp (hq.mem_iff.mpr ha)
      have n1 : q.1 ∈ ring u d := hq.mem_iff.mp (mem_ends.mpr ⟨q, hqm, .inl rfl⟩)
      have n2 : q.2 ∈ ring u d := hq.mem_iff.mp (mem_ends.mpr ⟨q, hqm, .inr rfl⟩)
      obtain ⟨b1, b2⟩ := k2.at_ _ (List.mem_map_of_mem (f := fun p : (Nat × Nat) × (Nat × Nat) => (φ p.1, φ p.2)) hqm)
      obtain ⟨c1, c2⟩ := h2.at_ q hqm
      rcases hqa with rfl | rfl
      · have := inj _ hb _ n2 (Option.some.inj (e.symm.trans b1))
        rw [this]; exact c1
      · have := inj _ hb _ n1 (Option.some.inj (e.symm.trans b2))
        rw [this]; exact c2
    exact ⟨one _ _ m1 m2 a1, one _ _ m2 m1 a2⟩
  exact h1.uniq ⟨h2.len, key⟩ hp
theorem phi_ring {n m : Nat} {s : Nat × Nat} (h : s ∈ ring (n + m) 0) : ∃ i, i < n + m ∧ s = (0, i) := by
  have : ring (n + m) 0 = (List.range (n + m)).map fun i => (0, i) := by simp [ring]
  rw [this] at h
  obtain ⟨i, hi, rfl⟩ := List.mem_map.mp h
  exact ⟨i, List.mem_range.mp hi, rfl⟩
theorem phi_inj {n m : Nat} : ∀ a ∈ ring (n + m) 0, ∀ b ∈ ring (n + m) 0, idx n (phi n m a) = idx n (phi n m b) → a = b := fun a ha b hb e => by
  obtain ⟨i, hi, rfl⟩ := phi_ring ha
  obtain ⟨j, hj, rfl⟩ := phi_ring hb
  have e1 : idx n (phi n m (0, i)) = (roundL n m).getD i 0 := (roundL_phi hi).symm
  have e2 : idx n (phi n m (0, j)) = (roundL n m).getD j 0 := (roundL_phi hj).symm
  rw [e1, e2] at e
  have lr := roundL_len n m
  rw [List.getD_eq_getElem?_getD, List.getD_eq_getElem?_getD, List.getElem?_eq_getElem (by omega), List.getElem?_eq_getElem (by omega)] at e
  have := (List.getElem_inj (roundL_nodup n m)).mp (by simpa using e)
  rw [this]
theorem nodup_mapIn {α β : Type} {f : α → β} : ∀ {xs : List α}, xs.Nodup → (∀ a ∈ xs, ∀ b ∈ xs, f a = f b → a = b) → (xs.map f).Nodup
  | [], _, _ => .nil
  | x :: xs, h, k => by
    obtain ⟨h1, h2⟩ := List.nodup_cons.mp h
    refine List.nodup_cons.mpr ⟨fun hm => ?_, nodup_mapIn h2 fun a ha b hb => k a (List.mem_cons_of_mem _ ha) b (List.mem_cons_of_mem _ hb)⟩
    obtain ⟨y, hy, e⟩ := List.mem_map.mp hm
    have := k y (List.mem_cons_of_mem _ hy) x List.mem_cons_self e
    rw [this] at hy
    exact h1 hy
theorem nodup_of_mapIn {α β : Type} {f : α → β} {xs : List α} (h : (xs.map f).Nodup) : ∀ a ∈ xs, ∀ b ∈ xs, f a = f b → a = b := fun a ha b hb e => map_inj h ha hb e
theorem rowsL_nodup {u d : Nat} (h : u + d ≤ 14) : (rowsL u d).Nodup := by
  by_cases h1 : (u + d) % 2 = 1
  · have hz : rowsL u d = [] := by
      unfold rowsL
      rw [allA_phi]
      obtain ⟨_, _, _, z, _⟩ := okT_e (h := (u + d) / 2) (by omega)
      rw [show 2 * ((u + d) / 2) + 1 = u + d by omega] at z
      rw [z]; rfl
    rw [hz]; exact .nil
  · obtain ⟨hh, hhh⟩ : ∃ hh, hh = (u + d) / 2 := ⟨_, rfl⟩
    have h2 : 2 * hh = u + d := by omega
    obtain ⟨pm, pe, pl, _, pr⟩ := okT_e (h := hh) (by omega)
    have nd := rowsP_nodup (h := hh) (by omega)
    rw [h2] at pm pe pr nd
    have nd2 : (allA (ring (u + d) 0)).Nodup := nodup_of_map nd
    unfold rowsL
    rw [allA_phi, List.map_map]
    refine nodup_mapIn nd2 fun a ha b hb e => ?_
    refine nodup_of_mapIn nd a ha b hb ?_
    have pa := pe a ha
    have pb := pe b hb
    have pm1 : ∀ c, (ends c).Perm (ring (u + d) 0) → (ends (c.map fun p => (phi u d p.1, phi u d p.2))).Perm (ring u d) := fun c hc => by
      rw [ends_map, ← ring_phi u d]
      exact hc.map _
    refine row_same (u := u + d) (d := 0) (u' := u) (d' := d) (φ := phi u d) (ps := a) (qs := b) pa pb (madeL_row pa) (madeL_row pb) phi_inj (madeL_row (pm1 a pa)) ?_
    have e' : madeL u (a.map fun p => (phi u d p.1, phi u d p.2)) (List.replicate (u + d) 0) = madeL u (b.map fun p => (phi u d p.1, phi u d p.2)) (List.replicate (u + d) 0) := e
    rw [e']
    exact madeL_row (pm1 b pb)
def allL (u d : Nat) : List (List Nat) := if u + d = 0 then [] else (rowsL u d).mergeSort rowLe
theorem allL_nodup {u d : Nat} (h : u + d ≤ 14) : (allL u d).Nodup := by
  unfold allL
  split
  · exact .nil
  · exact (List.mergeSort_perm _ _).nodup_iff.mpr (rowsL_nodup h)
theorem eqB_mat (n m : Nat) (r : List Nat) : EqB 2 (matD n m r) := by
  refine .tup (k := 1) fun x hx => ?_
  simp only [List.mem_cons, List.not_mem_nil, or_false] at hx
  rcases hx with rfl | rfl | rfl
  · exact .int _
  · exact .int _
  · exact .tup (eqB_nats r)
theorem eqOk_mat (n m : Nat) (r : List Nat) : eqOk (matD n m r) = true := (eqB_mat n m r).ok (by omega)
theorem eqOk_mats (o : Bool) (n m : Nat) (rs : List (List Nat)) : eqOk (.lst o (rs.map (matD n m))) = true := (EqB.lst (k := 2) fun x hx => by
  obtain ⟨r, _, rfl⟩ := List.mem_map.mp hx
  exact eqB_mat n m r).ok (by omega)
theorem deq_mat (n m : Nat) (r s : List Nat) : deq (matD n m r) (matD n m s) = decide (r = s) := by
  unfold deq
  rw [pyD_mat, pyD_mat]
  unfold matP
  by_cases h : r = s
  · subst h
    simp only [decide_true]
    have key : ∀ l : List Int, PyData.eqvAll (l.map PyData.int) (l.map PyData.int) = true := fun l => by
      induction l with
      | nil => rfl
      | cons x l ih => simp [PyData.eqvAll, PyData.eqv, ih]
    simp [PyData.eqv, PyData.eqvAll, key]
  · have : PyData.eqvAll ((toI r).map PyData.int) ((toI s).map PyData.int) = false := by
      cases h2 : PyData.eqvAll ((toI r).map PyData.int) ((toI s).map PyData.int) with
      | false => rfl
      | true => exact absurd (toI_inj (eqvAll_ints _ _ h2)) h
    simp [PyData.eqv, PyData.eqvAll, this, h]
theorem find_nodup {xs : List (List Nat)} (h : xs.Nodup) {i : Nat} (hi : i < xs.length) (n m : Nat) : (xs.map (matD n m)).findIdx? (fun z => deq z (matD n m (xs.getD i []))) = some i := by
  have e : xs.getD i [] = xs[i] := by simp [List.getD_eq_getElem?_getD, List.getElem?_eq_getElem hi]
  rw [e]
  refine List.findIdx?_eq_some_iff_getElem.mpr ⟨by simpa using hi, ?_, fun j hj => ?_⟩
  · simp [deq_mat]
  · rw [List.getElem_map, deq_mat]
    simp only [decide_eq_true_eq]
    intro q
    have := (List.getElem_inj h).mp q
    omega
theorem mats_ok {u d : Nat} (h : u + d ≤ 14) : fn_p_all_mats.sem [.int (u : Nat), .int (d : Nat)] = some (.lst true ((allL u d).map (matD u d)), [some (.int (u : Nat)), some (.int (d : Nat))]) := (all_mats_ok h).1
def Stands {α : Type} (P : List α) (r : St α) : Prop := ∀ Q qs, NCP (r.1 ++ Q) qs → NCP (P ++ Q) (r.2 ++ qs)
theorem runPre_st {α : Type} (z : α) (R : List α) : ∀ i, i ≤ R.length → ∀ r ∈ runPre z R i, Stands (R.take i) r
  | 0, _, r, h => by
    have : r = ([], []) := by simpa [runPre] using h
    subst this
    intro Q qs h
    simpa using h
  | i + 1, hi, r, h => by
    rw [runPre, stepA_one] at h
    obtain ⟨q, hq, h⟩ := List.mem_flatMap.mp h
    have ih := runPre_st z R i (by omega) q hq
    have et : R.take (i + 1) = R.take i ++ [R.getD i z] := by
      rw [List.take_succ, List.getElem?_eq_getElem (by omega)]
      simp [List.getD_eq_getElem?_getD, List.getElem?_eq_getElem (show i < R.length by omega)]
    rcases List.mem_append.mp h with h | h
    · unfold one1 at h
      split at h
      · obtain rfl : r = _ := by simpa using h
        intro Q qs hn
        rw [et, List.append_assoc]
        exact ih _ qs (by simpa using hn)
      · cases h
    · unfold one2 at h
      split at h
      · rename_i x hx
        obtain rfl : r = _ := by simpa using h
        intro Q qs hn
        rw [et, List.append_assoc]
        have e : q.1 = q.1.dropLast ++ [x] := by
          obtain ⟨hne, hl⟩ := List.getLast?_eq_some_iff.mp hx |>.elim fun ys e => (⟨by rw [e]; simp, by rw [e]; simp⟩ : q.1 ≠ [] ∧ q.1.getLast? = some x)
          obtain ⟨ys, e⟩ := List.getLast?_eq_some_iff.mp hx
          rw [e]; simp
        have := ih ([R.getD i z] ++ Q) ((x, R.getD i z) :: qs) (by
          rw [e, List.append_assoc]
          exact NCP.cons (l := q.1.dropLast) (r := Q) hn)
        simpa using this
      · cases h
theorem allA_ncp {α : Type} (z : α) {R : List α} : ∀ ps ∈ allA R, NCP R ps := fun ps hp => by
  rw [allA_pre z R] at hp
  unfold shutA at hp
  obtain ⟨r, hr, rfl⟩ := List.mem_map.mp hp
  obtain ⟨h1, h2⟩ := List.mem_filter.mp hr
  have := runPre_st z R R.length (Nat.le_refl _) r h1 [] [] (by rw [List.isEmpty_iff.mp h2]; exact .nil)
  simpa using this
theorem mem_rowsL {u d : Nat} {row : List Nat} (h : row ∈ rowsL u d) : ∃ ps, NCP (ring u d) ps ∧ row = M u d ps := by
  unfold rowsL at h
  obtain ⟨ps, hp, rfl⟩ := List.mem_map.mp h
  exact ⟨ps, allA_ncp (0, 0) ps hp, rfl⟩
theorem mem_allL {u d : Nat} {row : List Nat} (h : row ∈ allL u d) : 0 < u + d ∧ ∃ ps, NCP (ring u d) ps ∧ row = M u d ps := by
  unfold allL at h
  split at h
  · cases h
  · exact ⟨by omega, mem_rowsL ((List.mergeSort_perm _ _).mem_iff.mp h)⟩
theorem allL_mat {u d : Nat} {row : List Nat} (h : row ∈ allL u d) : IsMat u d row := by
  obtain ⟨h0, ps, hc, rfl⟩ := mem_allL h
  exact M_mat hc h0
theorem getD_mem' {u d i : Nat} (hi : i < (allL u d).length) : (allL u d).getD i [] ∈ allL u d := by
  rw [List.getD_eq_getElem?_getD, List.getElem?_eq_getElem hi]
  exact List.getElem_mem _
theorem rank_ok {u d i : Nat} (h : u + d ≤ 14) (hi : i < (allL u d).length) : fn_p_rank.sem [matD u d ((allL u d).getD i [])] = some (.int (i : Nat), [some (matD u d ((allL u d).getD i []))]) := by
  have h1 := mats_ok h
  have ck := checked_ok (allL_mat (getD_mem' hi)) (by omega)
  have p1 : fn_p_all_mats.pins = [true, true] := rfl
  have p2 : fn_p_checked_mat.pins = [true] := rfl
  have ho : noOwns ((allL u d).map (matD u d)) = true := noOwns_map (fun r => noOwn_matD u d r) _
  have om := noOwn_matD u d ((allL u d).getD i [])
  have hix := indexD_e (eqOk_mat u d ((allL u d).getD i [])) (eqOk_mats true u d (allL u d)) (find_nodup (allL_nodup h) hi u d)
  have e0 : matD u d ((allL u d).getD i []) = .tup [.int (u : Nat), .int (d : Nat), .tup (((allL u d).getD i []).map natD)] := rfl
  rw [e0] at hix om ck ⊢
  have oN := noOwns_natDs ((allL u d).getD i [])
  obtain ⟨A, hA⟩ : ∃ A, A = (allL u d).map (matD u d) := ⟨_, rfl⟩
  rw [← hA] at h1 ho hix
  obtain ⟨B, hB⟩ : ∃ A, A = ((allL u d).getD i []).map natD := ⟨_, rfl⟩
  rw [← hB] at hix om ck oN ⊢
  clear hA hB e0
  unfold fn_p_rank F_p_rank
  rw [bodyFn_sem]
  simp [h1, ck, p1, p2, ho, oN, hix]
theorem range_getDS {α : Type} (xs : List α) (z : α) : (List.range xs.length).map (fun i => xs.getD i z) = xs := by
  refine List.ext_getElem (by simp) fun i h1 h2 => ?_
  simp [List.getD_eq_getElem?_getD, List.getElem?_eq_getElem h2]
/-! pairs of whole numbers, sorted -/
def spLe (a b : Nat × Nat) : Bool := rowLe [a.1, a.2] [b.1, b.2]
theorem spD_m (a : Nat × Nat) : spD a = .tup ([a.1, a.2].map natD) := rfl
theorem pyD_sp (a : Nat × Nat) : pyD (spD a) = .tuple ((toI [a.1, a.2]).map PyData.int) := by
  rw [spD_m]
  simp only [pyD, pyDs_nats]
theorem le_sp (a b : Nat × Nat) : PySem.W.dataLe false pyD (spD a) (spD b) = spLe a b := by
  show (!PySem.W.dataLt (pyD (spD b)) (pyD (spD a))) = _
  have hl : PySem.W.dataLt (.tuple ((toI [b.1, b.2]).map PyData.int)) (.tuple ((toI [a.1, a.2]).map PyData.int)) = decide (toI [b.1, b.2] < toI [a.1, a.2]) := by
    rw [PySem.W.dataLt_tuple]; exact PySem.W.dataLt_ints _ _
  rw [pyD_sp, pyD_sp, hl]
  unfold spLe rowLe
  by_cases h : toI [b.1, b.2] < toI [a.1, a.2]
  · have h' : ¬ toI [a.1, a.2] ≤ toI [b.1, b.2] := fun q => List.not_lt.mpr q h
    simp [h, h']
  · have h' : toI [a.1, a.2] ≤ toI [b.1, b.2] := List.not_lt.mp h
    simp [h, h']
theorem spLe_lt {a b : Nat × Nat} (h : a.1 < b.1) : spLe a b = true := by
  unfold spLe rowLe
  refine decide_eq_true (List.not_lt.mp fun q => ?_)
  simp only [toI, List.map_cons, List.map_nil, List.cons_lt_cons_iff] at q
  omega
theorem sort_sps {xs ys : List (Nat × Nat)} (hp : xs.Perm ys) (hs : ys.Pairwise fun a b => a.1 < b.1) : sortMD (xs.map spD) = ys.map spD := by
  have tr : ∀ a b c : Nat × Nat, spLe a b = true → spLe b c = true → spLe a c = true := fun a b c h k => by
    unfold spLe rowLe at *
    exact decide_eq_true (List.le_trans (of_decide_eq_true h) (of_decide_eq_true k))
  have to : ∀ a b : Nat × Nat, (spLe a b || spLe b a) = true := fun a b => by
    unfold spLe rowLe
    rcases List.le_total (toI [a.1, a.2]) (toI [b.1, b.2]) with h | h <;> simp [h]
  have e : xs.mergeSort spLe = ys := by
    refine List.Perm.eq_of_pairwise (fun a b _ _ h k => ?_) (List.pairwise_mergeSort tr to xs) (hs.imp fun h => spLe_lt h) ((List.mergeSort_perm xs spLe).trans hp)
    unfold spLe rowLe at h k
    have := toI_inj (List.le_antisymm (of_decide_eq_true h) (of_decide_eq_true k))
    simp only [List.cons.injEq, and_true] at this
    exact Prod.ext this.1 this.2
  rw [← e]
  exact (List.map_mergeSort (r := spLe) (s := PySem.W.dataLe false pyD) (f := spD) (l := xs) fun a _ b _ => (le_sp a b).symm).symm
theorem noOwns_sps (xs : List (Nat × Nat)) : noOwns (xs.map spD) = true := noOwns_map (fun _ => by simp [spD]) _
theorem sorted_sps {xs ys : List (Nat × Nat)} (o : Bool) (hp : xs.Perm ys) (hs : ys.Pairwise fun a b => a.1 < b.1) : sortedMD [.lst o (xs.map spD)] = some (.lst true (ys.map spD)) := by
  have h1 := noOwns_sps xs
  have h2 : noTys (xs.map spD) = true := by
    clear hp h1
    induction xs with
    | nil => rfl
    | cons m ms ih => rw [List.map_cons, noTys, ih]; rfl
  have h3 : shapeOk (pyDs (xs.map spD)) = true := by
    rw [pyDs_map, List.map_map]
    unfold shapeOk
    rw [Bool.and_eq_true, Bool.and_eq_true]
    refine ⟨List.all_eq_true.mpr fun d hd => List.all_eq_true.mpr fun e he => ?_, List.all_eq_true.mpr fun d hd => ?_, List.all_eq_true.mpr fun d hd => ?_⟩
    · obtain ⟨r, _, rfl⟩ := List.mem_map.mp hd
      obtain ⟨s, _, rfl⟩ := List.mem_map.mp he
      simp [Function.comp_apply, spD, pyD, pyDs, PySem.W.alike, PySem.W.alikeAll]
    · obtain ⟨r, _, rfl⟩ := List.mem_map.mp hd
      rfl
    · obtain ⟨r, _, rfl⟩ := List.mem_map.mp hd
      simp [Function.comp_apply, spD, pyD, pyDs, PyData.depth, PyData.depthAll]
  show (if _ then _ else _) = _
  rw [if_pos ⟨h1, h2, h3⟩, sort_sps hp hs]
/-! the strings of a row of mates -/
def enumP (row : List Nat) : List (Nat × Nat) := (List.range row.length).zip row
def strsL (row : List Nat) : List (Nat × Nat) := (enumP row).filter fun p => decide (p.1 < p.2)
theorem enumL_P (row : List Nat) : enumL (row.map natD) = (enumP row).map spD := by
  unfold enumL enumP
  rw [List.length_map, intsTo_natD, List.zip_map, List.map_map]
  rfl
theorem mem_enumP {row : List Nat} {p : Nat × Nat} : p ∈ enumP row ↔ row[p.1]? = some p.2 := by
  unfold enumP
  rw [List.mem_iff_getElem?]
  constructor
  · rintro ⟨i, h⟩
    obtain ⟨h1, h2⟩ := List.getElem?_zip_eq_some.mp h
    have hi : i < row.length := by
      have := (List.getElem?_eq_some_iff.mp h1).1
      rwa [List.length_range] at this
    rw [List.getElem?_range hi] at h1
    cases h1
    exact h2
  · intro h
    have hi := (List.getElem?_eq_some_iff.mp h).1
    exact ⟨p.1, List.getElem?_zip_eq_some.mpr ⟨List.getElem?_range hi, h⟩⟩
theorem enumP_lt (row : List Nat) : (enumP row).Pairwise fun a b => a.1 < b.1 := by
  unfold enumP
  have h : ((List.range row.length).zip row).map Prod.fst = List.range row.length := by
    rw [List.map_fst_zip]; simp
  have h2 : (((List.range row.length).zip row).map Prod.fst).Pairwise (· < ·) := by rw [h]; exact List.pairwise_lt_range
  exact List.pairwise_map.mp h2
theorem strsL_lt (row : List Nat) : (strsL row).Pairwise fun a b => a.1 < b.1 := (enumP_lt row).filter _
theorem mem_strsL {row : List Nat} {p : Nat × Nat} : p ∈ strsL row ↔ row[p.1]? = some p.2 ∧ p.1 < p.2 := by
  unfold strsL
  rw [List.mem_filter, mem_enumP]
  simp
theorem strsL_nodup (row : List Nat) : (strsL row).Nodup := (strsL_lt row).imp fun h e => by rw [e] at h; omega
def endP (u : Nat) (p : (Nat × Nat) × (Nat × Nat)) : Nat × Nat := if idx u p.1 ≤ idx u p.2 then (idx u p.1, idx u p.2) else (idx u p.2, idx u p.1)
theorem endP_nodup {u : Nat} : ∀ {ps : List ((Nat × Nat) × (Nat × Nat))}, ((ends ps).map (idx u)).Nodup → (ps.map (endP u)).Nodup
  | [], _ => .nil
  | p :: ps, h => by
    have h' : (idx u p.1 :: idx u p.2 :: (ends ps).map (idx u)).Nodup := h
    obtain ⟨h1, h2⟩ := List.nodup_cons.mp h'
    obtain ⟨h3, h4⟩ := List.nodup_cons.mp h2
    refine List.nodup_cons.mpr ⟨fun hm => ?_, endP_nodup h4⟩
    obtain ⟨q, hq, e⟩ := List.mem_map.mp hm
    have m1 : idx u q.1 ∈ (ends ps).map (idx u) := List.mem_map_of_mem (mem_ends.mpr ⟨q, hq, .inl rfl⟩)
    have m2 : idx u q.2 ∈ (ends ps).map (idx u) := List.mem_map_of_mem (mem_ends.mpr ⟨q, hq, .inr rfl⟩)
    unfold endP at e
    split at e <;> split at e <;> simp only [Prod.mk.injEq] at e
    · exact h3 (e.2 ▸ m2)
    · exact h3 (e.1 ▸ m1)
    · exact h3 (e.2 ▸ m1)
    · exact h3 (e.1 ▸ m2)
theorem ends_permS {u d : Nat} {ps : List ((Nat × Nat) × (Nat × Nat))} {row : List Nat} (h : Row u d ps row) (hp : (ends ps).Perm (ring u d)) : (ps.map (endP u)).Perm (strsL row) := by
  have hn : ((ends ps).map (idx u)).Nodup := ((hp.map (idx u)).nodup_iff).mpr (ring_map_nodup u d)
  refine (List.perm_ext_iff_of_nodup (endP_nodup hn) (strsL_nodup row)).mpr fun q => ?_
  rw [mem_strsL]
  constructor
  · intro hq
    obtain ⟨p, hm, rfl⟩ := List.mem_map.mp hq
    obtain ⟨a1, a2⟩ := h.at_ p hm
    have ne : idx u p.1 ≠ idx u p.2 := fun e => by
      have hd := ends_ne (nodup_of_map hn) p hm
      have m1 : p.1 ∈ ends ps := mem_ends.mpr ⟨p, hm, .inl rfl⟩
      have m2 : p.2 ∈ ends ps := mem_ends.mpr ⟨p, hm, .inr rfl⟩
      exact hd (map_inj hn m1 m2 e)
    unfold endP
    split
    · exact ⟨a1, by omega⟩
    · exact ⟨a2, by omega⟩
  · rintro ⟨h1, h2⟩
    have hi : q.1 < u + d := by rw [← h.len]; exact (List.getElem?_eq_some_iff.mp h1).1
    obtain ⟨s, hs, es⟩ := idx_of hi
    obtain ⟨p, hm, hps⟩ := mem_ends.mp (hp.mem_iff.mpr hs)
    obtain ⟨a1, a2⟩ := h.at_ p hm
    refine List.mem_map.mpr ⟨p, hm, ?_⟩
    rcases hps with rfl | rfl
    · rw [es, h1] at a1
      have e2 := Option.some.inj a1
      unfold endP
      rw [es, ← e2, if_pos (by omega)]
    · rw [es, h1] at a2
      have e2 := Option.some.inj a2
      unfold endP
      rw [es, ← e2, if_neg (by omega)]
theorem strings_ok {n m : Nat} {row : List Nat} (h : IsMat n m row) (hl : n + m ≤ 1000) : fn_p_strings.sem [matD n m row] = some (.lst true ((strsL row).map spD), [some (matD n m row)]) := by
  have ck := checked_ok h hl
  have p1 : fn_p_checked_mat.pins = [true] := rfl
  have hlen : (strsL row).length ≤ 100000 := by
    have := List.length_filter_le (fun p : Nat × Nat => decide (p.1 < p.2)) (enumP row)
    have h2 : (enumP row).length ≤ row.length := by unfold enumP; rw [List.length_zip]; omega
    have := h.len
    unfold strsL
    omega
  have ho := noOwns_natDs row
  have g1 : goLc [4, 5] (tgT 2 (tgCons (tgN 4) (tgCons (tgN 5) (tgNil)))) (bT (opF (ltD) [.b 4, .b 5])) (tupF [.t (varF 4), .t (varF 5)]) ((enumP row).map spD) [some (matD n m row), some (.int (n : Nat)), some (.int (m : Nat)), some (.tup (row.map natD)), none, none]
      = some ((strsL row).map spD, [some (matD n m row), some (.int (n : Nat)), some (.int (m : Nat)), some (.tup (row.map natD)), none, none]) := by
    refine goLc_filt spD spD (fun p => decide (p.1 < p.2)) (enumP row) fun p hp => ?_
    rw [lcTurnF_e]
    generalize matD n m row = A
    generalize D.tup (row.map natD) = B
    by_cases hlt : p.1 < p.2
    · have h1 : (p.1 : Int) < (p.2 : Int) := by omega
      simp [spD, h1, hlt, small_le]
    · have h1 : ¬ (p.1 : Int) < (p.2 : Int) := by omega
      simp [spD, h1, hlt]
  have hE := enumL_P row
  have e0 : matD n m row = .tup [.int (n : Nat), .int (m : Nat), .tup (row.map natD)] := rfl
  have om := noOwn_matD n m row
  obtain ⟨S, hS⟩ : ∃ S, S = (strsL row).map spD := ⟨_, rfl⟩
  have hlen2 : S.length ≤ 100000 := by rw [hS, List.length_map]; exact hlen
  rw [← hS] at g1 ⊢
  obtain ⟨E1, hE1⟩ : ∃ S, S = (enumP row).map spD := ⟨_, rfl⟩
  rw [← hE1] at g1 hE
  rw [e0] at ck g1 om ⊢
  obtain ⟨Y, hY⟩ : ∃ Y, Y = row.map natD := ⟨_, rfl⟩
  rw [← hY] at ck g1 om ho hE ⊢
  clear hS hE1 hY e0
  have hf := freezes_of ho
  unfold fn_p_strings F_p_strings
  rw [bodyFn_sem]
  simp [ck, p1, ho, om, hf, hE, g1, small_le, hlen2]
theorem sort2 (a b : Nat) : sortI [(a : Int), (b : Int)] = if a ≤ b then [(a : Int), (b : Int)] else [(b : Int), (a : Int)] := by
  unfold sortI
  by_cases h : a ≤ b
  · rw [if_pos h]
    have : (a : Int) ≤ (b : Int) := by omega
    simp [List.mergeSort, List.MergeSort.Internal.splitInTwo, List.splitAt, List.splitAt.go, List.merge, this]
  · rw [if_neg h]
    have : ¬ (a : Int) ≤ (b : Int) := by omega
    simp [List.mergeSort, List.MergeSort.Internal.splitInTwo, List.splitAt, List.splitAt.go, List.merge, this]
theorem sort2D {a b : Nat} {i j : Int} (hi : i = (a : Nat)) (hj : j = (b : Nat)) : sortedID [.lst true [.int i, .int j]] = some (.lst true (if a ≤ b then [.int (a : Nat), .int (b : Nat)] else [.int (b : Nat), .int (a : Nat)])) := by
  have := sortedID_e true [(a : Int), (b : Int)]
  rw [sort2] at this
  rw [hi, hj]
  refine this.trans ?_
  split <;> rfl
theorem ends_ok {u d : Nat} {ps : List ((Nat × Nat) × (Nat × Nat))} {row : List Nat} {o : Bool} (h : Row u d ps row) (hp : (ends ps).Perm (ring u d)) (hl : u + d ≤ 1000) :
    fn_ends.sem [.int (u : Nat), .lst o (ps.map prD)] = some (.lst true ((strsL row).map spD), [some (.int (u : Nat)), some (.lst false (ps.map prD))]) := by
  have sp := ends_permS h hp
  have sm := sorted_sps true sp (strsL_lt row)
  have hlen : (ps.map (endP u)).length ≤ 100000 := by
    have := hp.length_eq
    rw [ends_len, ring_len] at this
    rw [List.length_map]
    omega
  have ho := noOwns_prDs ps
  have hf := freezes_of ho
  have g1 : goLc [2, 3] (tgT 2 (tgCons (tgN 2) (tgCons (tgN 3) (tgNil)))) (yesF) (opF tupleD [.t (opF sortedID [.t (lstF [.t (opF addD [.t (opF mulD [.t (opF ixD [.b 2, .t (litF (.int 0))]), .b 0]), .t (opF ixD [.b 2, .t (litF (.int 1))])]), .t (opF addD [.t (opF mulD [.t (opF ixD [.b 3, .t (litF (.int 0))]), .b 0]), .t (opF ixD [.b 3, .t (litF (.int 1))])])])])]) (ps.map prD) [some (.int (u : Nat)), some (.lst false (ps.map prD)), none, none]
      = some ((ps.map (endP u)).map spD, [some (.int (u : Nat)), some (.lst false (ps.map prD)), none, none]) := by
    rw [List.map_map]
    refine goLc_mapI prD (fun p => spD (endP u p)) ps fun p hm => ?_
    rw [lcTurn_e]
    have m1 := mem_ring.mp (hp.mem_iff.mp (mem_ends.mpr ⟨p, hm, .inl rfl⟩))
    have m2 := mem_ring.mp (hp.mem_iff.mp (mem_ends.mpr ⟨p, hm, .inr rfl⟩))
    have k1 : mulOk (p.1.1 : Nat) (u : Nat) = true := mulOk_l (by omega) (by omega)
    have k2 : mulOk (p.2.1 : Nat) (u : Nat) = true := mulOk_l (by omega) (by omega)
    have s2 := sort2D (a := idx u p.1) (b := idx u p.2) (i := (p.1.1 : Int) * (u : Int) + (p.1.2 : Int)) (j := (p.2.1 : Int) * (u : Int) + (p.2.2 : Int)) (by unfold idx; omega) (by unfold idx; omega)
    generalize D.lst false (ps.map prD) = B
    unfold endP
    by_cases hc : idx u p.1 ≤ idx u p.2
    · rw [if_pos hc] at s2 ⊢
      simp [prD, spD, k1, k2, s2, small_le, tupleD_l]
    · rw [if_neg hc] at s2 ⊢
      simp [prD, spD, k1, k2, s2, small_le, tupleD_l]
  have os := noOwns_sps (ps.map (endP u))
  have hlen2 : ((ps.map (endP u)).map spD).length ≤ 100000 := by rw [List.length_map]; exact hlen
  obtain ⟨S, hS⟩ : ∃ S, S = (strsL row).map spD := ⟨_, rfl⟩
  rw [← hS] at sm ⊢
  obtain ⟨T, hT⟩ : ∃ S, S = (ps.map (endP u)).map spD := ⟨_, rfl⟩
  rw [← hT] at sm g1 hlen2 os
  obtain ⟨Z, hZ⟩ : ∃ S, S = ps.map prD := ⟨_, rfl⟩
  rw [← hZ] at g1 ho hf ⊢
  clear hS hT hZ
  unfold fn_ends F_ends
  rw [bodyFn_sem]
  cases o <;> simp [ho, hf, g1, sm, small_le, hlen2, os]
def levelP (n : Nat) : List ((Nat × Nat) × (Nat × Nat)) := (List.range n).map fun i => ((0, i), (1, i))
def hookedP (n i : Nat) : List ((Nat × Nat) × (Nat × Nat)) := ((levelP n).filter fun p => decide (p.1.2 < i) || decide (p.1.2 > i + 1)) ++ [((0, i), (0, i + 1)), ((1, i), (1, i + 1))]
end VS
set_option Elab.async false
set_option linter.all false
set_option maxRecDepth 100000
namespace VS
open PySem PySem.Spec PyProof.Rows L2 RZ
theorem nat_z {i : Int} (h : 0 ≤ i) : ∃ k : Nat, i = (k : Nat) := ⟨i.toNat, by omega⟩
structure Gud (x : D) : Prop where
  own : noOwn x = true
  eqb : EqB 3 x
  pur : pureT x = true
theorem EqB.up {k n : Nat} {d : D} (h : EqB k d) (l : k ≤ n) : EqB n d := ⟨h.1, h.2.1, Nat.le_trans h.2.2 l⟩
theorem pureTs_all : ∀ {X : List D}, (∀ x ∈ X, pureT x = true) → pureTs X = true
  | [], _ => rfl
  | x :: X, h => by
    show (pureT x && pureTs X) = true
    rw [h x (List.mem_cons_self ..), pureTs_all fun y hy => h y (List.mem_cons_of_mem _ hy)]
    rfl
theorem Gud.nos {X : List D} (h : ∀ x ∈ X, Gud x) : noOwns X = true := noOwns_all fun x hx => (h x hx).own
theorem Gud.purs {X : List D} (h : ∀ x ∈ X, Gud x) : pureTs X = true := pureTs_all fun x hx => (h x hx).pur
theorem Gud.eqok {X : List D} (o : Bool) (h : ∀ x ∈ X, Gud x) : eqOk (.lst o X) = true := (EqB.lst fun x hx => (h x hx).eqb).ok (by omega)
theorem gud_int (i : Int) : Gud (.int i) := ⟨rfl, EqB.int i, rfl⟩
theorem gud_non : Gud .non := ⟨rfl, EqB.non, rfl⟩
theorem Gud.tup1 {xs : List Int} : Gud (.tup (xs.map D.int)) := ⟨noOwns_ints xs, (EqB.tup (k := 0) fun x hx => by
  obtain ⟨i, _, rfl⟩ := List.mem_map.mp hx
  exact EqB.int i).up (by omega), pureTs_all fun x hx => by
  obtain ⟨i, _, rfl⟩ := List.mem_map.mp hx
  rfl⟩
def bodySp : FS := (seqF (asgF (callF fn_draw [.b 0, .t (litF (.int 5))]) (tgN 3)) <|
  ifF (orF (bT (opF (eqD) [.b 3, .t (litF (.int 0))])) (bT (opF (eqD) [.b 1, .t (lstF [])]))) (dropF (mutF 1 appD [.t (opF ixD [.t (lstF [.t (tupF [.t (litF (.int 0)), .t (litF (.int 1))]), .t (tupF [.t (litF (.int 9)), .t (litF (.int 9)), .t (tupF [.t (litF (.int 9))])]), .t (litF .non), .t (litF (.int 7))]), .t (callF fn_draw [.b 0, .t (litF (.int 4))])])])) (ifF (bT (opF (eqD) [.b 3, .t (litF (.int 1))])) (dropF (mutF 1 revD [])) (ifF (bT (opF (eqD) [.b 3, .t (litF (.int 2))])) (dropF (mutF 1 clrD [])) (ifF (bT (opF (eqD) [.b 3, .t (litF (.int 3))])) (asgF (tupF [.t (litF (.int 1)), .t (litF (.int 0))]) (tgSub 1 (.t (callF fn_draw [.b 0, .t (opF lenD [.b 1])])))) (dropF (mutF 1 popAtD [.t (callF fn_draw [.b 0, .t (opF lenD [.b 1])])]))))))
theorem gud_9 : Gud (.tup [.int 9, .int 9, .tup [.int 9]]) := ⟨rfl, EqB.tup (k := 2) fun x hx => by
  simp only [List.mem_cons, List.not_mem_nil, or_false] at hx
  rcases hx with rfl | rfl | rfl
  · exact EqB.int 9
  · exact EqB.int 9
  · exact (EqB.tup (k := 0) fun y hy => by
      obtain rfl := List.mem_singleton.mp hy
      exact EqB.int 9).up (by omega), rfl⟩
theorem pick4s {t : Int} (h : 0 ≤ t) (h2 : t < 4) : ∃ x, atI [D.tup [.int 0, .int 1], D.tup [.int 9, .int 9, .tup [.int 9]], D.non, D.int 7] t = some x ∧ Gud x := by
  rcases (by omega : t = 0 ∨ t = 1 ∨ t = 2 ∨ t = 3) with rfl | rfl | rfl | rfl
  · exact ⟨_, rfl, Gud.tup1 (xs := [0, 1])⟩
  · exact ⟨_, rfl, gud_9⟩
  · exact ⟨_, rfl, gud_non⟩
  · exact ⟨_, rfl, gud_int 7⟩
theorem spoil1 {K : Nat} {w : D} {X : List D} {A2 A3 : Option D} {d : D} (hw : Wok (K + 2) w) (hX : ∀ x ∈ X, Gud x) (hl : X.length ≤ 1000) :
    ∃ w' Y a3, turn (tgN 2) bodySp d [some w, some (.lst true X), A2, A3] = some (.nx [some w', some (.lst true Y), some d, a3]) ∧ Wok K w' ∧ (∀ x ∈ Y, Gud x) ∧ Y.length ≤ X.length + 1 := by
  obtain ⟨v, w1, e1, a1, b1, k1⟩ := draw_ok (N := K + 1) (lim := 5) hw (by omega) (by omega)
  have o0 := hw.own
  have o1 := k1.own
  have p1 : fn_draw.pins = [true, true] := rfl
  have no := Gud.nos hX
  have eo := Gud.eqok true hX
  have ee := deq_emp true true X
  by_cases hc : v = 0 ∨ X = []
  · obtain ⟨t, w2, e2, a2, b2, k2⟩ := draw_ok (N := K) (lim := 4) k1 (by omega) (by omega)
    obtain ⟨x, hx, gx⟩ := pick4s a2 b2
    have gxo := gx.own
    have ap := appD_e (xs := X) x (by omega)
    have o2 := k2.own
    refine ⟨w2, X ++ [x], some (.int v), ?_, k2, fun y hy => ?_, by simp⟩
    · rw [turn_e]
      unfold bodySp
      by_cases hv : v = 0
      · simp [e1, e2, hx, ap, gxo, o0, o1, o2, p1, hv, small_le]
      · have hX0 : X = [] := hc.resolve_left hv
        subst hX0
        simp [e1, e2, hx, ap, gxo, o0, o1, o2, p1, hv, eo, ee, eqOk_emp, small_le]
    · rcases List.mem_append.mp hy with h | h
      · exact hX y h
      · obtain rfl : y = x := by simpa using h
        exact gx
  · have hv : ¬ v = 0 := fun e => hc (.inl e)
    have hX0 : X ≠ [] := fun e => hc (.inr e)
    have hpos : 0 < X.length := List.length_pos_iff.mpr hX0
    have he : X.isEmpty = false := by cases X with | nil => exact absurd rfl hX0 | cons => rfl
    rw [he] at ee
    rcases (by omega : v = 1 ∨ v = 2 ∨ v = 3 ∨ v = 4) with rfl | rfl | rfl | rfl
    · have rv : revD X [] = some (.non, X.reverse) := by
        show (if noOwns X = true then _ else _) = _
        rw [if_pos no]
      refine ⟨w1, X.reverse, some (.int 1), ?_, k1.le (by omega), fun y hy => hX y (List.mem_reverse.mp hy), by simp⟩
      rw [turn_e]
      unfold bodySp
      simp [e1, rv, o0, o1, p1, eo, ee, hX0, eqOk_emp, small_le]
    · have cl : clrD X [] = some (.non, []) := clrD_e no
      refine ⟨w1, [], some (.int 2), ?_, k1.le (by omega), fun y hy => (by cases hy), by simp⟩
      rw [turn_e]
      unfold bodySp
      simp [e1, cl, o0, o1, p1, eo, ee, hX0, eqOk_emp, small_le]
    · obtain ⟨t, w2, e2, a2, b2, k2⟩ := draw_ok (N := K) (lim := (X.length : Int)) k1 (by omega) (by omega)
      obtain ⟨j, rfl⟩ := nat_z a2
      have ix : ixN X.length (j : Nat) = some j := ixN_natV (by omega)
      have o2 := k2.own
      refine ⟨w2, X.set j (.tup [.int 1, .int 0]), some (.int 3), ?_, k2, fun y hy => ?_, by simp⟩
      · rw [turn_e]
        unfold bodySp
        simp [e1, e2, ix, o0, o1, o2, p1, eo, ee, hX0, eqOk_emp, small_le]
      · rcases List.mem_or_eq_of_mem_set hy with h | h
        · exact hX y h
        · subst h; exact Gud.tup1 (xs := [1, 0])
    · obtain ⟨t, w2, e2, a2, b2, k2⟩ := draw_ok (N := K) (lim := (X.length : Int)) k1 (by omega) (by omega)
      obtain ⟨j, rfl⟩ := nat_z a2
      have hj : j < X.length := by omega
      have pp := popAtD_e (xs := X) (i := (j : Nat)) (d := X[j]) (by omega) (by omega) (by rw [Int.toNat_natCast]; exact List.getElem?_eq_getElem hj)
      rw [Int.toNat_natCast] at pp
      have o2 := k2.own
      refine ⟨w2, X.eraseIdx j, some (.int 4), ?_, k2, fun y hy => hX y (List.mem_of_mem_eraseIdx hy), Nat.le_trans (List.length_eraseIdx_le ..) (by omega)⟩
      rw [turn_e]
      unfold bodySp
      simp [e1, e2, pp, o0, o1, o2, p1, eo, ee, hX0, eqOk_emp, small_le]
theorem spoil_ok {K : Nat} {w : D} {X : List D} (hw : Wok (K + 10) w) (hX : ∀ x ∈ X, Gud x) (hl : X.length ≤ 600) :
    ∃ w' Y, fn_spoil.sem [w, .lst true X] = some (.non, [some w', some (.lst true Y)]) ∧ Wok K w' ∧ (∀ x ∈ Y, Gud x) ∧ Y.length ≤ 700 := by
  obtain ⟨t, w1, e1, a1, b1, k1⟩ := draw_ok (N := K + 9) (lim := 3) hw (by omega) (by omega)
  obtain ⟨u, hu⟩ := nat_z (i := 1 + t) (by omega)
  obtain ⟨ρ', h1, w2, Y, a2, a3, rfl, k2, gY, lY⟩ := for_inv (tg := tgN 2) (body := bodySp) (ds := (List.range u).map natD) (ρ := [some w1, some (.lst true X), none, none])
    (fun i ρ => ∃ (w2 : D) (Y : List D) (a2 a3 : Option D), ρ = [some w2, some (.lst true Y), a2, a3] ∧ Wok (K + 9 - 2 * i) w2 ∧ (∀ x ∈ Y, Gud x) ∧ Y.length ≤ X.length + i) ⟨w1, X, none, none, rfl, k1, hX, by omega⟩ (by
      rintro i d ρ hd ⟨w2, Y, a2, a3, rfl, k2, gY, lY⟩
      have hi : i < u := by
        have := (List.getElem?_eq_some_iff.mp hd).1
        simpa using this
      obtain ⟨w3, Z, b3, e, k3, gZ, lZ⟩ := spoil1 (K := K + 9 - 2 * (i + 1)) (d := d) (A2 := a2) (A3 := a3) (k2.le (by omega)) gY (by omega)
      exact ⟨_, .inl e, w3, Z, some d, b3, rfl, k3, gZ, by omega⟩)
  rw [List.length_map, List.length_range] at k2 lY
  refine ⟨w2, Y, ?_, k2.le (by omega), gY, by omega⟩
  have r1 := rng1_nat (u := u) (by omega)
  rw [← hu] at r1
  have o0 := hw.own
  have o1 := k1.own
  have p1 : fn_draw.pins = [true, true] := rfl
  generalize (List.range u).map natD = L at *
  unfold bodySp at h1
  unfold fn_spoil F_spoil
  rw [bodyFn_sem]
  simp [e1, r1, h1, o0, o1, p1]
end VS
set_option Elab.async false
set_option linter.all false
set_option maxRecDepth 100000
namespace VS
open PySem PySem.Spec PyProof.Rows L2 RZ
theorem nat_lt {i : Int} {k : Nat} (h : 0 ≤ i) (h2 : i < k) : ∃ s : Nat, i = (s : Nat) ∧ s < k := ⟨i.toNat, by omega, by omega⟩
def alD (u d : Nat) : List D := (allL u d).map (matD u d)
def strD (r : List Nat) : List D := (strsL r).map spD
theorem noOwns_alD (u d : Nat) : noOwns (alD u d) = true := noOwns_map (noOwn_matD u d) _
theorem noOwns_strD (r : List Nat) : noOwns (strD r) = true := noOwns_sps _
def duesD (A S1 S2 : List D) : D := .lst true [.lst false A, .lst false A, .lst true S1, .lst true S1, .lst true S2]
def toldD (A B S1 T1 S2 : List D) : D := .lst true [.lst true A, .lst true B, .lst true S1, .lst true T1, .lst true S2]
theorem head_A {w : D} {most : Nat} (hw : Wok 4000 w) (hm : most ≤ 12) : ∃ (t ab up dn : Nat) (r1 r2 : List Nat) (P1 P2 w' : D), t ≤ most ∧ ab ≤ t ∧ IsMat up dn r1 ∧ IsMat up dn r2 ∧ up + dn ≤ 16 ∧ noOwn P1 = true ∧ noOwn P2 = true ∧ Wok 1000 w' ∧ ∀ C : FS, (
  seqF (asgF (callF fn_draw [.b 0, .t (opF addD [.b 1, .t (litF (.int 1))])]) (tgN 2)) <|
  seqF (asgF (callF fn_draw [.b 0, .t (opF addD [.b 2, .t (litF (.int 1))])]) (tgN 3)) <|
  seqF (asgF (callF fn_all [.b 3, .t (opF subD [.b 2, .b 3])]) (tgN 4)) <|
  seqF (asgF (callF fn_counts [.b 0, .t (litF (.int 16))]) (tgT 2 (tgCons (tgN 5) (tgCons (tgN 6) (tgNil))))) <|
  seqF (parF [7, 8] [.t (callF fn_pairs [.b 0, .b 5, .b 6]), .t (callF fn_pairs [.b 0, .b 5, .b 6])]) <|
  seqF (parF [9, 10] [.t (callF fn_made [.b 5, .b 6, .b 7]), .t (callF fn_made [.b 5, .b 6, .b 8])]) <|
  seqF (asgF (lstF [.t (varF 4), .t (varF 4), .t (callF fn_ends [.b 5, .b 7]), .t (callF fn_ends [.b 5, .b 7]), .t (callF fn_ends [.b 5, .b 8])]) (tgN 11)) <|
  seqF (asgF (lstF [.t (callF fn_p_all_mats [.b 3, .t (opF subD [.b 2, .b 3])]), .t (callF fn_p_all_mats [.b 3, .t (opF subD [.b 2, .b 3])])]) (tgN 12)) <|
  seqF (asgF (catMvF 12 (lstF [.t (callF fn_p_strings [.b 9]), .t (callF fn_p_strings [.b 9]), .t (callF fn_p_strings [.b 10])])) (tgN 12)) <| C)
  [some w, some (.int (most : Nat)), none, none, none, none, none, none, none, none, none, none, none, none, none, none] = C [some w', some (.int (most : Nat)), some (.int (t : Nat)), some (.int (ab : Nat)), some (.lst false (alD ab (t - ab))), some (.int (up : Nat)), some (.int (dn : Nat)), some P1, some P2, some (matD up dn r1), some (matD up dn r2), some (duesD (alD ab (t - ab)) (strD r1) (strD r2)), some (toldD (alD ab (t - ab)) (alD ab (t - ab)) (strD r1) (strD r1) (strD r2)), none, none, none] := by
  obtain ⟨v1, w1, e1, a1, b1, k1⟩ := draw_ok (N := 3999) (lim := (most : Int) + 1) hw (by omega) (by omega)
  obtain ⟨t, rfl, ht⟩ := nat_lt (k := most + 1) a1 (by omega)
  obtain ⟨v2, w2, e2, a2, b2, k2⟩ := draw_ok (N := 3998) (lim := (t : Int) + 1) k1 (by omega) (by omega)
  obtain ⟨ab, rfl, hab⟩ := nat_lt (k := t + 1) a2 (by omega)
  have es : (t : Int) - (ab : Int) = ((t - ab : Nat) : Int) := by omega
  obtain ⟨_, al, _⟩ := all_ok (u := ab) (d := t - ab) (by omega)
  obtain ⟨am, -⟩ := all_mats_ok (u := ab) (d := t - ab) (by omega)
  rw [show (if ab + (t - ab) = 0 then [] else (rowsL ab (t - ab)).mergeSort rowLe).map (matD ab (t - ab)) = alD ab (t - ab) from rfl] at al am
  obtain ⟨up, dn, w3, e3, k3, hs, k, hk, h0⟩ := counts_ok (N := 3000) (most := 16) (k2.le (by omega)) (by omega) (by omega)
  have e3 : fn_counts.sem [w2, .int 16] = some (.tup [.int (up : Nat), .int (dn : Nat)], [some w3, some (.int 16)]) := e3
  obtain ⟨w4, ps, e4, k4, hc⟩ := pairs_ok (N := 2000) (u := up) (d := dn) (k := k) (k3.le (by omega)) hk h0 (by omega)
  obtain ⟨w5, qs, e5, k5, hc2⟩ := pairs_ok (N := 1000) (u := up) (d := dn) (k := k) (k4.le (by omega)) hk h0 (by omega)
  have m1 := made_M (u := up) (d := dn) (ps := ps) (o := true) (by omega) hc.ends
  have m2 := made_M (u := up) (d := dn) (ps := qs) (o := true) (by omega) hc2.ends
  have i1 := M_mat hc (by omega)
  have i2 := M_mat hc2 (by omega)
  have s1 := strings_ok i1 (by omega)
  have s2 := strings_ok i2 (by omega)
  have n1 := ends_ok (o := false) (M_row hc) hc.ends (by omega)
  have n2 := ends_ok (o := false) (M_row hc2) hc2.ends (by omega)
  rw [show (strsL (M up dn ps)).map spD = strD (M up dn ps) from rfl] at s1 n1
  rw [show (strsL (M up dn qs)).map spD = strD (M up dn qs) from rfl] at s2 n2
  have c1 := noOwns_alD ab (t - ab)
  have c2 := noOwns_strD (M up dn ps)
  have c3 := noOwns_strD (M up dn qs)
  have o1 := noOwn_matD up dn (M up dn ps)
  have o2 := noOwn_matD up dn (M up dn qs)
  have o3 := noOwns_prDs ps
  have o4 := noOwns_prDs qs
  have ow := hw.own
  have ow1 := k1.own
  have ow2 := k2.own
  have ow3 := k3.own
  have ow4 := k4.own
  have ow5 := k5.own
  have q2 : fn_draw.pins = [true, true] := rfl
  have q5 : fn_counts.pins = [true, true] := rfl
  have q6 : fn_pairs.pins = [true, true, true] := rfl
  have q7 : fn_made.pins = [true, true, true] := rfl
  have q9 : fn_p_strings.pins = [true] := rfl
  have q10 : fn_ends.pins = [true, true] := rfl
  have q11 : fn_all.pins = [true, true] := rfl
  have q12 : fn_p_all_mats.pins = [true, true] := rfl
  refine ⟨t, ab, up, dn, M up dn ps, M up dn qs, .lst false (ps.map prD), .lst false (qs.map prD), w5, by omega, by omega, i1, i2, by omega, by simp [o3], by simp [o4], k5.le (by omega), fun C => ?_⟩
  unfold duesD toldD
  generalize alD ab (t - ab) = A at *
  generalize strD (M up dn ps) = S1 at *
  generalize strD (M up dn qs) = S2 at *
  generalize matD up dn (M up dn ps) = M1 at *
  generalize matD up dn (M up dn qs) = M2 at *
  generalize ps.map prD = PP at *
  generalize qs.map prD = QQ at *
  have fA := freezes_of c1
  simp [e1, e2, es, al, am, e3, e4, e5, m1, m2, s1, s2, n1, n2, c1, c2, c3, o1, o2, o3, o4, ow, ow1, ow2, ow3, ow4, ow5, q2, q5, q6, q7, q9, q10, q11, q12, fA, putB_t1, small_le]
end VS
set_option Elab.async false
set_option linter.all false
set_option maxRecDepth 100000
namespace VS
open PySem PySem.Spec PyProof.Rows L2 RZ
theorem same_any {k : Nat} {xs : List D} (o o' : Bool) (h : ∀ x ∈ xs, Plain k x) (hk : k ≤ 18) : fn_same.sem [.lst o xs, .lst o' xs] = some (.bl true, [some (.lst false xs), some (.lst false xs)]) := by
  obtain ⟨a, b, l⟩ := same_loop (fn := fn_same_at 19) (d := .lst false xs) (e := .lst false xs) (same_pins _) xs none none fun x hx => ⟨(h x hx).own, same_ok (k := 18) ((h x hx).le hk)⟩
  have ho : noOwns xs = true := noOwns_all fun x hx => (h x hx).own
  have hf := freezes_of ho
  unfold bodyS at l
  show (bodyFn 4 2 [true, true] (F_same (fn_same_at 19))).sem _ = _
  rw [bodyFn_sem]; unfold F_same
  cases o <;> cases o' <;> simp [isiTD_lst, isiD_l_lst, ho, hf, l]
theorem plain_A (u d : Nat) : ∀ x ∈ alD u d, Plain 2 x := fun x hx => by
  obtain ⟨r, _, rfl⟩ := List.mem_map.mp hx
  exact plain_mat u d r
theorem plain_S (r : List Nat) : ∀ x ∈ strD r, Plain 2 x := fun x hx => by
  obtain ⟨s, _, rfl⟩ := List.mem_map.mp hx
  exact Plain.tup fun y hy => by
    simp only [List.mem_cons, List.not_mem_nil, or_false] at hy
    rcases hy with rfl | rfl <;> exact .int _
theorem gud_A (u d : Nat) : ∀ x ∈ alD u d, Gud x := fun x hx => by
  obtain ⟨r, _, rfl⟩ := List.mem_map.mp hx
  refine ⟨noOwn_matD u d r, ?_, ?_⟩
  · exact (EqB.tup (k := 1) fun y hy => by
      simp only [List.mem_cons, List.not_mem_nil, or_false] at hy
      rcases hy with rfl | rfl | rfl
      · exact EqB.int _
      · exact EqB.int _
      · exact EqB.tup (k := 0) fun z hz => by
          obtain ⟨i, _, rfl⟩ := List.mem_map.mp hz
          exact EqB.int _).up (by omega)
  · show pureTs [.int _, .int _, .tup (r.map natD)] = true
    have : pureT (.tup (r.map natD)) = true := pureTs_all fun x hx => by
      obtain ⟨i, _, rfl⟩ := List.mem_map.mp hx
      rfl
    show (true && (true && (pureT (.tup (r.map natD)) && true))) = true
    rw [this]; rfl
theorem gud_S (r : List Nat) : ∀ x ∈ strD r, Gud x := fun x hx => by
  obtain ⟨s, _, rfl⟩ := List.mem_map.mp hx
  exact Gud.tup1 (xs := [(s.1 : Int), (s.2 : Int)])
def bodyTu : FS := (seqF (dropF (callElF fn_spoil 0 12 14)) <|
  seqF (dropF (mutF 13 appD [.t (lendF (opF listD [.t (opF ixD [.b 12, .b 14])]))])) <|
  seqF (ifF (lendB (orF (notF (tstF (.t (callF fn_same [.t (opF ixD [.b 12, .t (litF (.int 1))]), .t (opF ixD [.b 11, .t (litF (.int 1))])])))) (notF (tstF (.t (callF fn_same [.t (opF (partD true false) [.b 12, .t (litF (.int 3))]), .t (opF (partD true false) [.b 11, .t (litF (.int 3))])])))))) (retF (lendF (litF (.bl false)))) (passF)) <|
  ifF (lendB (orF (notF (tstF (.t (callF fn_same [.t (callF fn_p_all_mats [.b 3, .t (opF subD [.b 2, .b 3])]), .b 4])))) (notF (tstF (.t (callF fn_same [.t (callF fn_p_strings [.b 9]), .t (opF ixD [.b 11, .t (litF (.int 2))])])))))) (retF (lendF (litF (.bl false)))) (passF))
section
variable {w : D} {t ab up dn : Nat} {A S1 S2 T0 T2 : List D} {M1 M2 P1 P2 : D} {m0 : Int}
structure Fx (t ab : Nat) (A S1 S2 : List D) (M1 M2 P1 P2 : D) : Prop where
  le : ab ≤ t
  pA : ∀ x ∈ A, Plain 2 x
  pS : ∀ x ∈ S1, Plain 2 x
  pT : ∀ x ∈ S2, Plain 2 x
  am : fn_p_all_mats.sem [.int (ab : Nat), .int ((t - ab : Nat) : Int)] = some (.lst true A, [some (.int (ab : Nat)), some (.int ((t - ab : Nat) : Int))])
  s1 : fn_p_strings.sem [M1] = some (.lst true S1, [some M1])
  s2 : fn_p_strings.sem [M2] = some (.lst true S2, [some M2])
  o1 : noOwn M1 = true
  o2 : noOwn M2 = true
  o3 : noOwn P1 = true
  o4 : noOwn P2 = true
def envT (w : D) (m0 : Int) (t ab up dn : Nat) (A S1 S2 : List D) (M1 M2 P1 P2 : D) (told left : D) (at_ : Option D) : Env := [some w, some (.int m0), some (.int (t : Nat)), some (.int (ab : Nat)), some (.lst false A), some (.int (up : Nat)), some (.int (dn : Nat)), some P1, some P2, some M1, some M2, some (duesD A S1 S2), some told, some left, at_, none]
theorem nosP {xs : List D} (h : ∀ x ∈ xs, Plain 2 x) : noOwns xs = true := noOwns_all fun x hx => (h x hx).own
theorem same_two {S1 S2 : List D} (h1 : ∀ x ∈ S1, Plain 2 x) (h2 : ∀ x ∈ S2, Plain 2 x) : fn_same.sem [.lst true [.lst false S1, .lst false S2], .lst true [.lst false S1, .lst false S2]] = some (.bl true, [some (.lst false [.lst false S1, .lst false S2]), some (.lst false [.lst false S1, .lst false S2])]) := same_any (k := 3) true true (fun x hx => by
  simp only [List.mem_cons, List.not_mem_nil, or_false] at hx
  rcases hx with rfl | rfl
  · exact .lst h1
  · exact .lst h2) (by omega)
theorem Tu_0 {K : Nat} (f : Fx t ab A S1 S2 M1 M2 P1 P2) (hw : Wok (K + 10) w) (g0 : ∀ x ∈ T0, Gud x) (l0 : T0.length ≤ 600) (g2 : ∀ x ∈ T2, Gud x) : ∃ w' Y, turn (tgN 14) bodyTu (.int 0) (envT w m0 t ab up dn A S1 S2 M1 M2 P1 P2 (toldD T0 A T2 S1 S2) (.lst true []) none) = some (.nx (envT w' m0 t ab up dn A S1 S2 M1 M2 P1 P2 (toldD Y A T2 S1 S2) (.lst true [.lst true Y]) (some (.int 0)))) ∧ Wok K w' ∧ (∀ x ∈ Y, Gud x) := by
  obtain ⟨w', Y, sp, k', gY, lY⟩ := spoil_ok hw g0 l0
  refine ⟨w', Y, ?_, k', gY⟩
  have ow := hw.own
  have ow' := k'.own
  have cel := callElF_e (fn := fn_spoil) (iw := 0) (il := 12) (ix := 14) (ρ := envT w m0 t ab up dn A S1 S2 M1 M2 P1 P2 (toldD T0 A T2 S1 S2) (.lst true []) (some (.int 0))) (w := w) (y := .lst true T0) (xs := [.lst true T0, .lst true A, .lst true T2, .lst true S1, .lst true S2]) (j := 0) (k := 0) (by decide) rfl rfl rfl rfl rfl
  rw [sp] at cel
  have es : (t : Int) - (ab : Int) = ((t - ab : Nat) : Int) := by have := f.le; omega
  have a1 := same_any (k := 2) false false f.pA (by omega)
  have a2 := same_any (k := 2) true false f.pA (by omega)
  have a3 := same_any (k := 2) true false f.pS (by omega)
  have a4 := same_two f.pS f.pT
  have n1 := nosP f.pA
  have n2 := nosP f.pS
  have n3 := nosP f.pT
  have n4 := Gud.nos gY
  have n5 := Gud.nos g2
  have n6 := Gud.nos g0
  have f1 := freezes_of n1
  have f2 := freezes_of n2
  have f3 := freezes_of n3
  have f4 := freezes_of n4
  have f5 := freezes_of n5
  have f6 := freezes_of n6
  have pu := Gud.purs gY
  have li : listD [.lst false Y] = some (.lst true Y) := if_pos n4
  have ap := appD_e (xs := []) (.lst true Y) (by simp)
  have pd : ∀ a b c : D, noOwn a = true → noOwn b = true → noOwn c = true → partD true false [.lst false [a, b, c, .lst false S1, .lst false S2], .int 3] = some (.lst true [.lst false S1, .lst false S2]) := fun a b c h1 h2 h3 => partD_L (i := 3) (by simp [h1, h2, h3, n2, n3]) (by simp)
  have pd1 := pd (.lst false Y) (.lst false A) (.lst false T2) (by simp [n4]) (by simp [n1]) (by simp [n5])
  have pd2 := pd (.lst false A) (.lst false A) (.lst false S1) (by simp [n1]) (by simp [n1]) (by simp [n2])
  have am := f.am
  have s1 := f.s1
  have o1 := f.o1
  have q1 : fn_same.pins = [true, true] := rfl
  have q9 : fn_p_strings.pins = [true] := rfl
  have q12 : fn_p_all_mats.pins = [true, true] := rfl
  have fM1 := freeze_of f.o1
  have fM2 := freeze_of f.o2
  have fP1 := freeze_of f.o3
  have fP2 := freeze_of f.o4
  unfold envT duesD toldD at *
  rw [turn_e]
  unfold bodyTu
  simp [cel, es, a1, a2, a3, a4, n1, n2, n3, n4, n5, n6, f1, f2, f3, f4, f5, f6, pu, li, ap, pd1, pd2, am, s1, o1, q1, q9, q12, ow, ow', fM1, fM2, fP1, fP2, putB_t1, small_le]
end
end VS
set_option Elab.async false
set_option linter.all false
set_option maxRecDepth 100000
namespace VS
open PySem PySem.Spec PyProof.Rows L2 RZ
variable {w : D} {t ab up dn : Nat} {A S1 S2 T0 T2 : List D} {M1 M2 P1 P2 : D} {m0 : Int}
theorem Tu_2 {K : Nat} (f : Fx t ab A S1 S2 M1 M2 P1 P2) (hw : Wok (K + 10) w) (g0 : ∀ x ∈ T0, Gud x) (g2 : ∀ x ∈ T2, Gud x) (l2 : T2.length ≤ 600) : ∃ w' Y, turn (tgN 14) bodyTu (.int 2) (envT w m0 t ab up dn A S1 S2 M1 M2 P1 P2 (toldD T0 A T2 S1 S2) (.lst true [.lst true T0]) (some (.int 0))) = some (.nx (envT w' m0 t ab up dn A S1 S2 M1 M2 P1 P2 (toldD T0 A Y S1 S2) (.lst true [.lst true T0, .lst true Y]) (some (.int 2)))) ∧ Wok K w' ∧ (∀ x ∈ Y, Gud x) := by
  obtain ⟨w', Y, sp, k', gY, lY⟩ := spoil_ok hw g2 l2
  refine ⟨w', Y, ?_, k', gY⟩
  have ow := hw.own
  have ow' := k'.own
  have cel := callElF_e (fn := fn_spoil) (iw := 0) (il := 12) (ix := 14) (ρ := envT w m0 t ab up dn A S1 S2 M1 M2 P1 P2 (toldD T0 A T2 S1 S2) (.lst true [.lst true T0]) (some (.int 2))) (w := w) (y := .lst true T2) (xs := [.lst true T0, .lst true A, .lst true T2, .lst true S1, .lst true S2]) (j := 2) (k := 2) (by decide) rfl rfl rfl rfl rfl
  rw [sp] at cel
  have es : (t : Int) - (ab : Int) = ((t - ab : Nat) : Int) := by have := f.le; omega
  have a1 := same_any (k := 2) false false f.pA (by omega)
  have a2 := same_any (k := 2) true false f.pA (by omega)
  have a3 := same_any (k := 2) true false f.pS (by omega)
  have a4 := same_two f.pS f.pT
  have n1 := nosP f.pA
  have n2 := nosP f.pS
  have n3 := nosP f.pT
  have n4 := Gud.nos gY
  have n5 := Gud.nos g2
  have n6 := Gud.nos g0
  have f1 := freezes_of n1
  have f2 := freezes_of n2
  have f3 := freezes_of n3
  have f4 := freezes_of n4
  have f5 := freezes_of n5
  have f6 := freezes_of n6
  have pu := Gud.purs gY
  have li : listD [.lst false Y] = some (.lst true Y) := if_pos n4
  have ap := appD_e (xs := [.lst true T0]) (.lst true Y) (by simp)
  have pd : ∀ a b c : D, noOwn a = true → noOwn b = true → noOwn c = true → partD true false [.lst false [a, b, c, .lst false S1, .lst false S2], .int 3] = some (.lst true [.lst false S1, .lst false S2]) := fun a b c h1 h2 h3 => partD_L (i := 3) (by simp [h1, h2, h3, n2, n3]) (by simp)
  have pd1 := pd (.lst false T0) (.lst false A) (.lst false Y) (by simp [n6]) (by simp [n1]) (by simp [n4])
  have pd2 := pd (.lst false A) (.lst false A) (.lst false S1) (by simp [n1]) (by simp [n1]) (by simp [n2])
  have am := f.am
  have s1 := f.s1
  have o1 := f.o1
  have q1 : fn_same.pins = [true, true] := rfl
  have q9 : fn_p_strings.pins = [true] := rfl
  have q12 : fn_p_all_mats.pins = [true, true] := rfl
  have fM1 := freeze_of f.o1
  have fM2 := freeze_of f.o2
  have fP1 := freeze_of f.o3
  have fP2 := freeze_of f.o4
  unfold envT duesD toldD at *
  rw [turn_e]
  unfold bodyTu
  simp [cel, es, a1, a2, a3, a4, n1, n2, n3, n4, n5, n6, f1, f2, f3, f4, f5, f6, pu, li, ap, pd1, pd2, am, s1, o1, q1, q9, q12, ow, ow', fM1, fM2, fP1, fP2, putB_t1, small_le]
end VS
set_option Elab.async false
set_option linter.all false
set_option maxRecDepth 100000
namespace VS
open PySem PySem.Spec PyProof.Rows L2 RZ
mutual
theorem pyD_plain : ∀ d : D, (pyD d).plain = true
  | .non => rfl
  | .bl _ => rfl
  | .int _ => rfl
  | .str _ => rfl
  | .ty _ => rfl
  | .exc _ _ => rfl
  | .dct _ _ => rfl
  | .tup xs => pyDs_plain xs
  | .lst _ xs => pyDs_plain xs
  | .scr ns => by
    show PyData.plainAll (ns.map .int) = true
    induction ns with
    | nil => rfl
    | cons n ns ih => exact ih
theorem pyDs_plain : ∀ xs : List D, PyData.plainAll (pyDs xs) = true
  | [] => rfl
  | x :: xs => by
    show ((pyD x).plain && PyData.plainAll (pyDs xs)) = true
    rw [pyD_plain x, pyDs_plain xs]; rfl
end
theorem deq_refl (d : D) : deq d d = true := PySem.SeqAt.eqv_refl_plain _ (pyD_plain d)
end VS
set_option Elab.async false
set_option linter.all false
set_option maxRecDepth 100000
namespace VS
open PySem PySem.Spec PyProof.Rows L2 RZ
theorem rank_lc {u d : Nat} (h : u + d ≤ 14) (a0 a1 a2 a3 a4 a5 a6 a7 a8 a9 a10 a11 a12 a13 a14 : Option D) : goLc [15] (tgN 15) yesF (callF fn_p_rank [.b 15]) (alD u d) [a0, a1, a2, a3, a4, a5, a6, a7, a8, a9, a10, a11, a12, a13, a14, none] = some ((List.range (alD u d).length).map natD, [a0, a1, a2, a3, a4, a5, a6, a7, a8, a9, a10, a11, a12, a13, a14, none]) := by
  have el : (alD u d).length = (allL u d).length := by unfold alD; simp
  rw [el]
  have e : alD u d = (List.range (allL u d).length).map fun i => matD u d ((allL u d).getD i []) := by
    unfold alD
    conv => lhs; rw [← range_getDS (allL u d) []]
    rw [List.map_map]; rfl
  rw [e]
  refine goLc_mapI (fun i => matD u d ((allL u d).getD i [])) natD (List.range (allL u d).length) fun i hi => ?_
  have hn := rank_ok h (List.mem_range.mp hi)
  have om := noOwn_matD u d ((allL u d).getD i [])
  have p1 : fn_p_rank.pins = [true] := rfl
  rw [lcTurn_e]
  generalize matD u d ((allL u d).getD i []) = B at *
  unfold natD
  simp [hn, p1, om]
def finalF : FS :=
  seqF (ifF (lendB (orF (notF (tstF (.t (callF fn_same [.t (opF addD [.t (opF (partD true true) [.b 12, .t (asInt (litF (.int 1))), .t (asInt (litF (.int 2)))]), .t (opF (partD true false) [.b 12, .t (litF (.int 3))])]), .t (opF addD [.t (opF (partD true true) [.b 11, .t (asInt (litF (.int 1))), .t (asInt (litF (.int 2)))]), .t (opF (partD true false) [.b 11, .t (litF (.int 3))])])])))) (orF (bT (opF (neD) [.t (opF ixD [.b 12, .t (litF (.int 0))]), .t (opF ixD [.b 13, .t (litF (.int 0))])])) (bT (opF (neD) [.t (opF ixD [.b 12, .t (litF (.int 2))]), .t (opF ixD [.b 13, .t (litF (.int 1))])]))))) (retF (lendF (litF (.bl false)))) (passF)) <|
  seqF (ifF (lendB (andF (bT (opF (ltD) [.b 2, .t (litF (.int 9))])) (notF (tstF (.t (callF fn_same [.t (lcF [15] (itSeq (opF ixD [.b 12, .t (litF (.int 1))])) (tgN 15) (yesF) (callF fn_p_rank [.b 15])), .t (opF (lrgD rng1D) [.t (opF lenD [.b 4])])])))))) (retF (lendF (litF (.bl false)))) (passF)) <|
  retF (lendF (callF fn_same [.t (callF fn_p_strings [.b 10]), .t (opF ixD [.b 11, .t (litF (.int 4))])]))
theorem same_three {A S1 S2 : List D} (h0 : ∀ x ∈ A, Plain 2 x) (h1 : ∀ x ∈ S1, Plain 2 x) (h2 : ∀ x ∈ S2, Plain 2 x) : fn_same.sem [.lst true [.lst false A, .lst false S1, .lst false S2], .lst true [.lst false A, .lst false S1, .lst false S2]] = some (.bl true, [some (.lst false [.lst false A, .lst false S1, .lst false S2]), some (.lst false [.lst false A, .lst false S1, .lst false S2])]) := same_any (k := 3) true true (fun x hx => by
  simp only [List.mem_cons, List.not_mem_nil, or_false] at hx
  rcases hx with rfl | rfl | rfl
  · exact .lst h0
  · exact .lst h1
  · exact .lst h2) (by omega)
theorem final_ok {w : D} {t ab up dn : Nat} {A S1 S2 Y Z : List D} {M1 M2 P1 P2 : D} {m0 : Int} {a14 : Int} (f : Fx t ab A S1 S2 M1 M2 P1 P2) (ow : noOwn w = false) (gY : ∀ x ∈ Y, Gud x) (gZ : ∀ x ∈ Z, Gud x) (hA : A = alD ab (t - ab)) (ht : t ≤ 14) (hl : A.length ≤ 1000) :
    finalF (envT w m0 t ab up dn A S1 S2 M1 M2 P1 P2 (toldD Y A Z S1 S2) (.lst true [.lst true Y, .lst true Z]) (some (.int a14))) = some (.rt (.bl true) (envT w m0 t ab up dn A S1 S2 M1 M2 P1 P2 (toldD Y A Z S1 S2) (.lst true [.lst true Y, .lst true Z]) (some (.int a14)))) := by
  have le := f.le
  have lc := rank_lc (u := ab) (d := t - ab) (by omega)
  rw [← hA] at lc
  have a1 := same_three f.pA f.pS f.pT
  have a2 := same_any (k := 2) true false f.pT (by omega)
  have a3 := same_any (k := 0) (xs := (List.range A.length).map natD) true true (fun x hx => by
    obtain ⟨i, _, rfl⟩ := List.mem_map.mp hx
    exact .int _) (by omega)
  have n1 := nosP f.pA
  have n2 := nosP f.pS
  have n3 := nosP f.pT
  have n4 := Gud.nos gY
  have n5 := Gud.nos gZ
  have f1 := freezes_of n1
  have f2 := freezes_of n2
  have f3 := freezes_of n3
  have f4 := freezes_of n4
  have f5 := freezes_of n5
  have e1 := Gud.eqok false gY
  have e2 := Gud.eqok false gZ
  have d1 := deq_refl (.lst false Y)
  have d2 := deq_refl (.lst false Z)
  have pd : ∀ a b c : D, noOwn a = true → noOwn b = true → noOwn c = true → partD true false [.lst false [a, b, c, .lst false S1, .lst false S2], .int 3] = some (.lst true [.lst false S1, .lst false S2]) := fun a b c h1 h2 h3 => partD_L (i := 3) (by simp [h1, h2, h3, n2, n3]) (by simp)
  have pd1 := pd (.lst false Y) (.lst false A) (.lst false Z) (by simp [n4]) (by simp [n1]) (by simp [n5])
  have pd2 := pd (.lst false A) (.lst false A) (.lst false S1) (by simp [n1]) (by simp [n1]) (by simp [n2])
  have pe : ∀ a b c d e : D, noOwns [a, b, c, d, e] = true → partD true true [.lst false [a, b, c, d, e], .int 1, .int 2] = some (.lst true [b]) := fun a b c d e h => by
    show (if noOwns [a, b, c, d, e] = true then some (D.lst true (cutD [a, b, c, d, e] (some 1) (some 2))) else none) = _
    rw [if_pos h]
    rfl
  have pe1 := pe (.lst false Y) (.lst false A) (.lst false Z) (.lst false S1) (.lst false S2) (by simp [n1, n2, n3, n4, n5])
  have pe2 := pe (.lst false A) (.lst false A) (.lst false S1) (.lst false S1) (.lst false S2) (by simp [n1, n2, n3])
  have ad := addD_l (o := true) (o' := true) (xs := [.lst false A]) (ys := [.lst false S1, .lst false S2]) (by simp [n1]) (by simp [n2, n3]) (by simp)
  have r1 := rng1_nat (u := A.length) (by omega)
  have g1 := lrgK_e (xs := (List.range A.length).map natD) (by simp; omega)
  have nR := noOwns_natDs (List.range A.length)
  have zR : decide (((List.range A.length).map natD).length ≤ smallL) = true := small_le (by simp; omega)
  have s2 := f.s2
  have o1 := f.o1
  have o2 := f.o2
  have q1 : fn_same.pins = [true, true] := rfl
  have q9 : fn_p_strings.pins = [true] := rfl
  have fM1 := freeze_of f.o1
  have fM2 := freeze_of f.o2
  have fP1 := freeze_of f.o3
  have fP2 := freeze_of f.o4
  have as1 : ∀ (i : Int) (ρ : Env), asInt (litF (.int i)) ρ = some (.int i, ρ) := fun _ _ => rfl
  have at4 : ∀ a b c d e : D, atI [a, b, c, d, e] 4 = some e := fun _ _ _ _ _ => rfl
  clear hA
  unfold envT duesD toldD finalF
  generalize (List.range A.length).map natD = RR at *
  by_cases c : (t : Int) < 9
  · simp [as1, at4, c, lc, a1, a2, a3, n1, n2, n3, n4, n5, f1, f2, f3, f4, f5, e1, e2, d1, d2, pd1, pd2, pe1, pe2, ad, r1, g1, nR, zR, s2, o1, o2, q1, q9, ow, fM1, fM2, fP1, fP2, putB_t1, small_le]
  · simp [as1, at4, c, lc, a1, a2, a3, n1, n2, n3, n4, n5, f1, f2, f3, f4, f5, e1, e2, d1, d2, pd1, pd2, pe1, pe2, ad, r1, g1, nR, zR, s2, o1, o2, q1, q9, ow, fM1, fM2, fP1, fP2, putB_t1, small_le]
end VS
set_option Elab.async false
set_option linter.all false
set_option maxRecDepth 100000
namespace VS
open PySem PySem.Spec PyProof.Rows L2 RZ
theorem F_right_e : F_right = (
  seqF (asgF (callF fn_draw [.b 0, .t (opF addD [.b 1, .t (litF (.int 1))])]) (tgN 2)) <|
  seqF (asgF (callF fn_draw [.b 0, .t (opF addD [.b 2, .t (litF (.int 1))])]) (tgN 3)) <|
  seqF (asgF (callF fn_all [.b 3, .t (opF subD [.b 2, .b 3])]) (tgN 4)) <|
  seqF (asgF (callF fn_counts [.b 0, .t (litF (.int 16))]) (tgT 2 (tgCons (tgN 5) (tgCons (tgN 6) (tgNil))))) <|
  seqF (parF [7, 8] [.t (callF fn_pairs [.b 0, .b 5, .b 6]), .t (callF fn_pairs [.b 0, .b 5, .b 6])]) <|
  seqF (parF [9, 10] [.t (callF fn_made [.b 5, .b 6, .b 7]), .t (callF fn_made [.b 5, .b 6, .b 8])]) <|
  seqF (asgF (lstF [.t (varF 4), .t (varF 4), .t (callF fn_ends [.b 5, .b 7]), .t (callF fn_ends [.b 5, .b 7]), .t (callF fn_ends [.b 5, .b 8])]) (tgN 11)) <|
  seqF (asgF (lstF [.t (callF fn_p_all_mats [.b 3, .t (opF subD [.b 2, .b 3])]), .t (callF fn_p_all_mats [.b 3, .t (opF subD [.b 2, .b 3])])]) (tgN 12)) <|
  seqF (asgF (catMvF 12 (lstF [.t (callF fn_p_strings [.b 9]), .t (callF fn_p_strings [.b 9]), .t (callF fn_p_strings [.b 10])])) (tgN 12)) <|
  seqF (ifF (lendB (notF (tstF (.t (callF fn_same [.b 12, .b 11]))))) (retF (lendF (litF (.bl false)))) (passF)) <|
  seqF (asgF (lstF []) (tgN 13)) <|
  seqF (forF (itSeq (tupF [.t (litF (.int 0)), .t (litF (.int 2))])) (tgN 14) bodyTu) <|
  finalF) := rfl
theorem same_five {A S1 S2 : List D} (h0 : ∀ x ∈ A, Plain 2 x) (h1 : ∀ x ∈ S1, Plain 2 x) (h2 : ∀ x ∈ S2, Plain 2 x) : fn_same.sem [.lst false [.lst false A, .lst false A, .lst false S1, .lst false S1, .lst false S2], .lst false [.lst false A, .lst false A, .lst false S1, .lst false S1, .lst false S2]] = some (.bl true, [some (.lst false [.lst false A, .lst false A, .lst false S1, .lst false S1, .lst false S2]), some (.lst false [.lst false A, .lst false A, .lst false S1, .lst false S1, .lst false S2])]) := same_any (k := 3) false false (fun x hx => by
  simp only [List.mem_cons, List.not_mem_nil, or_false] at hx
  rcases hx with rfl | rfl | rfl | rfl | rfl
  · exact .lst h0
  · exact .lst h0
  · exact .lst h1
  · exact .lst h1
  · exact .lst h2) (by omega)
theorem manyN_le {T : Nat} (h : T ≤ 14) : manyN T ≤ 600 := by
  have key : ∀ T, T < 15 → manyN T ≤ 600 := by decide
  exact key T (by omega)
theorem strs_len (r : List Nat) : (strsL r).length ≤ r.length := by
  have := List.length_filter_le (fun p : Nat × Nat => decide (p.1 < p.2)) (enumP r)
  have h2 : (enumP r).length ≤ r.length := by unfold enumP; rw [List.length_zip]; omega
  unfold strsL
  omega
theorem right_ok {w : D} {most : Nat} (hw : Wok 4000 w) (hm : most ≤ 12) : ∃ os, fn_right.sem [w, .int (most : Nat)] = some (.bl true, os) := by
  obtain ⟨t, ab, up, dn, r1, r2, P1, P2, w1, ht, hab, i1, i2, hs, p1, p2, k1, hA⟩ := head_A hw hm
  obtain ⟨am, al⟩ := all_mats_ok (u := ab) (d := t - ab) (by omega)
  have f : Fx t ab (alD ab (t - ab)) (strD r1) (strD r2) (matD up dn r1) (matD up dn r2) P1 P2 := ⟨hab, plain_A _ _, plain_S _, plain_S _, am, strings_ok i1 (by omega), strings_ok i2 (by omega), noOwn_matD _ _ _, noOwn_matD _ _ _, p1, p2⟩
  have lA : (alD ab (t - ab)).length ≤ 600 := by
    have e : (alD ab (t - ab)).length = manyN (ab + (t - ab)) := by
      unfold alD
      rw [List.length_map]
      exact al
    rw [e]
    exact manyN_le (by omega)
  have lS : (strD r1).length ≤ 600 := by
    have := strs_len r1
    unfold strD
    rw [List.length_map]
    have := i1.len
    omega
  obtain ⟨w2, Y, t1, k2, gY⟩ := Tu_0 (K := 900) (w := w1) (up := up) (dn := dn) (m0 := (most : Int)) (T0 := alD ab (t - ab)) (T2 := strD r1) f (k1.le (by omega)) (gud_A _ _) lA (gud_S _)
  obtain ⟨w3, Z, t2, k3, gZ⟩ := Tu_2 (K := 800) (w := w2) (up := up) (dn := dn) (m0 := (most : Int)) (T0 := Y) (T2 := strD r1) f (k2.le (by omega)) gY (gud_S _) lS
  have fin := final_ok (up := up) (dn := dn) (m0 := (most : Int)) (a14 := 2) f k3.own gY gZ rfl (by omega) (by omega)
  have g : goFor (tgN 14) bodyTu [.int 0, .int 2] (envT w1 (most : Int) t ab up dn (alD ab (t - ab)) (strD r1) (strD r2) (matD up dn r1) (matD up dn r2) P1 P2 (toldD (alD ab (t - ab)) (alD ab (t - ab)) (strD r1) (strD r1) (strD r2)) (.lst true []) none) = some (.nx (envT w3 (most : Int) t ab up dn (alD ab (t - ab)) (strD r1) (strD r2) (matD up dn r1) (matD up dn r2) P1 P2 (toldD Y (alD ab (t - ab)) Z (strD r1) (strD r2)) (.lst true [.lst true Y, .lst true Z]) (some (.int 2)))) := by
    rw [goFor_cons, t1]
    show goFor _ _ _ _ = _
    rw [goFor_cons, t2]
    rfl
  have a1 := same_five f.pA f.pS f.pT
  have n1 := nosP f.pA
  have n2 := nosP f.pS
  have n3 := nosP f.pT
  have f1 := freezes_of n1
  have f2 := freezes_of n2
  have f3 := freezes_of n3
  have fM1 := freeze_of f.o1
  have fM2 := freeze_of f.o2
  have fP1 := freeze_of f.o3
  have fP2 := freeze_of f.o4
  have q1 : fn_same.pins = [true, true] := rfl
  have ow := k1.own
  have hd : ([some w, some (.int (most : Nat)), none, none, none, none, none, none, none, none, none, none, none, none, none, none] : Env) = [w, .int (most : Nat)].map some ++ List.replicate (16 - 2) none := rfl
  clear t1 t2
  unfold fn_right
  rw [F_right_e, bodyFn_sem, ← hd, hA]
  clear hA hd lA lS am al
  generalize alD ab (t - ab) = A at *
  generalize strD r1 = S1 at *
  generalize strD r2 = S2 at *
  generalize matD up dn r1 = M1 at *
  generalize matD up dn r2 = M2 at *
  generalize bodyTu = BB at *
  generalize finalF = FF at *
  unfold envT duesD toldD at *
  simp [a1, n1, n2, n3, f1, f2, f3, fM1, fM2, fP1, fP2, q1, ow, g, fin, putB_t1, small_le]
theorem turns12 {len : Nat} : ∃ k : Nat, (k : Int) = (if (if (12 : Int) < (len : Int) then 12 else (len : Int)) > 3 then (if (12 : Int) < (len : Int) then 12 else (len : Int)) else 3) ∧ k ≤ 100 := by
  refine ⟨if (if 12 < len then 12 else len) > 3 then (if 12 < len then 12 else len) else 3, ?_, ?_⟩
  · split <;> split <;> split <;> omega
  · split <;> split <;> omega
theorem putB_t2 (f g : FE) (d e : D) (os : List (Option D)) (ρ : Env) : putB [.t f, .t g] [d, e] os ρ = ρ := by
  cases os with
  | nil => rfl
  | cons o os => cases os <;> rfl
def bodyL : FS := ifF (notF (tstF (.t (callF fn_right [.t (callF fn_well [.b 0, .b 1]), .t (opF ixD [.t (lstF [.t (litF (.int 8)), .t (litF (.int 12))]), .t (opF intD [.t (opF eqD [.b 1, .t (litF (.int 0))])])])])))) (retF (litF (.bl false))) (passF)
theorem law_holds : ∀ ns : List Int, ns.length ≤ 63 → ∃ os, fn_law.sem [.scr ns] = some (.bl true, os) := by
  intro ns hns
  obtain ⟨k, hk, hk2⟩ := turns12 (len := ns.length)
  obtain ⟨ρ', h1, a, rfl⟩ := for_inv (tg := tgN 1) (body := bodyL) (ds := (List.range k).map natD) (ρ := [some (.scr ns), none]) (fun _ ρ => ∃ a, ρ = [some (.scr ns), a]) ⟨none, rfl⟩ (by
    rintro i d ρ hd ⟨a, rfl⟩
    rw [List.getElem?_map] at hd
    obtain ⟨p, hp, rfl⟩ := Option.map_eq_some_iff.mp hd
    have hp2 := List.mem_range.mp (List.mem_of_getElem? hp)
    obtain ⟨w, e1, kw⟩ := well_ok (ns := ns) (p := p) (by omega)
    obtain ⟨os, e2⟩ := right_ok (most := 8) (kw.le (by omega)) (by omega)
    obtain ⟨os2, e3⟩ := right_ok (most := 12) (kw.le (by omega)) (by omega)
    have e2 : fn_right.sem [w, .int 8] = some (.bl true, os) := e2
    have e3 : fn_right.sem [w, .int 12] = some (.bl true, os2) := e3
    refine ⟨_, .inl ?_, some (.int (p : Nat)), rfl⟩
    have q1 : fn_right.pins = [true, true] := rfl
    have q2 : fn_well.pins = [true, true] := rfl
    have ow := kw.own
    have x0 : atI [D.int 8, D.int 12] 0 = some (.int 8) := rfl
    have x1 : atI [D.int 8, D.int 12] 1 = some (.int 12) := rfl
    rw [turn_e, natD_i]
    unfold bodyL
    by_cases c : p = 0
    · subst c
      have e1 : fn_well.sem [.scr ns, .int 0] = some (w, [some (.scr ns), some (.int 0)]) := e1
      simp [e1, e3, q1, q2, ow, x0, x1, putB_t1, putB_t2, small_le]
    · have c' : ¬ (p : Int) = 0 := by omega
      simp [e1, e2, q1, q2, ow, x0, x1, c, c', putB_t1, putB_t2, small_le])
  have r1 := rng1_nat (u := k) (by omega)
  rw [hk] at r1
  unfold bodyL at h1
  unfold fn_law F_law
  rw [bodyFn_sem]
  simp [-gt_iff_lt, r1, h1]
end VS
set_option Elab.async false
set_option linter.all false
set_option maxRecDepth 100000
set_option maxHeartbeats 0
namespace VS
open PySem PySem.Spec PyProof.Rows L2 RZ
/-! what the top has written -/
structure Tx (K : PySem.W.Frag) (mg : Str → Option Value) where
  f_made : Addr
  fd_made : FuncData
  F_made : Fun K "_law_made" "_law_made" s_made f_made fd_made
  b_made : Binds K fd_made ["_law_up", "_law_down", "_law_pairs_here"] []
  g_made : mg "_law_made" = some (.ref f_made)
  f_ring : Addr
  fd_ring : FuncData
  F_ring : Fun K "_law_ring" "_law_ring" s_ring f_ring fd_ring
  b_ring : Binds K fd_ring ["_law_up", "_law_down"] []
  g_ring : mg "_law_ring" = some (.ref f_ring)
  f_all : Addr
  fd_all : FuncData
  F_all : Fun K "_law_all" "_law_all" s_all f_all fd_all
  b_all : Binds K fd_all ["_law_up", "_law_down"] []
  g_all : mg "_law_all" = some (.ref f_all)
  f_draw : Addr
  fd_draw : FuncData
  F_draw : Fun K "_law_draw" "_law_draw" s_draw f_draw fd_draw
  b_draw : Binds K fd_draw ["_law_well_here", "_law_limit"] []
  g_draw : mg "_law_draw" = some (.ref f_draw)
  f_counts : Addr
  fd_counts : FuncData
  F_counts : Fun K "_law_counts" "_law_counts" s_counts f_counts fd_counts
  b_counts : Binds K fd_counts ["_law_well_here", "_law_most"] []
  g_counts : mg "_law_counts" = some (.ref f_counts)
  f_ends : Addr
  fd_ends : FuncData
  F_ends : Fun K "_law_ends" "_law_ends" s_ends f_ends fd_ends
  b_ends : Binds K fd_ends ["_law_up", "_law_pairs_here"] []
  g_ends : mg "_law_ends" = some (.ref f_ends)
  f_pairs : Addr
  fd_pairs : FuncData
  F_pairs : Fun K "_law_pairs" "_law_pairs" s_pairs f_pairs fd_pairs
  b_pairs : Binds K fd_pairs ["_law_well_here", "_law_up", "_law_down"] []
  g_pairs : mg "_law_pairs" = some (.ref f_pairs)
  f_same : Addr
  fd_same : FuncData
  F_same : Fun K "_law_same" "_law_same" s_same f_same fd_same
  b_same : Binds K fd_same ["_law_found", "_law_due"] []
  g_same : mg "_law_same" = some (.ref f_same)
  f_spoil : Addr
  fd_spoil : FuncData
  F_spoil : Fun K "_law_spoil" "_law_spoil" s_spoil f_spoil fd_spoil
  b_spoil : Binds K fd_spoil ["_law_well_here", "_law_rows"] []
  g_spoil : mg "_law_spoil" = some (.ref f_spoil)
  f_p_check_counts : Addr
  fd_p_check_counts : FuncData
  F_p_check_counts : Fun K "check_counts" "check_counts" s_p_check_counts f_p_check_counts fd_p_check_counts
  b_p_check_counts : Binds K fd_p_check_counts ["n", "m"] []
  g_p_check_counts : mg "check_counts" = some (.ref f_p_check_counts)
  f_p_patterns : Addr
  fd_p_patterns : FuncData
  F_p_patterns : Fun K "patterns" "patterns" s_p_patterns f_p_patterns fd_p_patterns
  b_p_patterns : Binds K fd_p_patterns ["half"] []
  g_p_patterns : mg "patterns" = some (.ref f_p_patterns)
  f_p_remade : Addr
  fd_p_remade : FuncData
  F_p_remade : Fun K "remade" "remade" s_p_remade f_p_remade fd_p_remade
  b_p_remade : Binds K fd_p_remade ["n", "m", "mates", "place"] []
  g_p_remade : mg "remade" = some (.ref f_p_remade)
  f_p_round_of : Addr
  fd_p_round_of : FuncData
  F_p_round_of : Fun K "round_of" "round_of" s_p_round_of f_p_round_of fd_p_round_of
  b_p_round_of : Binds K fd_p_round_of ["n", "m"] []
  g_p_round_of : mg "round_of" = some (.ref f_p_round_of)
  f_p_all_mats : Addr
  fd_p_all_mats : FuncData
  F_p_all_mats : Fun K "all_mats" "all_mats" s_p_all_mats f_p_all_mats fd_p_all_mats
  b_p_all_mats : Binds K fd_p_all_mats ["n", "m"] []
  g_p_all_mats : mg "all_mats" = some (.ref f_p_all_mats)
  f_p_is_mat : Addr
  fd_p_is_mat : FuncData
  F_p_is_mat : Fun K "is_mat" "is_mat" s_p_is_mat f_p_is_mat fd_p_is_mat
  b_p_is_mat : Binds K fd_p_is_mat ["told"] []
  g_p_is_mat : mg "is_mat" = some (.ref f_p_is_mat)
  f_p_checked_mat : Addr
  fd_p_checked_mat : FuncData
  F_p_checked_mat : Fun K "checked_mat" "checked_mat" s_p_checked_mat f_p_checked_mat fd_p_checked_mat
  b_p_checked_mat : Binds K fd_p_checked_mat ["mat"] []
  g_p_checked_mat : mg "checked_mat" = some (.ref f_p_checked_mat)
  f_p_rank : Addr
  fd_p_rank : FuncData
  F_p_rank : Fun K "rank" "rank" s_p_rank f_p_rank fd_p_rank
  b_p_rank : Binds K fd_p_rank ["mat"] []
  g_p_rank : mg "rank" = some (.ref f_p_rank)
  f_p_strings : Addr
  fd_p_strings : FuncData
  F_p_strings : Fun K "strings" "strings" s_p_strings f_p_strings fd_p_strings
  b_p_strings : Binds K fd_p_strings ["mat"] []
  g_p_strings : mg "strings" = some (.ref f_p_strings)
  f_right : Addr
  fd_right : FuncData
  F_right : Fun K "_law_right" "_law_right" s_right f_right fd_right
  b_right : Binds K fd_right ["_law_well_here", "_law_most"] []
  g_right : mg "_law_right" = some (.ref f_right)
  f_well : Addr
  fd_well : FuncData
  F_well : Fun K "_law_well" "_law_well" s_well f_well fd_well
  b_well : Binds K fd_well ["_law_script", "_law_place"] []
  g_well : mg "_law_well" = some (.ref f_well)
  f_law : Addr
  fd_law : FuncData
  F_law : Fun K "law" "law" s_law f_law fd_law
  b_law : Binds K fd_law ["_law_script"] []
  g_law : mg "law" = some (.ref f_law)
  z_bool : mg "bool" = none
  z_enumerate : mg "enumerate" = none
  z_int : mg "int" = none
  z_isinstance : mg "isinstance" = none
  z_len : mg "len" = none
  z_list : mg "list" = none
  z_max : mg "max" = none
  z_min : mg "min" = none
  z_range : mg "range" = none
  z_sorted : mg "sorted" = none
  z_str : mg "str" = none
  z_tuple : mg "tuple" = none
  z_zip : mg "zip" = none
section
variable {P : Program} {w : World} {K : PySem.W.Frag} {mg : Str → Option Value} {base : Heap}
theorem ok_made (T : Tx K mg) : FnOk P w K mg base CX0 1 T.f_made T.fd_made ["_law_up", "_law_down", "_law_pairs_here"] (spOf K fn_made) := by
  unfold fn_made
  refine fn_ok (k := 0) (x := "_law_made") (qual := "_law_made") (st := s_made) (N := ["_law_up", "_law_down", "_law_pairs_here", "_law_row", "_law_left", "_law_right_here", "_law_start", "_law_goal"]) (ps := ["_law_up", "_law_down", "_law_pairs_here"]) (pins := [true, true, true]) (fb := F_made) T.F_made sc_made rfl (by decide) ?_
  intro cdv A outer s H E hr
  unfold F_made
  exact psf_cons (f := asgF (opF mulD [.t (lstF [.t (litF (.int 0))]), .t (opF addD [.b 0, .b 1])]) (tgN 3)) (psf_set (i := 3) sc_made.nd rfl (by first | exact .inl rfl | exact .inr rfl) (by decide) (pf_bin op_mulA vok_mul (po_t (pf_lst (paf_cons (o := .t (litF (.int 0))) (po_t (pf_int)) paf_nil))) (po_t (pf_bin op_addA vok_add (po_b (pv 0)) (po_b (pv 1))))))
      (psf_cons (f := forF (itSeq (varF 2)) (tgT 2 (tgCons (tgN 4) (tgCons (tgN 5) (tgNil)))) (seqF (parF [6, 7] [.t (opF addD [.t (opF mulD [.t (opF ixD [.b 4, .t (litF (.int 0))]), .b 0]), .t (opF ixD [.b 4, .t (litF (.int 1))])]), .t (opF addD [.t (opF mulD [.t (opF ixD [.b 5, .t (litF (.int 0))]), .b 0]), .t (opF ixD [.b 5, .t (litF (.int 1))])])]) <|
      asgF (tupF [.t (varF 7), .t (varF 6)]) (tgT 2 (tgCons (tgSub 3 (.b 6)) (tgCons (tgSub 3 (.b 7)) (tgNil)))))) (psf_for (fi := itSeq (varF 2)) (g := tgT 2 (tgCons (tgN 4) (tgCons (tgN 5) (tgNil)))) PassesOwn.never rfl (pif_seq (pf_var (pv 2))) (pgf_tup rfl (pgsf_cons (pgf_name (i := 4) sc_made.nd rfl (by first | exact .inl rfl | exact .inr rfl) (by decide)) (pgsf_cons (pgf_name (i := 5) sc_made.nd rfl (by first | exact .inl rfl | exact .inr rfl) (by decide)) (pgsf_nil)))) (psf_cons (f := parF [6, 7] [.t (opF addD [.t (opF mulD [.t (opF ixD [.b 4, .t (litF (.int 0))]), .b 0]), .t (opF ixD [.b 4, .t (litF (.int 1))])]), .t (opF addD [.t (opF mulD [.t (opF ixD [.b 5, .t (litF (.int 0))]), .b 0]), .t (opF ixD [.b 5, .t (litF (.int 1))])])]) (psf_par2 (i := 6) (j := 7) rfl sc_made.nd rfl rfl  (by decide)  (by decide) rfl rfl  (paf_cons (o := .t (opF addD [.t (opF mulD [.t (opF ixD [.b 4, .t (litF (.int 0))]), .b 0]), .t (opF ixD [.b 4, .t (litF (.int 1))])])) (po_t (pf_bin op_addA vok_add (po_t (pf_bin op_mulA vok_mul (po_t (pf_ix ix_seq vok_ix (po_b (pv 4)) (po_t (pf_int)) (fun _ _ => rfl))) (po_b (pv 0)))) (po_t (pf_ix ix_seq vok_ix (po_b (pv 4)) (po_t (pf_int)) (fun _ _ => rfl))))) (paf_cons (o := .t (opF addD [.t (opF mulD [.t (opF ixD [.b 5, .t (litF (.int 0))]), .b 0]), .t (opF ixD [.b 5, .t (litF (.int 1))])])) (po_t (pf_bin op_addA vok_add (po_t (pf_bin op_mulA vok_mul (po_t (pf_ix ix_seq vok_ix (po_b (pv 5)) (po_t (pf_int)) (fun _ _ => rfl))) (po_b (pv 0)))) (po_t (pf_ix ix_seq vok_ix (po_b (pv 5)) (po_t (pf_int)) (fun _ _ => rfl))))) paf_nil)) rfl)
      (psf_one (psf_asg (f := tupF [.t (varF 7), .t (varF 6)]) (g := tgT 2 (tgCons (tgSub 3 (.b 6)) (tgCons (tgSub 3 (.b 7)) (tgNil)))) (pf_tup (paf_cons (o := .t (varF 7)) (po_t (pf_var (pv 7))) (paf_cons (o := .t (varF 6)) (po_t (pf_var (pv 6))) paf_nil))) (pgf_tup rfl (pgsf_cons (pgf_sub (k := 3) (oi := .b 6) (pv 3) (po_b (pv 6))) (pgsf_cons (pgf_sub (k := 3) (oi := .b 7) (pv 3) (po_b (pv 7))) (pgsf_nil))))))))
      (psf_one (psf_ret (pf_tup (paf_cons (o := .t (varF 0)) (po_t (pf_var (pv 0))) (paf_cons (o := .t (varF 1)) (po_t (pf_var (pv 1))) (paf_cons (o := .t (opF tupleD [.b 3])) (po_t (pf_callTy call_tuple_of vok_tuple (by rfl) T.z_tuple boot_tuple (paf_cons (o := .b 3) (po_b (pv 3)) paf_nil))) paf_nil)))))))
theorem ok_ring (T : Tx K mg) : FnOk P w K mg base CX0 1 T.f_ring T.fd_ring ["_law_up", "_law_down"] (spOf K fn_ring) := by
  unfold fn_ring
  refine fn_ok (k := 0) (x := "_law_ring") (qual := "_law_ring") (st := s_ring) (N := ["_law_up", "_law_down", "_law_at"]) (ps := ["_law_up", "_law_down"]) (pins := [true, true]) (fb := F_ring) T.F_ring sc_ring rfl (by decide) ?_
  intro cdv A outer s H E hr
  unfold F_ring
  exact psf_one (psf_ret (pf_bin op_addA vok_add (po_t (pf_lc (own := [("_law_at", 2)]) (fi := itRg rng1D [.b 0]) (fg := tgN 2) (ft := yesF) (fe := tupF [.t (litF (.int 0)), .t (varF 2)]) rfl sc_ring.nd (pif_rng1 (by rfl) T.z_range (paf_cons (o := .b 0) (po_b (pv 0)) paf_nil)) (blkOk_by (own := [("_law_at", 2)]) (by rfl)) (fun _ _ _ _ _ => pgf_name (i := 2) sc_ring.nd rfl (by first | exact .inl rfl | exact .inr rfl) (by decide)) (fun _ _ _ _ _ => ptsf_nil) (fun _ _ _ _ _ => pf_tup (paf_cons (o := .t (litF (.int 0))) (po_t (pf_int)) (paf_cons (o := .t (varF 2)) (po_t (pf_var (pv 2))) paf_nil))))) (po_t (pf_lc (own := [("_law_at", 2)]) (fi := itRg rng3D [.t (opF subD [.b 1, .t (litF (.int 1))]), .t (opF negD [.t (litF (.int 1))]), .t (opF negD [.t (litF (.int 1))])]) (fg := tgN 2) (ft := yesF) (fe := tupF [.t (litF (.int 1)), .t (varF 2)]) rfl sc_ring.nd (pif_rng3 (by rfl) T.z_range (paf_cons (o := .t (opF subD [.b 1, .t (litF (.int 1))])) (po_t (pf_bin op_sub vok_sub (po_b (pv 1)) (po_t (pf_int)))) (paf_cons (o := .t (opF negD [.t (litF (.int 1))])) (po_t (pf_un un_neg vok_neg (po_t (pf_int)))) (paf_cons (o := .t (opF negD [.t (litF (.int 1))])) (po_t (pf_un un_neg vok_neg (po_t (pf_int)))) paf_nil)))) (blkOk_by (own := [("_law_at", 2)]) (by rfl)) (fun _ _ _ _ _ => pgf_name (i := 2) sc_ring.nd rfl (by first | exact .inl rfl | exact .inr rfl) (by decide)) (fun _ _ _ _ _ => ptsf_nil) (fun _ _ _ _ _ => pf_tup (paf_cons (o := .t (litF (.int 1))) (po_t (pf_int)) (paf_cons (o := .t (varF 2)) (po_t (pf_var (pv 2))) paf_nil)))))))
theorem ok_all (T : Tx K mg) : FnOk P w K mg base CX0 2 T.f_all T.fd_all ["_law_up", "_law_down"] (spOf K fn_all) := by
  unfold fn_all
  refine fn_ok (k := 1) (x := "_law_all") (qual := "_law_all") (st := s_all) (N := ["_law_up", "_law_down", "_law_ring_here", "_law_rows", "_law_at", "_law_longer", "_law_waiting", "_law_pairs_here"]) (ps := ["_law_up", "_law_down"]) (pins := [true, true]) (fb := F_all) T.F_all sc_all rfl (by decide) ?_
  intro cdv A outer s H E hr
  unfold F_all
  exact psf_cons (f := parF [2, 3] [.t (callF fn_ring [.b 0, .b 1]), .t (lstF [.t (tupF [.t (tupF []), .t (tupF [])])])]) (psf_par2 (i := 2) (j := 3) rfl sc_all.nd rfl rfl  (by decide)  (by decide) rfl rfl  (paf_cons (o := .t (callF fn_ring [.b 0, .b 1])) (po_t (pf_call (ok_ring T) (hr.mono (by decide)) (by rfl) T.g_ring T.F_ring.kp T.b_ring (paf_cons (o := .b 0) (po_b (pv 0)) (paf_cons (o := .b 1) (po_b (pv 1)) paf_nil)))) (paf_cons (o := .t (lstF [.t (tupF [.t (tupF []), .t (tupF [])])])) (po_t (pf_lst (paf_cons (o := .t (tupF [.t (tupF []), .t (tupF [])])) (po_t (pf_tup (paf_cons (o := .t (tupF [])) (po_t (pf_tup paf_nil)) (paf_cons (o := .t (tupF [])) (po_t (pf_tup paf_nil)) paf_nil)))) paf_nil))) paf_nil)) rfl)
      (psf_cons (f := ifF (bT (opF (eqD) [.b 2, .t (lstF [])])) (retF (lstF [])) (passF)) (psf_if (fc := bT (opF (eqD) [.b 2, .t (lstF [])])) (pt_cmpf (op_eqD hr.units) vok_eq (po_b (pv 2)) (po_t (pf_lst paf_nil)) (nomark _)) (psf_one (psf_ret (pf_lst paf_nil))) (psf_nil))
      (psf_cons (f := forF (itRg rng1D [.t (opF lenD [.b 2])]) (tgN 4) (seqF (asgF (lstF []) (tgN 5)) <|
      seqF (forF (itSeq (varF 3)) (tgT 2 (tgCons (tgN 6) (tgCons (tgN 7) (tgNil)))) (seqF (ifF (bT (opF (ltD) [.t (opF lenD [.b 6]), .t (opF subD [.t (opF subD [.t (opF lenD [.b 2]), .b 4]), .t (litF (.int 1))])])) (dropF (mutF 5 appD [.t (tupF [.t (opF addD [.b 6, .t (tupF [.t (opF ixD [.b 2, .b 4])])]), .t (varF 7)])])) (passF)) <|
      ifF (bT (opF (neD) [.b 6, .t (tupF [])])) (dropF (mutF 5 appD [.t (tupF [.t (opF (partD false true) [.b 6, .t (opF negD [.t (litF (.int 1))])]), .t (opF addD [.b 7, .t (tupF [.t (tupF [.t (opF ixD [.b 6, .t (opF negD [.t (litF (.int 1))])]), .t (opF ixD [.b 2, .b 4])])])])])])) (passF))) <|
      asgF (varF 5) (tgN 3))) (psf_for (fi := itRg rng1D [.t (opF lenD [.b 2])]) (g := tgN 4) PassesOwn.never rfl (pif_rng1 (by rfl) T.z_range (paf_cons (o := .t (opF lenD [.b 2])) (po_t (pf_callB call_len_seq vok_len (by rfl) T.z_len PySem.boot_len (paf_cons (o := .b 2) (po_b (pv 2)) paf_nil))) paf_nil)) (pgf_name (i := 4) sc_all.nd rfl (by first | exact .inl rfl | exact .inr rfl) (by decide)) (psf_cons (f := asgF (lstF []) (tgN 5)) (psf_set (i := 5) sc_all.nd rfl (by first | exact .inl rfl | exact .inr rfl) (by decide) (pf_lst paf_nil))
      (psf_cons (f := forF (itSeq (varF 3)) (tgT 2 (tgCons (tgN 6) (tgCons (tgN 7) (tgNil)))) (seqF (ifF (bT (opF (ltD) [.t (opF lenD [.b 6]), .t (opF subD [.t (opF subD [.t (opF lenD [.b 2]), .b 4]), .t (litF (.int 1))])])) (dropF (mutF 5 appD [.t (tupF [.t (opF addD [.b 6, .t (tupF [.t (opF ixD [.b 2, .b 4])])]), .t (varF 7)])])) (passF)) <|
      ifF (bT (opF (neD) [.b 6, .t (tupF [])])) (dropF (mutF 5 appD [.t (tupF [.t (opF (partD false true) [.b 6, .t (opF negD [.t (litF (.int 1))])]), .t (opF addD [.b 7, .t (tupF [.t (tupF [.t (opF ixD [.b 6, .t (opF negD [.t (litF (.int 1))])]), .t (opF ixD [.b 2, .b 4])])])])])])) (passF))) (psf_for (fi := itSeq (varF 3)) (g := tgT 2 (tgCons (tgN 6) (tgCons (tgN 7) (tgNil)))) PassesOwn.never rfl (pif_seq (pf_var (pv 3))) (pgf_tup rfl (pgsf_cons (pgf_name (i := 6) sc_all.nd rfl (by first | exact .inl rfl | exact .inr rfl) (by decide)) (pgsf_cons (pgf_name (i := 7) sc_all.nd rfl (by first | exact .inl rfl | exact .inr rfl) (by decide)) (pgsf_nil)))) (psf_cons (f := ifF (bT (opF (ltD) [.t (opF lenD [.b 6]), .t (opF subD [.t (opF subD [.t (opF lenD [.b 2]), .b 4]), .t (litF (.int 1))])])) (dropF (mutF 5 appD [.t (tupF [.t (opF addD [.b 6, .t (tupF [.t (opF ixD [.b 2, .b 4])])]), .t (varF 7)])])) (passF)) (psf_if (fc := bT (opF (ltD) [.t (opF lenD [.b 6]), .t (opF subD [.t (opF subD [.t (opF lenD [.b 2]), .b 4]), .t (litF (.int 1))])])) (pt_cmpf op_lt vok_lt (po_t (pf_callB call_len_seq vok_len (by rfl) T.z_len PySem.boot_len (paf_cons (o := .b 6) (po_b (pv 6)) paf_nil))) (po_t (pf_bin op_sub vok_sub (po_t (pf_bin op_sub vok_sub (po_t (pf_callB call_len_seq vok_len (by rfl) T.z_len PySem.boot_len (paf_cons (o := .b 2) (po_b (pv 2)) paf_nil))) (po_b (pv 4)))) (po_t (pf_int)))) (nomark _)) (psf_one (psf_expr (pf_append (i := 5) (pv 5) (paf_cons (o := .t (tupF [.t (opF addD [.b 6, .t (tupF [.t (opF ixD [.b 2, .b 4])])]), .t (varF 7)])) (po_t (pf_tup (paf_cons (o := .t (opF addD [.b 6, .t (tupF [.t (opF ixD [.b 2, .b 4])])])) (po_t (pf_bin op_addA vok_add (po_b (pv 6)) (po_t (pf_tup (paf_cons (o := .t (opF ixD [.b 2, .b 4])) (po_t (pf_ix ix_seq vok_ix (po_b (pv 2)) (po_b (pv 4)) (fun _ _ => rfl))) paf_nil))))) (paf_cons (o := .t (varF 7)) (po_t (pf_var (pv 7))) paf_nil)))) paf_nil)))) (psf_nil))
      (psf_one (psf_if (fc := bT (opF (neD) [.b 6, .t (tupF [])])) (pt_cmpf (op_neD hr.units) vok_ne (po_b (pv 6)) (po_t (pf_tup paf_nil)) (nomark _)) (psf_one (psf_expr (pf_append (i := 5) (pv 5) (paf_cons (o := .t (tupF [.t (opF (partD false true) [.b 6, .t (opF negD [.t (litF (.int 1))])]), .t (opF addD [.b 7, .t (tupF [.t (tupF [.t (opF ixD [.b 6, .t (opF negD [.t (litF (.int 1))])]), .t (opF ixD [.b 2, .b 4])])])])])) (po_t (pf_tup (paf_cons (o := .t (opF (partD false true) [.b 6, .t (opF negD [.t (litF (.int 1))])])) (po_t (pf_slH (po_b (pv 6)) (po_t (pf_un un_neg vok_neg (po_t (pf_int)))))) (paf_cons (o := .t (opF addD [.b 7, .t (tupF [.t (tupF [.t (opF ixD [.b 6, .t (opF negD [.t (litF (.int 1))])]), .t (opF ixD [.b 2, .b 4])])])])) (po_t (pf_bin op_addA vok_add (po_b (pv 7)) (po_t (pf_tup (paf_cons (o := .t (tupF [.t (opF ixD [.b 6, .t (opF negD [.t (litF (.int 1))])]), .t (opF ixD [.b 2, .b 4])])) (po_t (pf_tup (paf_cons (o := .t (opF ixD [.b 6, .t (opF negD [.t (litF (.int 1))])])) (po_t (pf_ix ix_seq vok_ix (po_b (pv 6)) (po_t (pf_un un_neg vok_neg (po_t (pf_int)))) (fun _ _ => rfl))) (paf_cons (o := .t (opF ixD [.b 2, .b 4])) (po_t (pf_ix ix_seq vok_ix (po_b (pv 2)) (po_b (pv 4)) (fun _ _ => rfl))) paf_nil)))) paf_nil))))) paf_nil)))) paf_nil)))) (psf_nil)))))
      (psf_one (psf_set (i := 3) sc_all.nd rfl (by first | exact .inl rfl | exact .inr rfl) (by decide) (pf_var (pv 5)))))))
      (psf_one (psf_ret (pf_callB (cr_sortedM (units65 hr)) vok_sortedM (by rfl) T.z_sorted (by decide +kernel) (paf_cons (o := .t (lcF [6, 7] (itSeq (varF 3)) (tgT 2 (tgCons (tgN 6) (tgCons (tgN 7) (tgNil)))) (bT (opF (eqD) [.b 6, .t (tupF [])])) (callF fn_made [.b 0, .b 1, .b 7]))) (po_t (pf_lc (own := [("_law_waiting", 6), ("_law_pairs_here", 7)]) (fi := itSeq (varF 3)) (fg := tgT 2 (tgCons (tgN 6) (tgCons (tgN 7) (tgNil)))) (ft := bT (opF (eqD) [.b 6, .t (tupF [])])) (fe := callF fn_made [.b 0, .b 1, .b 7]) rfl sc_all.nd (pif_seq (pf_var (pv 3))) (blkOk_by (own := [("_law_waiting", 6), ("_law_pairs_here", 7)]) (by rfl)) (fun _ _ _ _ _ => pgf_tup rfl (pgsf_cons (pgf_name (i := 6) sc_all.nd rfl (by first | exact .inl rfl | exact .inr rfl) (by decide)) (pgsf_cons (pgf_name (i := 7) sc_all.nd rfl (by first | exact .inl rfl | exact .inr rfl) (by decide)) (pgsf_nil)))) (fun _ _ _ _ _ => ptsf_one (pt_cmpf (op_eqD hr.units) vok_eq (po_b (pv 6)) (po_t (pf_tup paf_nil)) (nomark _))) (fun _ _ _ _ _ => pf_call (ok_made T) (hr.mono (by decide)) (by rfl) T.g_made T.F_made.kp T.b_made (paf_cons (o := .b 0) (po_b (pv 0)) (paf_cons (o := .b 1) (po_b (pv 1)) (paf_cons (o := .b 7) (po_b (pv 7)) paf_nil)))))) paf_nil))))))
theorem ok_draw (T : Tx K mg) : FnOk P w K mg base CX0 1 T.f_draw T.fd_draw ["_law_well_here", "_law_limit"] (spOf K fn_draw) := by
  unfold fn_draw
  refine fn_ok (k := 0) (x := "_law_draw") (qual := "_law_draw") (st := s_draw) (N := ["_law_well_here", "_law_limit", "_law_found", "_law_mixed"]) (ps := ["_law_well_here", "_law_limit"]) (pins := [true, true]) (fb := F_draw) T.F_draw sc_draw rfl (by decide) ?_
  intro cdv A outer s H E hr
  unfold F_draw
  exact psf_cons (f := ifF (bT (opF (gtD) [.t (opF ixD [.b 0, .t (litF (.int 0))]), .t (litF (.int 0))])) (seqF (asgF (opF modD [.t (opF intD [.t (opF ixD [.b 0, .t (litF (.int 0))])]), .b 1]) (tgN 2)) <|
      seqF (asgF (opF fdivD [.t (opF ixD [.b 0, .t (litF (.int 0))]), .b 1]) (tgSub 0 (.t (litF (.int 0))))) <|
      retF (movF 2)) (passF)) (psf_if (fc := bT (opF (gtD) [.t (opF ixD [.b 0, .t (litF (.int 0))]), .t (litF (.int 0))])) (pt_cmpf op_gt vok_gt (po_t (pf_ix ix_seq vok_ix (po_b (pv 0)) (po_t (pf_int)) (fun _ _ => rfl))) (po_t (pf_int)) (nomark _)) (psf_cons (f := asgF (opF modD [.t (opF intD [.t (opF ixD [.b 0, .t (litF (.int 0))])]), .b 1]) (tgN 2)) (psf_set (i := 2) sc_draw.nd rfl (by first | exact .inl rfl | exact .inr rfl) (by decide) (pf_bin op_modN vok_mod (po_t (pf_callTy call_int1 vok_int (by rfl) T.z_int boot_int (paf_cons (o := .t (opF ixD [.b 0, .t (litF (.int 0))])) (po_t (pf_ix ix_seq vok_ix (po_b (pv 0)) (po_t (pf_int)) (fun _ _ => rfl))) paf_nil))) (po_b (pv 1))))
      (psf_cons (f := asgF (opF fdivD [.t (opF ixD [.b 0, .t (litF (.int 0))]), .b 1]) (tgSub 0 (.t (litF (.int 0))))) (psf_asg (f := opF fdivD [.t (opF ixD [.b 0, .t (litF (.int 0))]), .b 1]) (g := tgSub 0 (.t (litF (.int 0)))) (pf_bin op_fdivA vok_fdiv (po_t (pf_ix ix_seq vok_ix (po_b (pv 0)) (po_t (pf_int)) (fun _ _ => rfl))) (po_b (pv 1))) (pgf_sub (k := 0) (oi := .t (litF (.int 0))) (pv 0) (po_t (pf_int))))
      (psf_one (psf_ret (pf_mov (pv 2)))))) (psf_nil))
      (psf_cons (f := asgF (opF addD [.t (opF ixD [.b 0, .t (litF (.int 2))]), .t (litF (.int 1))]) (tgSub 0 (.t (litF (.int 2))))) (psf_asg (f := opF addD [.t (opF ixD [.b 0, .t (litF (.int 2))]), .t (litF (.int 1))]) (g := tgSub 0 (.t (litF (.int 2)))) (pf_bin op_addA vok_add (po_t (pf_ix ix_seq vok_ix (po_b (pv 0)) (po_t (pf_int)) (fun _ _ => rfl))) (po_t (pf_int))) (pgf_sub (k := 0) (oi := .t (litF (.int 2))) (pv 0) (po_t (pf_int))))
      (psf_cons (f := asgF (opF modD [.t (opF intD [.t (opF powD [.t (opF addD [.t (opF ixD [.b 0, .t (litF (.int 1))]), .t (opF mulD [.t (litF (.int 373587883)), .t (opF ixD [.b 0, .t (litF (.int 2))])])]), .t (litF (.int 3))])]), .t (opF addD [.t (opF powD [.t (litF (.int 10)), .t (litF (.int 43))]), .t (litF (.int 63))])]) (tgN 3)) (psf_set (i := 3) sc_draw.nd rfl (by first | exact .inl rfl | exact .inr rfl) (by decide) (pf_bin op_modN vok_mod (po_t (pf_callTy call_int1 vok_int (by rfl) T.z_int boot_int (paf_cons (o := .t (opF powD [.t (opF addD [.t (opF ixD [.b 0, .t (litF (.int 1))]), .t (opF mulD [.t (litF (.int 373587883)), .t (opF ixD [.b 0, .t (litF (.int 2))])])]), .t (litF (.int 3))])) (po_t (pf_bin op_powA vok_pow (po_t (pf_bin op_addA vok_add (po_t (pf_ix ix_seq vok_ix (po_b (pv 0)) (po_t (pf_int)) (fun _ _ => rfl))) (po_t (pf_bin op_mulA vok_mul (po_t (pf_int)) (po_t (pf_ix ix_seq vok_ix (po_b (pv 0)) (po_t (pf_int)) (fun _ _ => rfl))))))) (po_t (pf_int)))) paf_nil))) (po_t (pf_bin op_addA vok_add (po_t (pf_bin op_powA vok_pow (po_t (pf_int)) (po_t (pf_int)))) (po_t (pf_int))))))
      (psf_cons (f := asgF (opF modD [.t (opF intD [.t (opF powD [.t (opF addD [.b 3, .t (opF mulD [.t (opF mulD [.t (litF (.int 982451653)), .t (opF ixD [.b 0, .t (litF (.int 2))])]), .t (opF ixD [.b 0, .t (litF (.int 2))])])]), .t (litF (.int 2))])]), .t (opF addD [.t (opF powD [.t (litF (.int 10)), .t (litF (.int 41))]), .t (litF (.int 69))])]) (tgN 3)) (psf_set (i := 3) sc_draw.nd rfl (by first | exact .inl rfl | exact .inr rfl) (by decide) (pf_bin op_modN vok_mod (po_t (pf_callTy call_int1 vok_int (by rfl) T.z_int boot_int (paf_cons (o := .t (opF powD [.t (opF addD [.b 3, .t (opF mulD [.t (opF mulD [.t (litF (.int 982451653)), .t (opF ixD [.b 0, .t (litF (.int 2))])]), .t (opF ixD [.b 0, .t (litF (.int 2))])])]), .t (litF (.int 2))])) (po_t (pf_bin op_powA vok_pow (po_t (pf_bin op_addA vok_add (po_b (pv 3)) (po_t (pf_bin op_mulA vok_mul (po_t (pf_bin op_mulA vok_mul (po_t (pf_int)) (po_t (pf_ix ix_seq vok_ix (po_b (pv 0)) (po_t (pf_int)) (fun _ _ => rfl))))) (po_t (pf_ix ix_seq vok_ix (po_b (pv 0)) (po_t (pf_int)) (fun _ _ => rfl))))))) (po_t (pf_int)))) paf_nil))) (po_t (pf_bin op_addA vok_add (po_t (pf_bin op_powA vok_pow (po_t (pf_int)) (po_t (pf_int)))) (po_t (pf_int))))))
      (psf_one (psf_ret (pf_bin op_modN vok_mod (po_t (pf_callTy call_int1 vok_int (by rfl) T.z_int boot_int (paf_cons (o := .t (opF fdivD [.b 3, .t (opF powD [.t (litF (.int 10)), .t (litF (.int 7))])])) (po_t (pf_bin op_fdivA vok_fdiv (po_b (pv 3)) (po_t (pf_bin op_powA vok_pow (po_t (pf_int)) (po_t (pf_int)))))) paf_nil))) (po_b (pv 1))))))))
theorem ok_counts (T : Tx K mg) : FnOk P w K mg base CX0 2 T.f_counts T.fd_counts ["_law_well_here", "_law_most"] (spOf K fn_counts) := by
  unfold fn_counts
  refine fn_ok (k := 1) (x := "_law_counts") (qual := "_law_counts") (st := s_counts) (N := ["_law_well_here", "_law_most", "_law_size", "_law_way", "_law_up"]) (ps := ["_law_well_here", "_law_most"]) (pins := [true, true]) (fb := F_counts) T.F_counts sc_counts rfl (by decide) ?_
  intro cdv A outer s H E hr
  unfold F_counts
  exact psf_cons (f := asgF (opF addD [.t (litF (.int 1)), .t (callF fn_draw [.b 0, .t (opF fdivD [.b 1, .t (litF (.int 2))])])]) (tgN 2)) (psf_set (i := 2) sc_counts.nd rfl (by first | exact .inl rfl | exact .inr rfl) (by decide) (pf_bin op_addA vok_add (po_t (pf_int)) (po_t (pf_call (ok_draw T) (hr.mono (by decide)) (by rfl) T.g_draw T.F_draw.kp T.b_draw (paf_cons (o := .b 0) (po_b (pv 0)) (paf_cons (o := .t (opF fdivD [.b 1, .t (litF (.int 2))])) (po_t (pf_bin op_fdivA vok_fdiv (po_b (pv 1)) (po_t (pf_int)))) paf_nil))))))
      (psf_cons (f := asgF (callF fn_draw [.b 0, .t (litF (.int 5))]) (tgN 3)) (psf_set (i := 3) sc_counts.nd rfl (by first | exact .inl rfl | exact .inr rfl) (by decide) (pf_call (ok_draw T) (hr.mono (by decide)) (by rfl) T.g_draw T.F_draw.kp T.b_draw (paf_cons (o := .b 0) (po_b (pv 0)) (paf_cons (o := .t (litF (.int 5))) (po_t (pf_int)) paf_nil))))
      (psf_cons (f := ifF (bT (opF (ltD) [.b 3, .t (litF (.int 2))])) (retF (tupF [.t (varF 2), .t (varF 2)])) (passF)) (psf_if (fc := bT (opF (ltD) [.b 3, .t (litF (.int 2))])) (pt_cmpf op_lt vok_lt (po_b (pv 3)) (po_t (pf_int)) (nomark _)) (psf_one (psf_ret (pf_tup (paf_cons (o := .t (varF 2)) (po_t (pf_var (pv 2))) (paf_cons (o := .t (varF 2)) (po_t (pf_var (pv 2))) paf_nil))))) (psf_nil))
      (psf_cons (f := asgF (callF fn_draw [.b 0, .t (opF addD [.t (opF mulD [.t (litF (.int 2)), .b 2]), .t (litF (.int 1))])]) (tgN 4)) (psf_set (i := 4) sc_counts.nd rfl (by first | exact .inl rfl | exact .inr rfl) (by decide) (pf_call (ok_draw T) (hr.mono (by decide)) (by rfl) T.g_draw T.F_draw.kp T.b_draw (paf_cons (o := .b 0) (po_b (pv 0)) (paf_cons (o := .t (opF addD [.t (opF mulD [.t (litF (.int 2)), .b 2]), .t (litF (.int 1))])) (po_t (pf_bin op_addA vok_add (po_t (pf_bin op_mulA vok_mul (po_t (pf_int)) (po_b (pv 2)))) (po_t (pf_int)))) paf_nil))))
      (psf_cons (f := ifF (bT (opF (eqD) [.b 3, .t (litF (.int 4))])) (asgF (opF mulD [.t (opF mulD [.t (litF (.int 2)), .b 2]), .t (opF intD [.t (opF (gtD) [.b 4, .b 2])])]) (tgN 4)) (passF)) (psf_if (fc := bT (opF (eqD) [.b 3, .t (litF (.int 4))])) (pt_cmpf (op_eqD hr.units) vok_eq (po_b (pv 3)) (po_t (pf_int)) (nomark _)) (psf_one (psf_set (i := 4) sc_counts.nd rfl (by first | exact .inl rfl | exact .inr rfl) (by decide) (pf_bin op_mulA vok_mul (po_t (pf_bin op_mulA vok_mul (po_t (pf_int)) (po_b (pv 2)))) (po_t (pf_callTy call_int1 vok_int (by rfl) T.z_int boot_int (paf_cons (o := .t (opF (gtD) [.b 4, .b 2])) (po_t (pf_cmp op_gt vok_gt (po_b (pv 4)) (po_b (pv 2)) (nomark _))) paf_nil)))))) (psf_nil))
      (psf_one (psf_ret (pf_tup (paf_cons (o := .t (varF 4)) (po_t (pf_var (pv 4))) (paf_cons (o := .t (opF subD [.t (opF mulD [.t (litF (.int 2)), .b 2]), .b 4])) (po_t (pf_bin op_sub vok_sub (po_t (pf_bin op_mulA vok_mul (po_t (pf_int)) (po_b (pv 2)))) (po_b (pv 4)))) paf_nil)))))))))
theorem ok_ends (T : Tx K mg) : FnOk P w K mg base CX0 1 T.f_ends T.fd_ends ["_law_up", "_law_pairs_here"] (spOf K fn_ends) := by
  unfold fn_ends
  refine fn_ok (k := 0) (x := "_law_ends") (qual := "_law_ends") (st := s_ends) (N := ["_law_up", "_law_pairs_here", "_law_left", "_law_right_here"]) (ps := ["_law_up", "_law_pairs_here"]) (pins := [true, true]) (fb := F_ends) T.F_ends sc_ends rfl (by decide) ?_
  intro cdv A outer s H E hr
  unfold F_ends
  exact psf_one (psf_ret (pf_callB (cr_sortedM (units65 hr)) vok_sortedM (by rfl) T.z_sorted (by decide +kernel) (paf_cons (o := .t (lcF [2, 3] (itSeq (varF 1)) (tgT 2 (tgCons (tgN 2) (tgCons (tgN 3) (tgNil)))) (yesF) (opF tupleD [.t (opF sortedID [.t (lstF [.t (opF addD [.t (opF mulD [.t (opF ixD [.b 2, .t (litF (.int 0))]), .b 0]), .t (opF ixD [.b 2, .t (litF (.int 1))])]), .t (opF addD [.t (opF mulD [.t (opF ixD [.b 3, .t (litF (.int 0))]), .b 0]), .t (opF ixD [.b 3, .t (litF (.int 1))])])])])]))) (po_t (pf_lc (own := [("_law_left", 2), ("_law_right_here", 3)]) (fi := itSeq (varF 1)) (fg := tgT 2 (tgCons (tgN 2) (tgCons (tgN 3) (tgNil)))) (ft := yesF) (fe := opF tupleD [.t (opF sortedID [.t (lstF [.t (opF addD [.t (opF mulD [.t (opF ixD [.b 2, .t (litF (.int 0))]), .b 0]), .t (opF ixD [.b 2, .t (litF (.int 1))])]), .t (opF addD [.t (opF mulD [.t (opF ixD [.b 3, .t (litF (.int 0))]), .b 0]), .t (opF ixD [.b 3, .t (litF (.int 1))])])])])]) rfl sc_ends.nd (pif_seq (pf_var (pv 1))) (blkOk_by (own := [("_law_left", 2), ("_law_right_here", 3)]) (by rfl)) (fun _ _ _ _ _ => pgf_tup rfl (pgsf_cons (pgf_name (i := 2) sc_ends.nd rfl (by first | exact .inl rfl | exact .inr rfl) (by decide)) (pgsf_cons (pgf_name (i := 3) sc_ends.nd rfl (by first | exact .inl rfl | exact .inr rfl) (by decide)) (pgsf_nil)))) (fun _ _ _ _ _ => ptsf_nil) (fun _ _ _ _ _ => pf_callTy call_tuple_of vok_tuple (by rfl) T.z_tuple boot_tuple (paf_cons (o := .t (opF sortedID [.t (lstF [.t (opF addD [.t (opF mulD [.t (opF ixD [.b 2, .t (litF (.int 0))]), .b 0]), .t (opF ixD [.b 2, .t (litF (.int 1))])]), .t (opF addD [.t (opF mulD [.t (opF ixD [.b 3, .t (litF (.int 0))]), .b 0]), .t (opF ixD [.b 3, .t (litF (.int 1))])])])])) (po_t (pf_callB cr_sortedI vok_sortedI (by rfl) T.z_sorted (by decide +kernel) (paf_cons (o := .t (lstF [.t (opF addD [.t (opF mulD [.t (opF ixD [.b 2, .t (litF (.int 0))]), .b 0]), .t (opF ixD [.b 2, .t (litF (.int 1))])]), .t (opF addD [.t (opF mulD [.t (opF ixD [.b 3, .t (litF (.int 0))]), .b 0]), .t (opF ixD [.b 3, .t (litF (.int 1))])])])) (po_t (pf_lst (paf_cons (o := .t (opF addD [.t (opF mulD [.t (opF ixD [.b 2, .t (litF (.int 0))]), .b 0]), .t (opF ixD [.b 2, .t (litF (.int 1))])])) (po_t (pf_bin op_addA vok_add (po_t (pf_bin op_mulA vok_mul (po_t (pf_ix ix_seq vok_ix (po_b (pv 2)) (po_t (pf_int)) (fun _ _ => rfl))) (po_b (pv 0)))) (po_t (pf_ix ix_seq vok_ix (po_b (pv 2)) (po_t (pf_int)) (fun _ _ => rfl))))) (paf_cons (o := .t (opF addD [.t (opF mulD [.t (opF ixD [.b 3, .t (litF (.int 0))]), .b 0]), .t (opF ixD [.b 3, .t (litF (.int 1))])])) (po_t (pf_bin op_addA vok_add (po_t (pf_bin op_mulA vok_mul (po_t (pf_ix ix_seq vok_ix (po_b (pv 3)) (po_t (pf_int)) (fun _ _ => rfl))) (po_b (pv 0)))) (po_t (pf_ix ix_seq vok_ix (po_b (pv 3)) (po_t (pf_int)) (fun _ _ => rfl))))) paf_nil)))) paf_nil))) paf_nil)))) paf_nil)))
theorem ok_pairs (T : Tx K mg) : FnOk P w K mg base CX0 2 T.f_pairs T.fd_pairs ["_law_well_here", "_law_up", "_law_down"] (spOf K fn_pairs) := by
  unfold fn_pairs
  refine fn_ok (k := 1) (x := "_law_pairs") (qual := "_law_pairs") (st := s_pairs) (N := ["_law_well_here", "_law_up", "_law_down", "_law_ring_here", "_law_start", "_law_found", "_law_turn", "_law_at"]) (ps := ["_law_well_here", "_law_up", "_law_down"]) (pins := [true, true, true]) (fb := F_pairs) T.F_pairs sc_pairs rfl (by decide) ?_
  intro cdv A outer s H E hr
  unfold F_pairs
  exact psf_cons (f := asgF (callF fn_ring [.b 1, .b 2]) (tgN 3)) (psf_set (i := 3) sc_pairs.nd rfl (by first | exact .inl rfl | exact .inr rfl) (by decide) (pf_call (ok_ring T) (hr.mono (by decide)) (by rfl) T.g_ring T.F_ring.kp T.b_ring (paf_cons (o := .b 1) (po_b (pv 1)) (paf_cons (o := .b 2) (po_b (pv 2)) paf_nil))))
      (psf_cons (f := asgF (callF fn_draw [.b 0, .t (opF lenD [.b 3])]) (tgN 4)) (psf_set (i := 4) sc_pairs.nd rfl (by first | exact .inl rfl | exact .inr rfl) (by decide) (pf_call (ok_draw T) (hr.mono (by decide)) (by rfl) T.g_draw T.F_draw.kp T.b_draw (paf_cons (o := .b 0) (po_b (pv 0)) (paf_cons (o := .t (opF lenD [.b 3])) (po_t (pf_callB call_len_seq vok_len (by rfl) T.z_len PySem.boot_len (paf_cons (o := .b 3) (po_b (pv 3)) paf_nil))) paf_nil))))
      (psf_cons (f := ifF (bT (opF (eqD) [.t (callF fn_draw [.b 0, .t (litF (.int 4))]), .t (litF (.int 3))])) (seqF (asgF (opF addD [.t (opF (partD true false) [.b 3, .b 4]), .t (opF (partD false true) [.b 3, .b 4])]) (tgN 3)) <|
      retF (lcF [7] (itRg rng1D [.t (opF fdivD [.t (opF lenD [.b 3]), .t (litF (.int 2))])]) (tgN 7) (yesF) (tupF [.t (opF ixD [.b 3, .b 7]), .t (opF ixD [.b 3, .t (opF subD [.t (opF negD [.t (litF (.int 1))]), .b 7])])]))) (passF)) (psf_if (fc := bT (opF (eqD) [.t (callF fn_draw [.b 0, .t (litF (.int 4))]), .t (litF (.int 3))])) (pt_cmpf (op_eqD hr.units) vok_eq (po_t (pf_call (ok_draw T) (hr.mono (by decide)) (by rfl) T.g_draw T.F_draw.kp T.b_draw (paf_cons (o := .b 0) (po_b (pv 0)) (paf_cons (o := .t (litF (.int 4))) (po_t (pf_int)) paf_nil)))) (po_t (pf_int)) (nomark _)) (psf_cons (f := asgF (opF addD [.t (opF (partD true false) [.b 3, .b 4]), .t (opF (partD false true) [.b 3, .b 4])]) (tgN 3)) (psf_set (i := 3) sc_pairs.nd rfl (by first | exact .inl rfl | exact .inr rfl) (by decide) (pf_bin op_addA vok_add (po_t (pf_slL (po_b (pv 3)) (po_b (pv 4)))) (po_t (pf_slH (po_b (pv 3)) (po_b (pv 4))))))
      (psf_one (psf_ret (pf_lc (own := [("_law_at", 7)]) (fi := itRg rng1D [.t (opF fdivD [.t (opF lenD [.b 3]), .t (litF (.int 2))])]) (fg := tgN 7) (ft := yesF) (fe := tupF [.t (opF ixD [.b 3, .b 7]), .t (opF ixD [.b 3, .t (opF subD [.t (opF negD [.t (litF (.int 1))]), .b 7])])]) rfl sc_pairs.nd (pif_rng1 (by rfl) T.z_range (paf_cons (o := .t (opF fdivD [.t (opF lenD [.b 3]), .t (litF (.int 2))])) (po_t (pf_bin op_fdivA vok_fdiv (po_t (pf_callB call_len_seq vok_len (by rfl) T.z_len PySem.boot_len (paf_cons (o := .b 3) (po_b (pv 3)) paf_nil))) (po_t (pf_int)))) paf_nil)) (blkOk_by (own := [("_law_at", 7)]) (by rfl)) (fun _ _ _ _ _ => pgf_name (i := 7) sc_pairs.nd rfl (by first | exact .inl rfl | exact .inr rfl) (by decide)) (fun _ _ _ _ _ => ptsf_nil) (fun _ _ _ _ _ => pf_tup (paf_cons (o := .t (opF ixD [.b 3, .b 7])) (po_t (pf_ix ix_seq vok_ix (po_b (pv 3)) (po_b (pv 7)) (fun _ _ => rfl))) (paf_cons (o := .t (opF ixD [.b 3, .t (opF subD [.t (opF negD [.t (litF (.int 1))]), .b 7])])) (po_t (pf_ix ix_seq vok_ix (po_b (pv 3)) (po_t (pf_bin op_sub vok_sub (po_t (pf_un un_neg vok_neg (po_t (pf_int)))) (po_b (pv 7)))) (fun _ _ => rfl))) paf_nil))))))) (psf_nil))
      (psf_cons (f := asgF (lstF []) (tgN 5)) (psf_set (i := 5) sc_pairs.nd rfl (by first | exact .inl rfl | exact .inr rfl) (by decide) (pf_lst paf_nil))
      (psf_cons (f := forF (itRg rng1D [.t (opF fdivD [.t (opF lenD [.b 3]), .t (litF (.int 2))])]) (tgN 6) (seqF (asgF (callF fn_draw [.b 0, .t (opF subD [.t (opF lenD [.b 3]), .t (litF (.int 1))])]) (tgN 7)) <|
      dropF (mutF 5 appD [.t (tupF [.t (mutF 3 popAtD [.t (varF 7)]), .t (mutF 3 popAtD [.t (varF 7)])])]))) (psf_for (fi := itRg rng1D [.t (opF fdivD [.t (opF lenD [.b 3]), .t (litF (.int 2))])]) (g := tgN 6) PassesOwn.never rfl (pif_rng1 (by rfl) T.z_range (paf_cons (o := .t (opF fdivD [.t (opF lenD [.b 3]), .t (litF (.int 2))])) (po_t (pf_bin op_fdivA vok_fdiv (po_t (pf_callB call_len_seq vok_len (by rfl) T.z_len PySem.boot_len (paf_cons (o := .b 3) (po_b (pv 3)) paf_nil))) (po_t (pf_int)))) paf_nil)) (pgf_name (i := 6) sc_pairs.nd rfl (by first | exact .inl rfl | exact .inr rfl) (by decide)) (psf_cons (f := asgF (callF fn_draw [.b 0, .t (opF subD [.t (opF lenD [.b 3]), .t (litF (.int 1))])]) (tgN 7)) (psf_set (i := 7) sc_pairs.nd rfl (by first | exact .inl rfl | exact .inr rfl) (by decide) (pf_call (ok_draw T) (hr.mono (by decide)) (by rfl) T.g_draw T.F_draw.kp T.b_draw (paf_cons (o := .b 0) (po_b (pv 0)) (paf_cons (o := .t (opF subD [.t (opF lenD [.b 3]), .t (litF (.int 1))])) (po_t (pf_bin op_sub vok_sub (po_t (pf_callB call_len_seq vok_len (by rfl) T.z_len PySem.boot_len (paf_cons (o := .b 3) (po_b (pv 3)) paf_nil))) (po_t (pf_int)))) paf_nil))))
      (psf_one (psf_expr (pf_append (i := 5) (pv 5) (paf_cons (o := .t (tupF [.t (mutF 3 popAtD [.t (varF 7)]), .t (mutF 3 popAtD [.t (varF 7)])])) (po_t (pf_tup (paf_cons (o := .t (mutF 3 popAtD [.t (varF 7)])) (po_t (pf_popAt (i := 3) (pv 3) (paf_cons (o := .t (varF 7)) (po_t (pf_var (pv 7))) paf_nil))) (paf_cons (o := .t (mutF 3 popAtD [.t (varF 7)])) (po_t (pf_popAt (i := 3) (pv 3) (paf_cons (o := .t (varF 7)) (po_t (pf_var (pv 7))) paf_nil))) paf_nil)))) paf_nil))))))
      (psf_one (psf_ret (pf_mov (pv 5))))))))
theorem ok_same_at (T : Tx K mg) : ∀ n : Nat, FnOk P w K mg base CX0 (n + 1) T.f_same T.fd_same ["_law_found", "_law_due"] (spOf K (fn_same_at n))
  | 0 => (stuck_ok (k := 0) T.F_same sc_same).mono (by omega)
  | n + 1 => by
    have IH := ok_same_at T n
    refine FnOk.mono (k := n + 1 + 1) (fn_ok (k := n + 1) (x := "_law_same") (qual := "_law_same") (st := s_same) (N := ["_law_found", "_law_due", "_law_here", "_law_there"]) (ps := ["_law_found", "_law_due"]) (pins := [true, true]) (fb := F_same (fn_same_at n)) T.F_same sc_same rfl (by decide) ?_) (by omega)
    intro cdv A outer s H E hr
    unfold F_same
    exact psf_cons (f := ifF (bT (opF (isNonD) [.b 1, .t (litF .non)])) (retF (opF (isNonD) [.b 0, .t (litF .non)])) (passF)) (psf_if (fc := bT (opF (isNonD) [.b 1, .t (litF .non)])) (pt_cmpf op_isN vok_isNon (po_b (pv 1)) (po_t (pf_non)) (nomark _)) (psf_one (psf_ret (pf_cmp op_isN vok_isNon (po_b (pv 0)) (po_t (pf_non)) (nomark _)))) (psf_nil))
      (psf_cons (f := ifF (tstF (.t (opF (isiTD ["list", "tuple"]) [.b 1]))) (seqF (ifF (orF (notF (tstF (.t (opF (isiTD ["list", "tuple"]) [.b 0])))) (bT (opF (neD) [.t (opF (isiD "list") [.b 0]), .t (opF (isiD "list") [.b 1])]))) (retF (litF (.bl false))) (passF)) <|
      seqF (ifF (bT (opF (neD) [.t (opF lenD [.b 0]), .t (opF lenD [.b 1])])) (retF (litF (.bl false))) (passF)) <|
      seqF (forF (itZip (varF 0) (varF 1)) (tgT 2 (tgCons (tgN 2) (tgCons (tgN 3) (tgNil)))) (ifF (notF (tstF (.t (callF (fn_same_at n) [.b 2, .b 3])))) (retF (litF (.bl false))) (passF))) <|
      retF (litF (.bl true))) (passF)) (psf_if (fc := tstF (.t (opF (isiTD ["list", "tuple"]) [.b 1]))) (pt_tst (o := .t (opF (isiTD ["list", "tuple"]) [.b 1])) (po_t (pf_isiT2 (o := .b 1) (by rfl) T.z_isinstance (po_b (pv 1)) (pe_tyn (by rfl) T.z_list boot_list) (pe_tyn (by rfl) T.z_tuple boot_tuple)))) (psf_cons (f := ifF (orF (notF (tstF (.t (opF (isiTD ["list", "tuple"]) [.b 0])))) (bT (opF (neD) [.t (opF (isiD "list") [.b 0]), .t (opF (isiD "list") [.b 1])]))) (retF (litF (.bl false))) (passF)) (psf_if (fc := orF (notF (tstF (.t (opF (isiTD ["list", "tuple"]) [.b 0])))) (bT (opF (neD) [.t (opF (isiD "list") [.b 0]), .t (opF (isiD "list") [.b 1])]))) ((pwf_or (ptf_not (pt_tst (o := .t (opF (isiTD ["list", "tuple"]) [.b 0])) (po_t (pf_isiT2 (o := .b 0) (by rfl) T.z_isinstance (po_b (pv 0)) (pe_tyn (by rfl) T.z_list boot_list) (pe_tyn (by rfl) T.z_tuple boot_tuple))))) (pwf_or1 (pt_cmpf (op_neD hr.units) vok_ne (po_t (pf_isi (o := .b 0) (by rfl) T.z_isinstance (po_b (pv 0)) (pe_tyn (by rfl) T.z_list boot_list))) (po_t (pf_isi (o := .b 1) (by rfl) T.z_isinstance (po_b (pv 1)) (pe_tyn (by rfl) T.z_list boot_list))) (nomark _)))).pt) (psf_one (psf_ret (pf_bl))) (psf_nil))
      (psf_cons (f := ifF (bT (opF (neD) [.t (opF lenD [.b 0]), .t (opF lenD [.b 1])])) (retF (litF (.bl false))) (passF)) (psf_if (fc := bT (opF (neD) [.t (opF lenD [.b 0]), .t (opF lenD [.b 1])])) (pt_cmpf (op_neD hr.units) vok_ne (po_t (pf_callB call_len_seq vok_len (by rfl) T.z_len PySem.boot_len (paf_cons (o := .b 0) (po_b (pv 0)) paf_nil))) (po_t (pf_callB call_len_seq vok_len (by rfl) T.z_len PySem.boot_len (paf_cons (o := .b 1) (po_b (pv 1)) paf_nil))) (nomark _)) (psf_one (psf_ret (pf_bl))) (psf_nil))
      (psf_cons (f := forF (itZip (varF 0) (varF 1)) (tgT 2 (tgCons (tgN 2) (tgCons (tgN 3) (tgNil)))) (ifF (notF (tstF (.t (callF (fn_same_at n) [.b 2, .b 3])))) (retF (litF (.bl false))) (passF))) (psf_for (fi := itZip (varF 0) (varF 1)) (g := tgT 2 (tgCons (tgN 2) (tgCons (tgN 3) (tgNil)))) PassesOwn.never rfl (pif_zip (by rfl) T.z_zip (pf_var (pv 0)) (pf_var (pv 1))) (pgf_tup rfl (pgsf_cons (pgf_name (i := 2) sc_same.nd rfl (by first | exact .inl rfl | exact .inr rfl) (by decide)) (pgsf_cons (pgf_name (i := 3) sc_same.nd rfl (by first | exact .inl rfl | exact .inr rfl) (by decide)) (pgsf_nil)))) (psf_one (psf_if (fc := notF (tstF (.t (callF (fn_same_at n) [.b 2, .b 3])))) (ptf_not (pt_tst (o := .t (callF (fn_same_at n) [.b 2, .b 3])) (po_t (pf_call (IH) hr (by rfl) T.g_same T.F_same.kp T.b_same (paf_cons (o := .b 2) (po_b (pv 2)) (paf_cons (o := .b 3) (po_b (pv 3)) paf_nil)))))) (psf_one (psf_ret (pf_bl))) (psf_nil))))
      (psf_one (psf_ret (pf_bl)))))) (psf_nil))
      (psf_cons (f := ifF (tstF (.t (opF (isiD "str") [.b 1]))) (retF (andV (opF (isiD "str") [.b 0]) (opF (eqD) [.b 0, .b 1]))) (passF)) (psf_if (fc := tstF (.t (opF (isiD "str") [.b 1]))) (pt_tst (o := .t (opF (isiD "str") [.b 1])) (po_t (pf_isi (o := .b 1) (by rfl) T.z_isinstance (po_b (pv 1)) (pe_tyn (by rfl) T.z_str boot_str)))) (psf_one (psf_ret (pf_and (pf_isi (o := .b 0) (by rfl) T.z_isinstance (po_b (pv 0)) (pe_tyn (by rfl) T.z_str boot_str)) (pf_one (pf_cmp (op_eqD hr.units) vok_eq (po_b (pv 0)) (po_b (pv 1)) (nomark _)))))) (psf_nil))
      (psf_cons (f := ifF (bT (opF (neD) [.t (opF (isiD "bool") [.b 0]), .t (opF (isiD "bool") [.b 1])])) (retF (litF (.bl false))) (passF)) (psf_if (fc := bT (opF (neD) [.t (opF (isiD "bool") [.b 0]), .t (opF (isiD "bool") [.b 1])])) (pt_cmpf (op_neD hr.units) vok_ne (po_t (pf_isi (o := .b 0) (by rfl) T.z_isinstance (po_b (pv 0)) (pe_tyn (by rfl) T.z_bool boot_bool))) (po_t (pf_isi (o := .b 1) (by rfl) T.z_isinstance (po_b (pv 1)) (pe_tyn (by rfl) T.z_bool boot_bool))) (nomark _)) (psf_one (psf_ret (pf_bl))) (psf_nil))
      (psf_one (psf_ret (pf_and (pf_isi (o := .b 0) (by rfl) T.z_isinstance (po_b (pv 0)) (pe_tyn (by rfl) T.z_int boot_int)) (pf_one (pf_cmp (op_eqD hr.units) vok_eq (po_b (pv 0)) (po_b (pv 1)) (nomark _)))))))))
theorem ok_same (T : Tx K mg) : FnOk P w K mg base CX0 21 T.f_same T.fd_same ["_law_found", "_law_due"] (spOf K fn_same) := (ok_same_at T 20).mono (by decide)
theorem ok_spoil (T : Tx K mg) : FnOk P w K mg base CX0 2 T.f_spoil T.fd_spoil ["_law_well_here", "_law_rows"] (spOf K fn_spoil) := by
  unfold fn_spoil
  refine fn_ok (k := 1) (x := "_law_spoil") (qual := "_law_spoil") (st := s_spoil) (N := ["_law_well_here", "_law_rows", "_law_turn", "_law_kind"]) (ps := ["_law_well_here", "_law_rows"]) (pins := [true, true]) (fb := F_spoil) T.F_spoil sc_spoil rfl (by decide) ?_
  intro cdv A outer s H E hr
  unfold F_spoil
  exact psf_one (psf_for (fi := itRg rng1D [.t (opF addD [.t (litF (.int 1)), .t (callF fn_draw [.b 0, .t (litF (.int 3))])])]) (g := tgN 2) PassesOwn.never rfl (pif_rng1 (by rfl) T.z_range (paf_cons (o := .t (opF addD [.t (litF (.int 1)), .t (callF fn_draw [.b 0, .t (litF (.int 3))])])) (po_t (pf_bin op_addA vok_add (po_t (pf_int)) (po_t (pf_call (ok_draw T) (hr.mono (by decide)) (by rfl) T.g_draw T.F_draw.kp T.b_draw (paf_cons (o := .b 0) (po_b (pv 0)) (paf_cons (o := .t (litF (.int 3))) (po_t (pf_int)) paf_nil)))))) paf_nil)) (pgf_name (i := 2) sc_spoil.nd rfl (by first | exact .inl rfl | exact .inr rfl) (by decide)) (psf_cons (f := asgF (callF fn_draw [.b 0, .t (litF (.int 5))]) (tgN 3)) (psf_set (i := 3) sc_spoil.nd rfl (by first | exact .inl rfl | exact .inr rfl) (by decide) (pf_call (ok_draw T) (hr.mono (by decide)) (by rfl) T.g_draw T.F_draw.kp T.b_draw (paf_cons (o := .b 0) (po_b (pv 0)) (paf_cons (o := .t (litF (.int 5))) (po_t (pf_int)) paf_nil))))
      (psf_one (psf_if (fc := orF (bT (opF (eqD) [.b 3, .t (litF (.int 0))])) (bT (opF (eqD) [.b 1, .t (lstF [])]))) ((pwf_or (pt_cmpf (op_eqD hr.units) vok_eq (po_b (pv 3)) (po_t (pf_int)) (nomark _)) (pwf_or1 (pt_cmpf (op_eqD hr.units) vok_eq (po_b (pv 1)) (po_t (pf_lst paf_nil)) (nomark _)))).pt) (psf_one (psf_expr (pf_append (i := 1) (pv 1) (paf_cons (o := .t (opF ixD [.t (lstF [.t (tupF [.t (litF (.int 0)), .t (litF (.int 1))]), .t (tupF [.t (litF (.int 9)), .t (litF (.int 9)), .t (tupF [.t (litF (.int 9))])]), .t (litF .non), .t (litF (.int 7))]), .t (callF fn_draw [.b 0, .t (litF (.int 4))])])) (po_t (pf_ix ix_seq vok_ix (po_t (pf_lst (paf_cons (o := .t (tupF [.t (litF (.int 0)), .t (litF (.int 1))])) (po_t (pf_tup (paf_cons (o := .t (litF (.int 0))) (po_t (pf_int)) (paf_cons (o := .t (litF (.int 1))) (po_t (pf_int)) paf_nil)))) (paf_cons (o := .t (tupF [.t (litF (.int 9)), .t (litF (.int 9)), .t (tupF [.t (litF (.int 9))])])) (po_t (pf_tup (paf_cons (o := .t (litF (.int 9))) (po_t (pf_int)) (paf_cons (o := .t (litF (.int 9))) (po_t (pf_int)) (paf_cons (o := .t (tupF [.t (litF (.int 9))])) (po_t (pf_tup (paf_cons (o := .t (litF (.int 9))) (po_t (pf_int)) paf_nil))) paf_nil))))) (paf_cons (o := .t (litF .non)) (po_t (pf_non)) (paf_cons (o := .t (litF (.int 7))) (po_t (pf_int)) paf_nil)))))) (po_t (pf_call (ok_draw T) (hr.mono (by decide)) (by rfl) T.g_draw T.F_draw.kp T.b_draw (paf_cons (o := .b 0) (po_b (pv 0)) (paf_cons (o := .t (litF (.int 4))) (po_t (pf_int)) paf_nil)))) (fun _ _ => rfl))) paf_nil)))) (psf_one (psf_if (fc := bT (opF (eqD) [.b 3, .t (litF (.int 1))])) (pt_cmpf (op_eqD hr.units) vok_eq (po_b (pv 3)) (po_t (pf_int)) (nomark _)) (psf_one (psf_expr (pf_reverse (i := 1) (pv 1)))) (psf_one (psf_if (fc := bT (opF (eqD) [.b 3, .t (litF (.int 2))])) (pt_cmpf (op_eqD hr.units) vok_eq (po_b (pv 3)) (po_t (pf_int)) (nomark _)) (psf_one (psf_expr (pf_clear (i := 1) (pv 1)))) (psf_one (psf_if (fc := bT (opF (eqD) [.b 3, .t (litF (.int 3))])) (pt_cmpf (op_eqD hr.units) vok_eq (po_b (pv 3)) (po_t (pf_int)) (nomark _)) (psf_one (psf_asg (f := tupF [.t (litF (.int 1)), .t (litF (.int 0))]) (g := tgSub 1 (.t (callF fn_draw [.b 0, .t (opF lenD [.b 1])]))) (pf_tup (paf_cons (o := .t (litF (.int 1))) (po_t (pf_int)) (paf_cons (o := .t (litF (.int 0))) (po_t (pf_int)) paf_nil))) (pgf_sub (k := 1) (oi := .t (callF fn_draw [.b 0, .t (opF lenD [.b 1])])) (pv 1) (po_t (pf_call (ok_draw T) (hr.mono (by decide)) (by rfl) T.g_draw T.F_draw.kp T.b_draw (paf_cons (o := .b 0) (po_b (pv 0)) (paf_cons (o := .t (opF lenD [.b 1])) (po_t (pf_callB call_len_seq vok_len (by rfl) T.z_len PySem.boot_len (paf_cons (o := .b 1) (po_b (pv 1)) paf_nil))) paf_nil))))))) (psf_one (psf_expr (pf_popAt (i := 1) (pv 1) (paf_cons (o := .t (callF fn_draw [.b 0, .t (opF lenD [.b 1])])) (po_t (pf_call (ok_draw T) (hr.mono (by decide)) (by rfl) T.g_draw T.F_draw.kp T.b_draw (paf_cons (o := .b 0) (po_b (pv 0)) (paf_cons (o := .t (opF lenD [.b 1])) (po_t (pf_callB call_len_seq vok_len (by rfl) T.z_len PySem.boot_len (paf_cons (o := .b 1) (po_b (pv 1)) paf_nil))) paf_nil)))) paf_nil))))))))))))))
theorem ok_p_check_counts (T : Tx K mg) : FnOk P w K mg base CX0 1 T.f_p_check_counts T.fd_p_check_counts ["n", "m"] (spOf K fn_p_check_counts) := by
  unfold fn_p_check_counts
  refine fn_ok (k := 0) (x := "check_counts") (qual := "check_counts") (st := s_p_check_counts) (N := ["n", "m", "number"]) (ps := ["n", "m"]) (pins := [true, true]) (fb := F_p_check_counts) T.F_p_check_counts sc_p_check_counts rfl (by decide) ?_
  intro cdv A outer s H E hr
  unfold F_p_check_counts
  exact psf_one (psf_for (fi := itSeq (tupF [.t (varF 0), .t (varF 1)])) (g := tgN 2) PassesOwn.never rfl (pif_seq (pf_tup (paf_cons (o := .t (varF 0)) (po_t (pf_var (pv 0))) (paf_cons (o := .t (varF 1)) (po_t (pf_var (pv 1))) paf_nil)))) (pgf_name (i := 2) sc_p_check_counts.nd rfl (by first | exact .inl rfl | exact .inr rfl) (by decide)) (psf_one (psf_if (fc := bT (opF (ltD) [.b 2, .t (litF (.int 0))])) (pt_cmpf op_lt vok_lt (po_b (pv 2)) (po_t (pf_int)) (nomark _)) (psf_one (psf_never)) (psf_nil))))
theorem ok_p_patterns (T : Tx K mg) : FnOk P w K mg base CX0 1 T.f_p_patterns T.fd_p_patterns ["half"] (spOf K fn_p_patterns) := by
  unfold fn_p_patterns
  refine fn_ok (k := 0) (x := "patterns") (qual := "patterns") (st := s_p_patterns) (N := ["half", "rows", "many", "row", "inner", "first", "within", "head", "behind", "mate"]) (ps := ["half"]) (pins := [true]) (fb := F_p_patterns) T.F_p_patterns sc_p_patterns rfl (by decide) ?_
  intro cdv A outer s H E hr
  unfold F_p_patterns
  exact psf_cons (f := asgF (lstF [.t (frzF (lstF [.t (tupF [])]))]) (tgN 1)) (psf_set (i := 1) sc_p_patterns.nd rfl (by first | exact .inl rfl | exact .inr rfl) (by decide) (pf_lst (paf_cons (o := .t (frzF (lstF [.t (tupF [])]))) (po_t (pf_frz (pf_lst (paf_cons (o := .t (tupF [])) (po_t (pf_tup paf_nil)) paf_nil)))) paf_nil)))
      (psf_cons (f := whF FUEL (bT (opF (leD) [.t (opF lenD [.b 1]), .b 0])) (seqF (asgF (opF lenD [.b 1]) (tgN 2)) <|
      seqF (asgF (lstF []) (tgN 3)) <|
      seqF (forF (itRg rng1D [.b 2]) (tgN 4) (seqF (asgF (opF addD [.t (opF mulD [.t (litF (.int 2)), .b 4]), .t (litF (.int 1))]) (tgN 5)) <|
      forF (itSeq (opF ixD [.b 1, .b 4])) (tgN 6) (seqF (asgF (opF addD [.t (opF addD [.t (lstF [.t (varF 5)]), .t (lcF [9] (itSeq (varF 6)) (tgN 9) (yesF) (opF addD [.b 9, .t (litF (.int 1))]))]), .t (lstF [.t (litF (.int 0))])]) (tgN 7)) <|
      forF (itSeq (opF ixD [.b 1, .t (opF subD [.t (opF subD [.b 2, .t (litF (.int 1))]), .b 4])])) (tgN 8) (dropF (mutF 3 appD [.t (opF tupleD [.t (opF addD [.b 7, .t (lcF [9] (itSeq (varF 8)) (tgN 9) (yesF) (opF addD [.t (opF addD [.b 9, .b 5]), .t (litF (.int 1))]))])])]))))) <|
      dropF (mutF 1 appD [.t (varF 3)]))) (psf_while (fc := bT (opF (leD) [.t (opF lenD [.b 1]), .b 0])) FUEL PassesOwn.never (pt_cmpf op_le vok_le (po_t (pf_callB call_len_seq vok_len (by rfl) T.z_len PySem.boot_len (paf_cons (o := .b 1) (po_b (pv 1)) paf_nil))) (po_b (pv 0)) (nomark _)) (psf_cons (f := asgF (opF lenD [.b 1]) (tgN 2)) (psf_set (i := 2) sc_p_patterns.nd rfl (by first | exact .inl rfl | exact .inr rfl) (by decide) (pf_callB call_len_seq vok_len (by rfl) T.z_len PySem.boot_len (paf_cons (o := .b 1) (po_b (pv 1)) paf_nil)))
      (psf_cons (f := asgF (lstF []) (tgN 3)) (psf_set (i := 3) sc_p_patterns.nd rfl (by first | exact .inl rfl | exact .inr rfl) (by decide) (pf_lst paf_nil))
      (psf_cons (f := forF (itRg rng1D [.b 2]) (tgN 4) (seqF (asgF (opF addD [.t (opF mulD [.t (litF (.int 2)), .b 4]), .t (litF (.int 1))]) (tgN 5)) <|
      forF (itSeq (opF ixD [.b 1, .b 4])) (tgN 6) (seqF (asgF (opF addD [.t (opF addD [.t (lstF [.t (varF 5)]), .t (lcF [9] (itSeq (varF 6)) (tgN 9) (yesF) (opF addD [.b 9, .t (litF (.int 1))]))]), .t (lstF [.t (litF (.int 0))])]) (tgN 7)) <|
      forF (itSeq (opF ixD [.b 1, .t (opF subD [.t (opF subD [.b 2, .t (litF (.int 1))]), .b 4])])) (tgN 8) (dropF (mutF 3 appD [.t (opF tupleD [.t (opF addD [.b 7, .t (lcF [9] (itSeq (varF 8)) (tgN 9) (yesF) (opF addD [.t (opF addD [.b 9, .b 5]), .t (litF (.int 1))]))])])]))))) (psf_for (fi := itRg rng1D [.b 2]) (g := tgN 4) PassesOwn.never rfl (pif_rng1 (by rfl) T.z_range (paf_cons (o := .b 2) (po_b (pv 2)) paf_nil)) (pgf_name (i := 4) sc_p_patterns.nd rfl (by first | exact .inl rfl | exact .inr rfl) (by decide)) (psf_cons (f := asgF (opF addD [.t (opF mulD [.t (litF (.int 2)), .b 4]), .t (litF (.int 1))]) (tgN 5)) (psf_set (i := 5) sc_p_patterns.nd rfl (by first | exact .inl rfl | exact .inr rfl) (by decide) (pf_bin op_addA vok_add (po_t (pf_bin op_mulA vok_mul (po_t (pf_int)) (po_b (pv 4)))) (po_t (pf_int))))
      (psf_one (psf_for (fi := itSeq (opF ixD [.b 1, .b 4])) (g := tgN 6) PassesOwn.never rfl (pif_seq (pf_ix ix_seq vok_ix (po_b (pv 1)) (po_b (pv 4)) (fun _ _ => rfl))) (pgf_name (i := 6) sc_p_patterns.nd rfl (by first | exact .inl rfl | exact .inr rfl) (by decide)) (psf_cons (f := asgF (opF addD [.t (opF addD [.t (lstF [.t (varF 5)]), .t (lcF [9] (itSeq (varF 6)) (tgN 9) (yesF) (opF addD [.b 9, .t (litF (.int 1))]))]), .t (lstF [.t (litF (.int 0))])]) (tgN 7)) (psf_set (i := 7) sc_p_patterns.nd rfl (by first | exact .inl rfl | exact .inr rfl) (by decide) (pf_bin op_addA vok_add (po_t (pf_bin op_addA vok_add (po_t (pf_lst (paf_cons (o := .t (varF 5)) (po_t (pf_var (pv 5))) paf_nil))) (po_t (pf_lc (own := [("mate", 9)]) (fi := itSeq (varF 6)) (fg := tgN 9) (ft := yesF) (fe := opF addD [.b 9, .t (litF (.int 1))]) rfl sc_p_patterns.nd (pif_seq (pf_var (pv 6))) (blkOk_by (own := [("mate", 9)]) (by rfl)) (fun _ _ _ _ _ => pgf_name (i := 9) sc_p_patterns.nd rfl (by first | exact .inl rfl | exact .inr rfl) (by decide)) (fun _ _ _ _ _ => ptsf_nil) (fun _ _ _ _ _ => pf_bin op_addA vok_add (po_b (pv 9)) (po_t (pf_int))))))) (po_t (pf_lst (paf_cons (o := .t (litF (.int 0))) (po_t (pf_int)) paf_nil)))))
      (psf_one (psf_for (fi := itSeq (opF ixD [.b 1, .t (opF subD [.t (opF subD [.b 2, .t (litF (.int 1))]), .b 4])])) (g := tgN 8) PassesOwn.never rfl (pif_seq (pf_ix ix_seq vok_ix (po_b (pv 1)) (po_t (pf_bin op_sub vok_sub (po_t (pf_bin op_sub vok_sub (po_b (pv 2)) (po_t (pf_int)))) (po_b (pv 4)))) (fun _ _ => rfl))) (pgf_name (i := 8) sc_p_patterns.nd rfl (by first | exact .inl rfl | exact .inr rfl) (by decide)) (psf_one (psf_expr (pf_append (i := 3) (pv 3) (paf_cons (o := .t (opF tupleD [.t (opF addD [.b 7, .t (lcF [9] (itSeq (varF 8)) (tgN 9) (yesF) (opF addD [.t (opF addD [.b 9, .b 5]), .t (litF (.int 1))]))])])) (po_t (pf_callTy call_tuple_of vok_tuple (by rfl) T.z_tuple boot_tuple (paf_cons (o := .t (opF addD [.b 7, .t (lcF [9] (itSeq (varF 8)) (tgN 9) (yesF) (opF addD [.t (opF addD [.b 9, .b 5]), .t (litF (.int 1))]))])) (po_t (pf_bin op_addA vok_add (po_b (pv 7)) (po_t (pf_lc (own := [("mate", 9)]) (fi := itSeq (varF 8)) (fg := tgN 9) (ft := yesF) (fe := opF addD [.t (opF addD [.b 9, .b 5]), .t (litF (.int 1))]) rfl sc_p_patterns.nd (pif_seq (pf_var (pv 8))) (blkOk_by (own := [("mate", 9)]) (by rfl)) (fun _ _ _ _ _ => pgf_name (i := 9) sc_p_patterns.nd rfl (by first | exact .inl rfl | exact .inr rfl) (by decide)) (fun _ _ _ _ _ => ptsf_nil) (fun _ _ _ _ _ => pf_bin op_addA vok_add (po_t (pf_bin op_addA vok_add (po_b (pv 9)) (po_b (pv 5)))) (po_t (pf_int))))))) paf_nil))) paf_nil)))))))))))
      (psf_one (psf_expr (pf_append (i := 1) (pv 1) (paf_cons (o := .t (varF 3)) (po_t (pf_var (pv 3))) paf_nil))))))))
      (psf_one (psf_ret (pf_ix ix_seq vok_ix (po_b (pv 1)) (po_b (pv 0)) (fun _ _ => rfl)))))
theorem ok_p_remade (T : Tx K mg) : FnOk P w K mg base CX0 1 T.f_p_remade T.fd_p_remade ["n", "m", "mates", "place"] (spOf K fn_p_remade) := by
  unfold fn_p_remade
  refine fn_ok (k := 0) (x := "remade") (qual := "remade") (st := s_p_remade) (N := ["n", "m", "mates", "place", "row", "peg", "mate"]) (ps := ["n", "m", "mates", "place"]) (pins := [true, true, true, true]) (fb := F_p_remade) T.F_p_remade sc_p_remade rfl (by decide) ?_
  intro cdv A outer s H E hr
  unfold F_p_remade
  exact psf_cons (f := asgF (opF mulD [.t (lstF [.t (litF (.int 0))]), .t (opF addD [.b 0, .b 1])]) (tgN 4)) (psf_set (i := 4) sc_p_remade.nd rfl (by first | exact .inl rfl | exact .inr rfl) (by decide) (pf_bin op_mulA vok_mul (po_t (pf_lst (paf_cons (o := .t (litF (.int 0))) (po_t (pf_int)) paf_nil))) (po_t (pf_bin op_addA vok_add (po_b (pv 0)) (po_b (pv 1))))))
      (psf_cons (f := forF (itEnum (varF 2)) (tgT 2 (tgCons (tgN 5) (tgCons (tgN 6) (tgNil)))) (asgF (opF ixD [.b 3, .b 6]) (tgSub 4 (.t (opF ixD [.b 3, .b 5]))))) (psf_for (fi := itEnum (varF 2)) (g := tgT 2 (tgCons (tgN 5) (tgCons (tgN 6) (tgNil)))) PassesOwn.never rfl (pif_enum (by rfl) T.z_enumerate (pf_var (pv 2))) (pgf_tup rfl (pgsf_cons (pgf_name (i := 5) sc_p_remade.nd rfl (by first | exact .inl rfl | exact .inr rfl) (by decide)) (pgsf_cons (pgf_name (i := 6) sc_p_remade.nd rfl (by first | exact .inl rfl | exact .inr rfl) (by decide)) (pgsf_nil)))) (psf_one (psf_asg (f := opF ixD [.b 3, .b 6]) (g := tgSub 4 (.t (opF ixD [.b 3, .b 5]))) (pf_ix ix_seq vok_ix (po_b (pv 3)) (po_b (pv 6)) (fun _ _ => rfl)) (pgf_sub (k := 4) (oi := .t (opF ixD [.b 3, .b 5])) (pv 4) (po_t (pf_ix ix_seq vok_ix (po_b (pv 3)) (po_b (pv 5)) (fun _ _ => rfl)))))))
      (psf_one (psf_ret (pf_tup (paf_cons (o := .t (varF 0)) (po_t (pf_var (pv 0))) (paf_cons (o := .t (varF 1)) (po_t (pf_var (pv 1))) (paf_cons (o := .t (opF tupleD [.b 4])) (po_t (pf_callTy call_tuple_of vok_tuple (by rfl) T.z_tuple boot_tuple (paf_cons (o := .b 4) (po_b (pv 4)) paf_nil))) paf_nil)))))))
theorem ok_p_round_of (T : Tx K mg) : FnOk P w K mg base CX0 1 T.f_p_round_of T.fd_p_round_of ["n", "m"] (spOf K fn_p_round_of) := by
  unfold fn_p_round_of
  refine fn_ok (k := 0) (x := "round_of") (qual := "round_of") (st := s_p_round_of) (N := ["n", "m"]) (ps := ["n", "m"]) (pins := [true, true]) (fb := F_p_round_of) T.F_p_round_of sc_p_round_of rfl (by decide) ?_
  intro cdv A outer s H E hr
  unfold F_p_round_of
  exact psf_one (psf_ret (pf_bin op_addA vok_add (po_t (pf_lrg1 rfl (by rfl) T.z_list (by rfl) T.z_range (paf_cons (o := .b 0) (po_b (pv 0)) paf_nil))) (po_t (pf_lrg3 rfl (by rfl) T.z_list (by rfl) T.z_range (paf_cons (o := .t (opF subD [.t (opF addD [.b 0, .b 1]), .t (litF (.int 1))])) (po_t (pf_bin op_sub vok_sub (po_t (pf_bin op_addA vok_add (po_b (pv 0)) (po_b (pv 1)))) (po_t (pf_int)))) (paf_cons (o := .t (opF subD [.b 0, .t (litF (.int 1))])) (po_t (pf_bin op_sub vok_sub (po_b (pv 0)) (po_t (pf_int)))) (paf_cons (o := .t (opF negD [.t (litF (.int 1))])) (po_t (pf_un un_neg vok_neg (po_t (pf_int)))) paf_nil)))))))
theorem ok_p_all_mats (T : Tx K mg) : FnOk P w K mg base CX0 2 T.f_p_all_mats T.fd_p_all_mats ["n", "m"] (spOf K fn_p_all_mats) := by
  unfold fn_p_all_mats
  refine fn_ok (k := 1) (x := "all_mats") (qual := "all_mats") (st := s_p_all_mats) (N := ["n", "m", "place", "mates"]) (ps := ["n", "m"]) (pins := [true, true]) (fb := F_p_all_mats) T.F_p_all_mats sc_p_all_mats rfl (by decide) ?_
  intro cdv A outer s H E hr
  unfold F_p_all_mats
  exact psf_cons (f := dropF (callF fn_p_check_counts [.b 0, .b 1])) (psf_expr (pf_call (ok_p_check_counts T) (hr.mono (by decide)) (by rfl) T.g_p_check_counts T.F_p_check_counts.kp T.b_p_check_counts (paf_cons (o := .b 0) (po_b (pv 0)) (paf_cons (o := .b 1) (po_b (pv 1)) paf_nil))))
      (psf_cons (f := ifF (orF (bT (opF (eqD) [.t (opF addD [.b 0, .b 1]), .t (litF (.int 0))])) (bT (opF (neD) [.t (opF modD [.t (opF addD [.b 0, .b 1]), .t (litF (.int 2))]), .t (litF (.int 0))]))) (retF (lstF [])) (passF)) (psf_if (fc := orF (bT (opF (eqD) [.t (opF addD [.b 0, .b 1]), .t (litF (.int 0))])) (bT (opF (neD) [.t (opF modD [.t (opF addD [.b 0, .b 1]), .t (litF (.int 2))]), .t (litF (.int 0))]))) ((pwf_or (pt_cmpf (op_eqD hr.units) vok_eq (po_t (pf_bin op_addA vok_add (po_b (pv 0)) (po_b (pv 1)))) (po_t (pf_int)) (nomark _)) (pwf_or1 (pt_cmpf (op_neD hr.units) vok_ne (po_t (pf_bin op_modN vok_mod (po_t (pf_bin op_addA vok_add (po_b (pv 0)) (po_b (pv 1)))) (po_t (pf_int)))) (po_t (pf_int)) (nomark _)))).pt) (psf_one (psf_ret (pf_lst paf_nil))) (psf_nil))
      (psf_cons (f := asgF (callF fn_p_round_of [.b 0, .b 1]) (tgN 2)) (psf_set (i := 2) sc_p_all_mats.nd rfl (by first | exact .inl rfl | exact .inr rfl) (by decide) (pf_call (ok_p_round_of T) (hr.mono (by decide)) (by rfl) T.g_p_round_of T.F_p_round_of.kp T.b_p_round_of (paf_cons (o := .b 0) (po_b (pv 0)) (paf_cons (o := .b 1) (po_b (pv 1)) paf_nil))))
      (psf_one (psf_ret (pf_callB (cr_sortedM (units65 hr)) vok_sortedM (by rfl) T.z_sorted (by decide +kernel) (paf_cons (o := .t (lcF [3] (itSeq (callF fn_p_patterns [.t (opF fdivD [.t (opF addD [.b 0, .b 1]), .t (litF (.int 2))])])) (tgN 3) (yesF) (callF fn_p_remade [.b 0, .b 1, .b 3, .b 2]))) (po_t (pf_lc (own := [("mates", 3)]) (fi := itSeq (callF fn_p_patterns [.t (opF fdivD [.t (opF addD [.b 0, .b 1]), .t (litF (.int 2))])])) (fg := tgN 3) (ft := yesF) (fe := callF fn_p_remade [.b 0, .b 1, .b 3, .b 2]) rfl sc_p_all_mats.nd (pif_seq (pf_call (ok_p_patterns T) (hr.mono (by decide)) (by rfl) T.g_p_patterns T.F_p_patterns.kp T.b_p_patterns (paf_cons (o := .t (opF fdivD [.t (opF addD [.b 0, .b 1]), .t (litF (.int 2))])) (po_t (pf_bin op_fdivA vok_fdiv (po_t (pf_bin op_addA vok_add (po_b (pv 0)) (po_b (pv 1)))) (po_t (pf_int)))) paf_nil))) (blkOk_by (own := [("mates", 3)]) (by rfl)) (fun _ _ _ _ _ => pgf_name (i := 3) sc_p_all_mats.nd rfl (by first | exact .inl rfl | exact .inr rfl) (by decide)) (fun _ _ _ _ _ => ptsf_nil) (fun _ _ _ _ _ => pf_call (ok_p_remade T) (hr.mono (by decide)) (by rfl) T.g_p_remade T.F_p_remade.kp T.b_p_remade (paf_cons (o := .b 0) (po_b (pv 0)) (paf_cons (o := .b 1) (po_b (pv 1)) (paf_cons (o := .b 3) (po_b (pv 3)) (paf_cons (o := .b 2) (po_b (pv 2)) paf_nil))))))) paf_nil))))))
theorem ok_p_is_mat (T : Tx K mg) : FnOk P w K mg base CX0 2 T.f_p_is_mat T.fd_p_is_mat ["told"] (spOf K fn_p_is_mat) := by
  unfold fn_p_is_mat
  refine fn_ok (k := 1) (x := "is_mat") (qual := "is_mat") (st := s_p_is_mat) (N := ["told", "n", "m", "mates", "many", "peg", "mate", "waiting"]) (ps := ["told"]) (pins := [true]) (fb := F_p_is_mat) T.F_p_is_mat sc_p_is_mat rfl (by decide) ?_
  intro cdv A outer s H E hr
  unfold F_p_is_mat
  exact psf_cons (f := asgF (varF 0) (tgT 3 (tgCons (tgN 1) (tgCons (tgN 2) (tgCons (tgN 3) (tgNil)))))) (psf_asg (f := varF 0) (g := tgT 3 (tgCons (tgN 1) (tgCons (tgN 2) (tgCons (tgN 3) (tgNil))))) (pf_var (pv 0)) (pgf_tup rfl (pgsf_cons (pgf_name (i := 1) sc_p_is_mat.nd rfl (by first | exact .inl rfl | exact .inr rfl) (by decide)) (pgsf_cons (pgf_name (i := 2) sc_p_is_mat.nd rfl (by first | exact .inl rfl | exact .inr rfl) (by decide)) (pgsf_cons (pgf_name (i := 3) sc_p_is_mat.nd rfl (by first | exact .inl rfl | exact .inr rfl) (by decide)) (pgsf_nil))))))
      (psf_cons (f := asgF (opF lenD [.b 3]) (tgN 4)) (psf_set (i := 4) sc_p_is_mat.nd rfl (by first | exact .inl rfl | exact .inr rfl) (by decide) (pf_callB call_len_seq vok_len (by rfl) T.z_len PySem.boot_len (paf_cons (o := .b 3) (po_b (pv 3)) paf_nil)))
      (psf_cons (f := ifF (orF (bT (opF (ltD) [.b 1, .t (litF (.int 0))])) (orF (bT (opF (ltD) [.b 2, .t (litF (.int 0))])) (orF (bT (opF (neD) [.t (opF addD [.b 1, .b 2]), .b 4])) (bT (opF (eqD) [.b 4, .t (litF (.int 0))]))))) (retF (litF (.bl false))) (passF)) (psf_if (fc := orF (bT (opF (ltD) [.b 1, .t (litF (.int 0))])) (orF (bT (opF (ltD) [.b 2, .t (litF (.int 0))])) (orF (bT (opF (neD) [.t (opF addD [.b 1, .b 2]), .b 4])) (bT (opF (eqD) [.b 4, .t (litF (.int 0))]))))) ((pwf_or (pt_cmpf op_lt vok_lt (po_b (pv 1)) (po_t (pf_int)) (nomark _)) (pwf_or (pt_cmpf op_lt vok_lt (po_b (pv 2)) (po_t (pf_int)) (nomark _)) (pwf_or (pt_cmpf (op_neD hr.units) vok_ne (po_t (pf_bin op_addA vok_add (po_b (pv 1)) (po_b (pv 2)))) (po_b (pv 4)) (nomark _)) (pwf_or1 (pt_cmpf (op_eqD hr.units) vok_eq (po_b (pv 4)) (po_t (pf_int)) (nomark _)))))).pt) (psf_one (psf_ret (pf_bl))) (psf_nil))
      (psf_cons (f := forF (itEnum (varF 3)) (tgT 2 (tgCons (tgN 5) (tgCons (tgN 6) (tgNil)))) (ifF (orF (bT (opF (ltD) [.b 6, .t (litF (.int 0))])) (orF (bT (opF (geD) [.b 6, .b 4])) (orF (bT (opF (eqD) [.b 6, .b 5])) (bT (opF (neD) [.t (opF ixD [.b 3, .b 6]), .b 5]))))) (retF (litF (.bl false))) (passF))) (psf_for (fi := itEnum (varF 3)) (g := tgT 2 (tgCons (tgN 5) (tgCons (tgN 6) (tgNil)))) PassesOwn.never rfl (pif_enum (by rfl) T.z_enumerate (pf_var (pv 3))) (pgf_tup rfl (pgsf_cons (pgf_name (i := 5) sc_p_is_mat.nd rfl (by first | exact .inl rfl | exact .inr rfl) (by decide)) (pgsf_cons (pgf_name (i := 6) sc_p_is_mat.nd rfl (by first | exact .inl rfl | exact .inr rfl) (by decide)) (pgsf_nil)))) (psf_one (psf_if (fc := orF (bT (opF (ltD) [.b 6, .t (litF (.int 0))])) (orF (bT (opF (geD) [.b 6, .b 4])) (orF (bT (opF (eqD) [.b 6, .b 5])) (bT (opF (neD) [.t (opF ixD [.b 3, .b 6]), .b 5]))))) ((pwf_or (pt_cmpf op_lt vok_lt (po_b (pv 6)) (po_t (pf_int)) (nomark _)) (pwf_or (pt_cmpf op_ge vok_ge (po_b (pv 6)) (po_b (pv 4)) (nomark _)) (pwf_or (pt_cmpf (op_eqD hr.units) vok_eq (po_b (pv 6)) (po_b (pv 5)) (nomark _)) (pwf_or1 (pt_cmpf (op_neD hr.units) vok_ne (po_t (pf_ix ix_seq vok_ix (po_b (pv 3)) (po_b (pv 6)) (fun _ _ => rfl))) (po_b (pv 5)) (nomark _)))))).pt) (psf_one (psf_ret (pf_bl))) (psf_nil))))
      (psf_cons (f := asgF (lstF []) (tgN 7)) (psf_set (i := 7) sc_p_is_mat.nd rfl (by first | exact .inl rfl | exact .inr rfl) (by decide) (pf_lst paf_nil))
      (psf_cons (f := forF (itSeq (callF fn_p_round_of [.b 1, .b 2])) (tgN 5) (ifF (andF (bT (opF (neD) [.b 7, .t (lstF [])])) (bT (opF (eqD) [.t (opF ixD [.b 7, .t (opF negD [.t (litF (.int 1))])]), .t (opF ixD [.b 3, .b 5])]))) (dropF (mutF 7 popD [])) (dropF (mutF 7 appD [.t (varF 5)])))) (psf_for (fi := itSeq (callF fn_p_round_of [.b 1, .b 2])) (g := tgN 5) PassesOwn.never rfl (pif_seq (pf_call (ok_p_round_of T) (hr.mono (by decide)) (by rfl) T.g_p_round_of T.F_p_round_of.kp T.b_p_round_of (paf_cons (o := .b 1) (po_b (pv 1)) (paf_cons (o := .b 2) (po_b (pv 2)) paf_nil)))) (pgf_name (i := 5) sc_p_is_mat.nd rfl (by first | exact .inl rfl | exact .inr rfl) (by decide)) (psf_one (psf_if (fc := andF (bT (opF (neD) [.b 7, .t (lstF [])])) (bT (opF (eqD) [.t (opF ixD [.b 7, .t (opF negD [.t (litF (.int 1))])]), .t (opF ixD [.b 3, .b 5])]))) ((pwf_and (pt_cmpf (op_neD hr.units) vok_ne (po_b (pv 7)) (po_t (pf_lst paf_nil)) (nomark _)) (pwf_and1 (pt_cmpf (op_eqD hr.units) vok_eq (po_t (pf_ix ix_seq vok_ix (po_b (pv 7)) (po_t (pf_un un_neg vok_neg (po_t (pf_int)))) (fun _ _ => rfl))) (po_t (pf_ix ix_seq vok_ix (po_b (pv 3)) (po_b (pv 5)) (fun _ _ => rfl))) (nomark _)))).pt) (psf_one (psf_expr (pf_pop (i := 7) (pv 7)))) (psf_one (psf_expr (pf_append (i := 7) (pv 7) (paf_cons (o := .t (varF 5)) (po_t (pf_var (pv 5))) paf_nil)))))))
      (psf_one (psf_ret (pf_cmp (op_eqD hr.units) vok_eq (po_b (pv 7)) (po_t (pf_lst paf_nil)) (nomark _)))))))))
theorem ok_p_checked_mat (T : Tx K mg) : FnOk P w K mg base CX0 3 T.f_p_checked_mat T.fd_p_checked_mat ["mat"] (spOf K fn_p_checked_mat) := by
  unfold fn_p_checked_mat
  refine fn_ok (k := 2) (x := "checked_mat") (qual := "checked_mat") (st := s_p_checked_mat) (N := ["mat"]) (ps := ["mat"]) (pins := [true]) (fb := F_p_checked_mat) T.F_p_checked_mat sc_p_checked_mat rfl (by decide) ?_
  intro cdv A outer s H E hr
  unfold F_p_checked_mat
  exact psf_cons (f := ifF (notF (tstF (.t (callF fn_p_is_mat [.b 0])))) (neverF) (passF)) (psf_if (fc := notF (tstF (.t (callF fn_p_is_mat [.b 0])))) (ptf_not (pt_tst (o := .t (callF fn_p_is_mat [.b 0])) (po_t (pf_call (ok_p_is_mat T) (hr.mono (by decide)) (by rfl) T.g_p_is_mat T.F_p_is_mat.kp T.b_p_is_mat (paf_cons (o := .b 0) (po_b (pv 0)) paf_nil))))) (psf_one (psf_never)) (psf_nil))
      (psf_one (psf_ret (pf_var (pv 0))))
theorem ok_p_rank (T : Tx K mg) : FnOk P w K mg base CX0 4 T.f_p_rank T.fd_p_rank ["mat"] (spOf K fn_p_rank) := by
  unfold fn_p_rank
  refine fn_ok (k := 3) (x := "rank") (qual := "rank") (st := s_p_rank) (N := ["mat"]) (ps := ["mat"]) (pins := [true]) (fb := F_p_rank) T.F_p_rank sc_p_rank rfl (by decide) ?_
  intro cdv A outer s H E hr
  unfold F_p_rank
  exact psf_cons (f := dropF (callF fn_p_checked_mat [.b 0])) (psf_expr (pf_call (ok_p_checked_mat T) (hr.mono (by decide)) (by rfl) T.g_p_checked_mat T.F_p_checked_mat.kp T.b_p_checked_mat (paf_cons (o := .b 0) (po_b (pv 0)) paf_nil)))
      (psf_one (psf_ret (pf_indexT (f := callF fn_p_all_mats [.t (opF ixD [.b 0, .t (litF (.int 0))]), .t (opF ixD [.b 0, .t (litF (.int 1))])]) (ops := [.b 0]) (units65 hr) (pf_call (ok_p_all_mats T) (hr.mono (by decide)) (by rfl) T.g_p_all_mats T.F_p_all_mats.kp T.b_p_all_mats (paf_cons (o := .t (opF ixD [.b 0, .t (litF (.int 0))])) (po_t (pf_ix ix_seq vok_ix (po_b (pv 0)) (po_t (pf_int)) (fun _ _ => rfl))) (paf_cons (o := .t (opF ixD [.b 0, .t (litF (.int 1))])) (po_t (pf_ix ix_seq vok_ix (po_b (pv 0)) (po_t (pf_int)) (fun _ _ => rfl))) paf_nil))) (paf_cons (o := .b 0) (po_b (pv 0)) paf_nil))))
theorem ok_p_strings (T : Tx K mg) : FnOk P w K mg base CX0 4 T.f_p_strings T.fd_p_strings ["mat"] (spOf K fn_p_strings) := by
  unfold fn_p_strings
  refine fn_ok (k := 3) (x := "strings") (qual := "strings") (st := s_p_strings) (N := ["mat", "n", "m", "mates", "peg", "mate"]) (ps := ["mat"]) (pins := [true]) (fb := F_p_strings) T.F_p_strings sc_p_strings rfl (by decide) ?_
  intro cdv A outer s H E hr
  unfold F_p_strings
  exact psf_cons (f := asgF (callF fn_p_checked_mat [.b 0]) (tgT 3 (tgCons (tgN 1) (tgCons (tgN 2) (tgCons (tgN 3) (tgNil)))))) (psf_asg (f := callF fn_p_checked_mat [.b 0]) (g := tgT 3 (tgCons (tgN 1) (tgCons (tgN 2) (tgCons (tgN 3) (tgNil))))) (pf_call (ok_p_checked_mat T) (hr.mono (by decide)) (by rfl) T.g_p_checked_mat T.F_p_checked_mat.kp T.b_p_checked_mat (paf_cons (o := .b 0) (po_b (pv 0)) paf_nil)) (pgf_tup rfl (pgsf_cons (pgf_name (i := 1) sc_p_strings.nd rfl (by first | exact .inl rfl | exact .inr rfl) (by decide)) (pgsf_cons (pgf_name (i := 2) sc_p_strings.nd rfl (by first | exact .inl rfl | exact .inr rfl) (by decide)) (pgsf_cons (pgf_name (i := 3) sc_p_strings.nd rfl (by first | exact .inl rfl | exact .inr rfl) (by decide)) (pgsf_nil))))))
      (psf_one (psf_ret (pf_lc (own := [("peg", 4), ("mate", 5)]) (fi := itEnum (varF 3)) (fg := tgT 2 (tgCons (tgN 4) (tgCons (tgN 5) (tgNil)))) (ft := bT (opF (ltD) [.b 4, .b 5])) (fe := tupF [.t (varF 4), .t (varF 5)]) rfl sc_p_strings.nd (pif_enum (by rfl) T.z_enumerate (pf_var (pv 3))) (blkOk_by (own := [("peg", 4), ("mate", 5)]) (by rfl)) (fun _ _ _ _ _ => pgf_tup rfl (pgsf_cons (pgf_name (i := 4) sc_p_strings.nd rfl (by first | exact .inl rfl | exact .inr rfl) (by decide)) (pgsf_cons (pgf_name (i := 5) sc_p_strings.nd rfl (by first | exact .inl rfl | exact .inr rfl) (by decide)) (pgsf_nil)))) (fun _ _ _ _ _ => ptsf_one (pt_cmpf op_lt vok_lt (po_b (pv 4)) (po_b (pv 5)) (nomark _))) (fun _ _ _ _ _ => pf_tup (paf_cons (o := .t (varF 4)) (po_t (pf_var (pv 4))) (paf_cons (o := .t (varF 5)) (po_t (pf_var (pv 5))) paf_nil))))))
theorem ok_right (T : Tx K mg) : FnOk P w K mg base CX0 22 T.f_right T.fd_right ["_law_well_here", "_law_most"] (spOf K fn_right) := by
  unfold fn_right
  refine fn_ok (k := 21) (x := "_law_right") (qual := "_law_right") (st := s_right) (N := ["_law_well_here", "_law_most", "_law_total", "_law_above", "_law_due", "_law_up", "_law_down", "_law_pairs_here", "_law_others", "_law_first", "_law_second", "_law_dues", "_law_told", "_law_left", "_law_at", "_law_thing"]) (ps := ["_law_well_here", "_law_most"]) (pins := [true, true]) (fb := F_right) T.F_right sc_right rfl (by decide) ?_
  intro cdv A outer s H E hr
  unfold F_right
  exact psf_cons (f := asgF (callF fn_draw [.b 0, .t (opF addD [.b 1, .t (litF (.int 1))])]) (tgN 2)) (psf_set (i := 2) sc_right.nd rfl (by first | exact .inl rfl | exact .inr rfl) (by decide) (pf_call (ok_draw T) (hr.mono (by decide)) (by rfl) T.g_draw T.F_draw.kp T.b_draw (paf_cons (o := .b 0) (po_b (pv 0)) (paf_cons (o := .t (opF addD [.b 1, .t (litF (.int 1))])) (po_t (pf_bin op_addA vok_add (po_b (pv 1)) (po_t (pf_int)))) paf_nil))))
      (psf_cons (f := asgF (callF fn_draw [.b 0, .t (opF addD [.b 2, .t (litF (.int 1))])]) (tgN 3)) (psf_set (i := 3) sc_right.nd rfl (by first | exact .inl rfl | exact .inr rfl) (by decide) (pf_call (ok_draw T) (hr.mono (by decide)) (by rfl) T.g_draw T.F_draw.kp T.b_draw (paf_cons (o := .b 0) (po_b (pv 0)) (paf_cons (o := .t (opF addD [.b 2, .t (litF (.int 1))])) (po_t (pf_bin op_addA vok_add (po_b (pv 2)) (po_t (pf_int)))) paf_nil))))
      (psf_cons (f := asgF (callF fn_all [.b 3, .t (opF subD [.b 2, .b 3])]) (tgN 4)) (psf_set (i := 4) sc_right.nd rfl (by first | exact .inl rfl | exact .inr rfl) (by decide) (pf_call (ok_all T) (hr.mono (by decide)) (by rfl) T.g_all T.F_all.kp T.b_all (paf_cons (o := .b 3) (po_b (pv 3)) (paf_cons (o := .t (opF subD [.b 2, .b 3])) (po_t (pf_bin op_sub vok_sub (po_b (pv 2)) (po_b (pv 3)))) paf_nil))))
      (psf_cons (f := asgF (callF fn_counts [.b 0, .t (litF (.int 16))]) (tgT 2 (tgCons (tgN 5) (tgCons (tgN 6) (tgNil))))) (psf_asg (f := callF fn_counts [.b 0, .t (litF (.int 16))]) (g := tgT 2 (tgCons (tgN 5) (tgCons (tgN 6) (tgNil)))) (pf_call (ok_counts T) (hr.mono (by decide)) (by rfl) T.g_counts T.F_counts.kp T.b_counts (paf_cons (o := .b 0) (po_b (pv 0)) (paf_cons (o := .t (litF (.int 16))) (po_t (pf_int)) paf_nil))) (pgf_tup rfl (pgsf_cons (pgf_name (i := 5) sc_right.nd rfl (by first | exact .inl rfl | exact .inr rfl) (by decide)) (pgsf_cons (pgf_name (i := 6) sc_right.nd rfl (by first | exact .inl rfl | exact .inr rfl) (by decide)) (pgsf_nil)))))
      (psf_cons (f := parF [7, 8] [.t (callF fn_pairs [.b 0, .b 5, .b 6]), .t (callF fn_pairs [.b 0, .b 5, .b 6])]) (psf_par2 (i := 7) (j := 8) rfl sc_right.nd rfl rfl  (by decide)  (by decide) rfl rfl  (paf_cons (o := .t (callF fn_pairs [.b 0, .b 5, .b 6])) (po_t (pf_call (ok_pairs T) (hr.mono (by decide)) (by rfl) T.g_pairs T.F_pairs.kp T.b_pairs (paf_cons (o := .b 0) (po_b (pv 0)) (paf_cons (o := .b 5) (po_b (pv 5)) (paf_cons (o := .b 6) (po_b (pv 6)) paf_nil))))) (paf_cons (o := .t (callF fn_pairs [.b 0, .b 5, .b 6])) (po_t (pf_call (ok_pairs T) (hr.mono (by decide)) (by rfl) T.g_pairs T.F_pairs.kp T.b_pairs (paf_cons (o := .b 0) (po_b (pv 0)) (paf_cons (o := .b 5) (po_b (pv 5)) (paf_cons (o := .b 6) (po_b (pv 6)) paf_nil))))) paf_nil)) rfl)
      (psf_cons (f := parF [9, 10] [.t (callF fn_made [.b 5, .b 6, .b 7]), .t (callF fn_made [.b 5, .b 6, .b 8])]) (psf_par2 (i := 9) (j := 10) rfl sc_right.nd rfl rfl  (by decide)  (by decide) rfl rfl  (paf_cons (o := .t (callF fn_made [.b 5, .b 6, .b 7])) (po_t (pf_call (ok_made T) (hr.mono (by decide)) (by rfl) T.g_made T.F_made.kp T.b_made (paf_cons (o := .b 5) (po_b (pv 5)) (paf_cons (o := .b 6) (po_b (pv 6)) (paf_cons (o := .b 7) (po_b (pv 7)) paf_nil))))) (paf_cons (o := .t (callF fn_made [.b 5, .b 6, .b 8])) (po_t (pf_call (ok_made T) (hr.mono (by decide)) (by rfl) T.g_made T.F_made.kp T.b_made (paf_cons (o := .b 5) (po_b (pv 5)) (paf_cons (o := .b 6) (po_b (pv 6)) (paf_cons (o := .b 8) (po_b (pv 8)) paf_nil))))) paf_nil)) rfl)
      (psf_cons (f := asgF (lstF [.t (varF 4), .t (varF 4), .t (callF fn_ends [.b 5, .b 7]), .t (callF fn_ends [.b 5, .b 7]), .t (callF fn_ends [.b 5, .b 8])]) (tgN 11)) (psf_set (i := 11) sc_right.nd rfl (by first | exact .inl rfl | exact .inr rfl) (by decide) (pf_lst (paf_cons (o := .t (varF 4)) (po_t (pf_var (pv 4))) (paf_cons (o := .t (varF 4)) (po_t (pf_var (pv 4))) (paf_cons (o := .t (callF fn_ends [.b 5, .b 7])) (po_t (pf_call (ok_ends T) (hr.mono (by decide)) (by rfl) T.g_ends T.F_ends.kp T.b_ends (paf_cons (o := .b 5) (po_b (pv 5)) (paf_cons (o := .b 7) (po_b (pv 7)) paf_nil)))) (paf_cons (o := .t (callF fn_ends [.b 5, .b 7])) (po_t (pf_call (ok_ends T) (hr.mono (by decide)) (by rfl) T.g_ends T.F_ends.kp T.b_ends (paf_cons (o := .b 5) (po_b (pv 5)) (paf_cons (o := .b 7) (po_b (pv 7)) paf_nil)))) (paf_cons (o := .t (callF fn_ends [.b 5, .b 8])) (po_t (pf_call (ok_ends T) (hr.mono (by decide)) (by rfl) T.g_ends T.F_ends.kp T.b_ends (paf_cons (o := .b 5) (po_b (pv 5)) (paf_cons (o := .b 8) (po_b (pv 8)) paf_nil)))) paf_nil)))))))
      (psf_cons (f := asgF (lstF [.t (callF fn_p_all_mats [.b 3, .t (opF subD [.b 2, .b 3])]), .t (callF fn_p_all_mats [.b 3, .t (opF subD [.b 2, .b 3])])]) (tgN 12)) (psf_set (i := 12) sc_right.nd rfl (by first | exact .inl rfl | exact .inr rfl) (by decide) (pf_lst (paf_cons (o := .t (callF fn_p_all_mats [.b 3, .t (opF subD [.b 2, .b 3])])) (po_t (pf_call (ok_p_all_mats T) (hr.mono (by decide)) (by rfl) T.g_p_all_mats T.F_p_all_mats.kp T.b_p_all_mats (paf_cons (o := .b 3) (po_b (pv 3)) (paf_cons (o := .t (opF subD [.b 2, .b 3])) (po_t (pf_bin op_sub vok_sub (po_b (pv 2)) (po_b (pv 3)))) paf_nil)))) (paf_cons (o := .t (callF fn_p_all_mats [.b 3, .t (opF subD [.b 2, .b 3])])) (po_t (pf_call (ok_p_all_mats T) (hr.mono (by decide)) (by rfl) T.g_p_all_mats T.F_p_all_mats.kp T.b_p_all_mats (paf_cons (o := .b 3) (po_b (pv 3)) (paf_cons (o := .t (opF subD [.b 2, .b 3])) (po_t (pf_bin op_sub vok_sub (po_b (pv 2)) (po_b (pv 3)))) paf_nil)))) paf_nil))))
      (psf_cons (f := asgF (catMvF 12 (lstF [.t (callF fn_p_strings [.b 9]), .t (callF fn_p_strings [.b 9]), .t (callF fn_p_strings [.b 10])])) (tgN 12)) (psf_set (i := 12) sc_right.nd rfl (by first | exact .inl rfl | exact .inr rfl) (by decide) (pf_catMv (pv 12) (pf_lst (paf_cons (o := .t (callF fn_p_strings [.b 9])) (po_t (pf_call (ok_p_strings T) (hr.mono (by decide)) (by rfl) T.g_p_strings T.F_p_strings.kp T.b_p_strings (paf_cons (o := .b 9) (po_b (pv 9)) paf_nil))) (paf_cons (o := .t (callF fn_p_strings [.b 9])) (po_t (pf_call (ok_p_strings T) (hr.mono (by decide)) (by rfl) T.g_p_strings T.F_p_strings.kp T.b_p_strings (paf_cons (o := .b 9) (po_b (pv 9)) paf_nil))) (paf_cons (o := .t (callF fn_p_strings [.b 10])) (po_t (pf_call (ok_p_strings T) (hr.mono (by decide)) (by rfl) T.g_p_strings T.F_p_strings.kp T.b_p_strings (paf_cons (o := .b 10) (po_b (pv 10)) paf_nil))) paf_nil))))))
      (psf_cons (f := ifF (lendB (notF (tstF (.t (callF fn_same [.b 12, .b 11]))))) (retF (lendF (litF (.bl false)))) (passF)) (psf_if (fc := lendB (notF (tstF (.t (callF fn_same [.b 12, .b 11]))))) (pt_lend (ptf_not (pt_tst (o := .t (callF fn_same [.b 12, .b 11])) (po_t (pf_call (ok_same T) (hr.mono (by decide)) (by rfl) T.g_same T.F_same.kp T.b_same (paf_cons (o := .b 12) (po_b (pv 12)) (paf_cons (o := .b 11) (po_b (pv 11)) paf_nil))))))) (psf_one (psf_ret (pf_lend (pf_bl)))) (psf_nil))
      (psf_cons (f := asgF (lstF []) (tgN 13)) (psf_set (i := 13) sc_right.nd rfl (by first | exact .inl rfl | exact .inr rfl) (by decide) (pf_lst paf_nil))
      (psf_cons (f := forF (itSeq (tupF [.t (litF (.int 0)), .t (litF (.int 2))])) (tgN 14) (seqF (dropF (callElF fn_spoil 0 12 14)) <|
      seqF (dropF (mutF 13 appD [.t (lendF (opF listD [.t (opF ixD [.b 12, .b 14])]))])) <|
      seqF (ifF (lendB (orF (notF (tstF (.t (callF fn_same [.t (opF ixD [.b 12, .t (litF (.int 1))]), .t (opF ixD [.b 11, .t (litF (.int 1))])])))) (notF (tstF (.t (callF fn_same [.t (opF (partD true false) [.b 12, .t (litF (.int 3))]), .t (opF (partD true false) [.b 11, .t (litF (.int 3))])])))))) (retF (lendF (litF (.bl false)))) (passF)) <|
      ifF (lendB (orF (notF (tstF (.t (callF fn_same [.t (callF fn_p_all_mats [.b 3, .t (opF subD [.b 2, .b 3])]), .b 4])))) (notF (tstF (.t (callF fn_same [.t (callF fn_p_strings [.b 9]), .t (opF ixD [.b 11, .t (litF (.int 2))])])))))) (retF (lendF (litF (.bl false)))) (passF))) (psf_for (fi := itSeq (tupF [.t (litF (.int 0)), .t (litF (.int 2))])) (g := tgN 14) PassesOwn.never rfl (pif_seq (pf_tup (paf_cons (o := .t (litF (.int 0))) (po_t (pf_int)) (paf_cons (o := .t (litF (.int 2))) (po_t (pf_int)) paf_nil)))) (pgf_name (i := 14) sc_right.nd rfl (by first | exact .inl rfl | exact .inr rfl) (by decide)) (psf_cons (f := dropF (callElF fn_spoil 0 12 14)) (psf_expr (pf_callEl (ok_spoil T) (hr.mono (by decide)) (by rfl) T.g_spoil T.F_spoil.kp T.b_spoil (pv 0) (pe_ix ix_seq (pv 12) (pv 14) (fun _ _ => rfl))))
      (psf_cons (f := dropF (mutF 13 appD [.t (lendF (opF listD [.t (opF ixD [.b 12, .b 14])]))])) (psf_expr (pf_append (i := 13) (pv 13) (paf_cons (o := .t (lendF (opF listD [.t (opF ixD [.b 12, .b 14])]))) (po_t (pf_lend (pf_callTy call_list_of vok_list (by rfl) T.z_list boot_list (paf_cons (o := .t (opF ixD [.b 12, .b 14])) (po_t (pf_ix ix_seq vok_ix (po_b (pv 12)) (po_b (pv 14)) (fun _ _ => rfl))) paf_nil)))) paf_nil)))
      (psf_cons (f := ifF (lendB (orF (notF (tstF (.t (callF fn_same [.t (opF ixD [.b 12, .t (litF (.int 1))]), .t (opF ixD [.b 11, .t (litF (.int 1))])])))) (notF (tstF (.t (callF fn_same [.t (opF (partD true false) [.b 12, .t (litF (.int 3))]), .t (opF (partD true false) [.b 11, .t (litF (.int 3))])])))))) (retF (lendF (litF (.bl false)))) (passF)) (psf_if (fc := lendB (orF (notF (tstF (.t (callF fn_same [.t (opF ixD [.b 12, .t (litF (.int 1))]), .t (opF ixD [.b 11, .t (litF (.int 1))])])))) (notF (tstF (.t (callF fn_same [.t (opF (partD true false) [.b 12, .t (litF (.int 3))]), .t (opF (partD true false) [.b 11, .t (litF (.int 3))])])))))) (pt_lend ((pwf_or (ptf_not (pt_tst (o := .t (callF fn_same [.t (opF ixD [.b 12, .t (litF (.int 1))]), .t (opF ixD [.b 11, .t (litF (.int 1))])])) (po_t (pf_call (ok_same T) (hr.mono (by decide)) (by rfl) T.g_same T.F_same.kp T.b_same (paf_cons (o := .t (opF ixD [.b 12, .t (litF (.int 1))])) (po_t (pf_ix ix_seq vok_ix (po_b (pv 12)) (po_t (pf_int)) (fun _ _ => rfl))) (paf_cons (o := .t (opF ixD [.b 11, .t (litF (.int 1))])) (po_t (pf_ix ix_seq vok_ix (po_b (pv 11)) (po_t (pf_int)) (fun _ _ => rfl))) paf_nil)))))) (pwf_or1 (ptf_not (pt_tst (o := .t (callF fn_same [.t (opF (partD true false) [.b 12, .t (litF (.int 3))]), .t (opF (partD true false) [.b 11, .t (litF (.int 3))])])) (po_t (pf_call (ok_same T) (hr.mono (by decide)) (by rfl) T.g_same T.F_same.kp T.b_same (paf_cons (o := .t (opF (partD true false) [.b 12, .t (litF (.int 3))])) (po_t (pf_slL (po_b (pv 12)) (po_t (pf_int)))) (paf_cons (o := .t (opF (partD true false) [.b 11, .t (litF (.int 3))])) (po_t (pf_slL (po_b (pv 11)) (po_t (pf_int)))) paf_nil)))))))).pt)) (psf_one (psf_ret (pf_lend (pf_bl)))) (psf_nil))
      (psf_one (psf_if (fc := lendB (orF (notF (tstF (.t (callF fn_same [.t (callF fn_p_all_mats [.b 3, .t (opF subD [.b 2, .b 3])]), .b 4])))) (notF (tstF (.t (callF fn_same [.t (callF fn_p_strings [.b 9]), .t (opF ixD [.b 11, .t (litF (.int 2))])])))))) (pt_lend ((pwf_or (ptf_not (pt_tst (o := .t (callF fn_same [.t (callF fn_p_all_mats [.b 3, .t (opF subD [.b 2, .b 3])]), .b 4])) (po_t (pf_call (ok_same T) (hr.mono (by decide)) (by rfl) T.g_same T.F_same.kp T.b_same (paf_cons (o := .t (callF fn_p_all_mats [.b 3, .t (opF subD [.b 2, .b 3])])) (po_t (pf_call (ok_p_all_mats T) (hr.mono (by decide)) (by rfl) T.g_p_all_mats T.F_p_all_mats.kp T.b_p_all_mats (paf_cons (o := .b 3) (po_b (pv 3)) (paf_cons (o := .t (opF subD [.b 2, .b 3])) (po_t (pf_bin op_sub vok_sub (po_b (pv 2)) (po_b (pv 3)))) paf_nil)))) (paf_cons (o := .b 4) (po_b (pv 4)) paf_nil)))))) (pwf_or1 (ptf_not (pt_tst (o := .t (callF fn_same [.t (callF fn_p_strings [.b 9]), .t (opF ixD [.b 11, .t (litF (.int 2))])])) (po_t (pf_call (ok_same T) (hr.mono (by decide)) (by rfl) T.g_same T.F_same.kp T.b_same (paf_cons (o := .t (callF fn_p_strings [.b 9])) (po_t (pf_call (ok_p_strings T) (hr.mono (by decide)) (by rfl) T.g_p_strings T.F_p_strings.kp T.b_p_strings (paf_cons (o := .b 9) (po_b (pv 9)) paf_nil))) (paf_cons (o := .t (opF ixD [.b 11, .t (litF (.int 2))])) (po_t (pf_ix ix_seq vok_ix (po_b (pv 11)) (po_t (pf_int)) (fun _ _ => rfl))) paf_nil)))))))).pt)) (psf_one (psf_ret (pf_lend (pf_bl)))) (psf_nil)))))))
      (psf_cons (f := ifF (lendB (orF (notF (tstF (.t (callF fn_same [.t (opF addD [.t (opF (partD true true) [.b 12, .t (asInt (litF (.int 1))), .t (asInt (litF (.int 2)))]), .t (opF (partD true false) [.b 12, .t (litF (.int 3))])]), .t (opF addD [.t (opF (partD true true) [.b 11, .t (asInt (litF (.int 1))), .t (asInt (litF (.int 2)))]), .t (opF (partD true false) [.b 11, .t (litF (.int 3))])])])))) (orF (bT (opF (neD) [.t (opF ixD [.b 12, .t (litF (.int 0))]), .t (opF ixD [.b 13, .t (litF (.int 0))])])) (bT (opF (neD) [.t (opF ixD [.b 12, .t (litF (.int 2))]), .t (opF ixD [.b 13, .t (litF (.int 1))])]))))) (retF (lendF (litF (.bl false)))) (passF)) (psf_if (fc := lendB (orF (notF (tstF (.t (callF fn_same [.t (opF addD [.t (opF (partD true true) [.b 12, .t (asInt (litF (.int 1))), .t (asInt (litF (.int 2)))]), .t (opF (partD true false) [.b 12, .t (litF (.int 3))])]), .t (opF addD [.t (opF (partD true true) [.b 11, .t (asInt (litF (.int 1))), .t (asInt (litF (.int 2)))]), .t (opF (partD true false) [.b 11, .t (litF (.int 3))])])])))) (orF (bT (opF (neD) [.t (opF ixD [.b 12, .t (litF (.int 0))]), .t (opF ixD [.b 13, .t (litF (.int 0))])])) (bT (opF (neD) [.t (opF ixD [.b 12, .t (litF (.int 2))]), .t (opF ixD [.b 13, .t (litF (.int 1))])]))))) (pt_lend ((pwf_or (ptf_not (pt_tst (o := .t (callF fn_same [.t (opF addD [.t (opF (partD true true) [.b 12, .t (asInt (litF (.int 1))), .t (asInt (litF (.int 2)))]), .t (opF (partD true false) [.b 12, .t (litF (.int 3))])]), .t (opF addD [.t (opF (partD true true) [.b 11, .t (asInt (litF (.int 1))), .t (asInt (litF (.int 2)))]), .t (opF (partD true false) [.b 11, .t (litF (.int 3))])])])) (po_t (pf_call (ok_same T) (hr.mono (by decide)) (by rfl) T.g_same T.F_same.kp T.b_same (paf_cons (o := .t (opF addD [.t (opF (partD true true) [.b 12, .t (asInt (litF (.int 1))), .t (asInt (litF (.int 2)))]), .t (opF (partD true false) [.b 12, .t (litF (.int 3))])])) (po_t (pf_bin op_addA vok_add (po_t (pf_slB (po_b (pv 12)) (pf_int) (pf_int))) (po_t (pf_slL (po_b (pv 12)) (po_t (pf_int)))))) (paf_cons (o := .t (opF addD [.t (opF (partD true true) [.b 11, .t (asInt (litF (.int 1))), .t (asInt (litF (.int 2)))]), .t (opF (partD true false) [.b 11, .t (litF (.int 3))])])) (po_t (pf_bin op_addA vok_add (po_t (pf_slB (po_b (pv 11)) (pf_int) (pf_int))) (po_t (pf_slL (po_b (pv 11)) (po_t (pf_int)))))) paf_nil)))))) (pwf_or (pt_cmpf (op_neD hr.units) vok_ne (po_t (pf_ix ix_seq vok_ix (po_b (pv 12)) (po_t (pf_int)) (fun _ _ => rfl))) (po_t (pf_ix ix_seq vok_ix (po_b (pv 13)) (po_t (pf_int)) (fun _ _ => rfl))) (nomark _)) (pwf_or1 (pt_cmpf (op_neD hr.units) vok_ne (po_t (pf_ix ix_seq vok_ix (po_b (pv 12)) (po_t (pf_int)) (fun _ _ => rfl))) (po_t (pf_ix ix_seq vok_ix (po_b (pv 13)) (po_t (pf_int)) (fun _ _ => rfl))) (nomark _))))).pt)) (psf_one (psf_ret (pf_lend (pf_bl)))) (psf_nil))
      (psf_cons (f := ifF (lendB (andF (bT (opF (ltD) [.b 2, .t (litF (.int 9))])) (notF (tstF (.t (callF fn_same [.t (lcF [15] (itSeq (opF ixD [.b 12, .t (litF (.int 1))])) (tgN 15) (yesF) (callF fn_p_rank [.b 15])), .t (opF (lrgD rng1D) [.t (opF lenD [.b 4])])])))))) (retF (lendF (litF (.bl false)))) (passF)) (psf_if (fc := lendB (andF (bT (opF (ltD) [.b 2, .t (litF (.int 9))])) (notF (tstF (.t (callF fn_same [.t (lcF [15] (itSeq (opF ixD [.b 12, .t (litF (.int 1))])) (tgN 15) (yesF) (callF fn_p_rank [.b 15])), .t (opF (lrgD rng1D) [.t (opF lenD [.b 4])])])))))) (pt_lend ((pwf_and (pt_cmpf op_lt vok_lt (po_b (pv 2)) (po_t (pf_int)) (nomark _)) (pwf_and1 (ptf_not (pt_tst (o := .t (callF fn_same [.t (lcF [15] (itSeq (opF ixD [.b 12, .t (litF (.int 1))])) (tgN 15) (yesF) (callF fn_p_rank [.b 15])), .t (opF (lrgD rng1D) [.t (opF lenD [.b 4])])])) (po_t (pf_call (ok_same T) (hr.mono (by decide)) (by rfl) T.g_same T.F_same.kp T.b_same (paf_cons (o := .t (lcF [15] (itSeq (opF ixD [.b 12, .t (litF (.int 1))])) (tgN 15) (yesF) (callF fn_p_rank [.b 15]))) (po_t (pf_lc (own := [("_law_thing", 15)]) (fi := itSeq (opF ixD [.b 12, .t (litF (.int 1))])) (fg := tgN 15) (ft := yesF) (fe := callF fn_p_rank [.b 15]) rfl sc_right.nd (pif_seq (pf_ix ix_seq vok_ix (po_b (pv 12)) (po_t (pf_int)) (fun _ _ => rfl))) (blkOk_by (own := [("_law_thing", 15)]) (by rfl)) (fun _ _ _ _ _ => pgf_name (i := 15) sc_right.nd rfl (by first | exact .inl rfl | exact .inr rfl) (by decide)) (fun _ _ _ _ _ => ptsf_nil) (fun _ _ _ _ _ => pf_call (ok_p_rank T) (hr.mono (by decide)) (by rfl) T.g_p_rank T.F_p_rank.kp T.b_p_rank (paf_cons (o := .b 15) (po_b (pv 15)) paf_nil)))) (paf_cons (o := .t (opF (lrgD rng1D) [.t (opF lenD [.b 4])])) (po_t (pf_lrg1 rfl (by rfl) T.z_list (by rfl) T.z_range (paf_cons (o := .t (opF lenD [.b 4])) (po_t (pf_callB call_len_seq vok_len (by rfl) T.z_len PySem.boot_len (paf_cons (o := .b 4) (po_b (pv 4)) paf_nil))) paf_nil))) paf_nil)))))))).pt)) (psf_one (psf_ret (pf_lend (pf_bl)))) (psf_nil))
      (psf_one (psf_ret (pf_lend (pf_call (ok_same T) (hr.mono (by decide)) (by rfl) T.g_same T.F_same.kp T.b_same (paf_cons (o := .t (callF fn_p_strings [.b 10])) (po_t (pf_call (ok_p_strings T) (hr.mono (by decide)) (by rfl) T.g_p_strings T.F_p_strings.kp T.b_p_strings (paf_cons (o := .b 10) (po_b (pv 10)) paf_nil))) (paf_cons (o := .t (opF ixD [.b 11, .t (litF (.int 4))])) (po_t (pf_ix ix_seq vok_ix (po_b (pv 11)) (po_t (pf_int)) (fun _ _ => rfl))) paf_nil)))))))))))))))))))
theorem ok_well (T : Tx K mg) : FnOk P w K mg base CX0 1 T.f_well T.fd_well ["_law_script", "_law_place"] (spOf K fn_well) := by
  unfold fn_well
  refine fn_ok (k := 0) (x := "_law_well") (qual := "_law_well") (st := s_well) (N := ["_law_script", "_law_place", "_law_cell"]) (ps := ["_law_script", "_law_place"]) (pins := [true, true]) (fb := F_well) T.F_well sc_well rfl (by decide) ?_
  intro cdv A outer s H E hr
  unfold F_well
  exact psf_cons (f := asgF (litF (.int 0)) (tgN 2)) (psf_set (i := 2) sc_well.nd rfl (by first | exact .inl rfl | exact .inr rfl) (by decide) (pf_int))
      (psf_cons (f := ifF (bT (opF (ltD) [.b 1, .t (opF lenD [.b 0])])) (asgF (opF intD [.t (opF ixD [.b 0, .b 1])]) (tgN 2)) (passF)) (psf_if (fc := bT (opF (ltD) [.b 1, .t (opF lenD [.b 0])])) (pt_cmpf op_lt vok_lt (po_b (pv 1)) (po_t (pf_callB call_len_seq vok_len (by rfl) T.z_len PySem.boot_len (paf_cons (o := .b 0) (po_b (pv 0)) paf_nil))) (nomark _)) (psf_one (psf_set (i := 2) sc_well.nd rfl (by first | exact .inl rfl | exact .inr rfl) (by decide) (pf_callTy call_int1 vok_int (by rfl) T.z_int boot_int (paf_cons (o := .t (opF ixD [.b 0, .b 1])) (po_t (pf_ix ix_seq vok_ix (po_b (pv 0)) (po_b (pv 1)) (fun _ _ => rfl))) paf_nil)))) (psf_nil))
      (psf_one (psf_ret (pf_lst (paf_cons (o := .t (opF max2D [.t (litF (.int 0)), .t (opF subD [.b 2, .t (opF powD [.t (litF (.int 10)), .t (litF (.int 18))])])])) (po_t (pf_callB (call_max2 rfl) vok_max2 (by rfl) T.z_max (by decide +kernel) (paf_cons (o := .t (litF (.int 0))) (po_t (pf_int)) (paf_cons (o := .t (opF subD [.b 2, .t (opF powD [.t (litF (.int 10)), .t (litF (.int 18))])])) (po_t (pf_bin op_sub vok_sub (po_b (pv 2)) (po_t (pf_bin op_powA vok_pow (po_t (pf_int)) (po_t (pf_int)))))) paf_nil)))) (paf_cons (o := .t (opF addD [.t (opF addD [.t (opF modD [.t (opF intD [.b 2]), .t (opF addD [.t (opF powD [.t (litF (.int 10)), .t (litF (.int 33))]), .t (litF (.int 61))])]), .t (opF mulD [.t (litF (.int 104395301)), .b 1])]), .t (litF (.int 1299709))])) (po_t (pf_bin op_addA vok_add (po_t (pf_bin op_addA vok_add (po_t (pf_bin op_modN vok_mod (po_t (pf_callTy call_int1 vok_int (by rfl) T.z_int boot_int (paf_cons (o := .b 2) (po_b (pv 2)) paf_nil))) (po_t (pf_bin op_addA vok_add (po_t (pf_bin op_powA vok_pow (po_t (pf_int)) (po_t (pf_int)))) (po_t (pf_int)))))) (po_t (pf_bin op_mulA vok_mul (po_t (pf_int)) (po_b (pv 1)))))) (po_t (pf_int)))) (paf_cons (o := .t (litF (.int 0))) (po_t (pf_int)) paf_nil)))))))
theorem ok_law (T : Tx K mg) : FnOk P w K mg base CX0 23 T.f_law T.fd_law ["_law_script"] (spOf K fn_law) := by
  unfold fn_law
  refine fn_ok (k := 22) (x := "law") (qual := "law") (st := s_law) (N := ["_law_script", "_law_place"]) (ps := ["_law_script"]) (pins := [true]) (fb := F_law) T.F_law sc_law rfl (by decide) ?_
  intro cdv A outer s H E hr
  unfold F_law
  exact psf_cons (f := forF (itRg rng1D [.t (opF max2D [.t (litF (.int 3)), .t (opF min2D [.t (opF lenD [.b 0]), .t (litF (.int 12))])])]) (tgN 1) (ifF (notF (tstF (.t (callF fn_right [.t (callF fn_well [.b 0, .b 1]), .t (opF ixD [.t (lstF [.t (litF (.int 8)), .t (litF (.int 12))]), .t (opF intD [.t (opF (eqD) [.b 1, .t (litF (.int 0))])])])])))) (retF (litF (.bl false))) (passF))) (psf_for (fi := itRg rng1D [.t (opF max2D [.t (litF (.int 3)), .t (opF min2D [.t (opF lenD [.b 0]), .t (litF (.int 12))])])]) (g := tgN 1) PassesOwn.never rfl (pif_rng1 (by rfl) T.z_range (paf_cons (o := .t (opF max2D [.t (litF (.int 3)), .t (opF min2D [.t (opF lenD [.b 0]), .t (litF (.int 12))])])) (po_t (pf_callB (call_max2 rfl) vok_max2 (by rfl) T.z_max (by decide +kernel) (paf_cons (o := .t (litF (.int 3))) (po_t (pf_int)) (paf_cons (o := .t (opF min2D [.t (opF lenD [.b 0]), .t (litF (.int 12))])) (po_t (pf_callB (call_min2 rfl) vok_min2 (by rfl) T.z_min (by decide +kernel) (paf_cons (o := .t (opF lenD [.b 0])) (po_t (pf_callB call_len_seq vok_len (by rfl) T.z_len PySem.boot_len (paf_cons (o := .b 0) (po_b (pv 0)) paf_nil))) (paf_cons (o := .t (litF (.int 12))) (po_t (pf_int)) paf_nil)))) paf_nil)))) paf_nil)) (pgf_name (i := 1) sc_law.nd rfl (by first | exact .inl rfl | exact .inr rfl) (by decide)) (psf_one (psf_if (fc := notF (tstF (.t (callF fn_right [.t (callF fn_well [.b 0, .b 1]), .t (opF ixD [.t (lstF [.t (litF (.int 8)), .t (litF (.int 12))]), .t (opF intD [.t (opF (eqD) [.b 1, .t (litF (.int 0))])])])])))) (ptf_not (pt_tst (o := .t (callF fn_right [.t (callF fn_well [.b 0, .b 1]), .t (opF ixD [.t (lstF [.t (litF (.int 8)), .t (litF (.int 12))]), .t (opF intD [.t (opF (eqD) [.b 1, .t (litF (.int 0))])])])])) (po_t (pf_call (ok_right T) (hr.mono (by decide)) (by rfl) T.g_right T.F_right.kp T.b_right (paf_cons (o := .t (callF fn_well [.b 0, .b 1])) (po_t (pf_call (ok_well T) (hr.mono (by decide)) (by rfl) T.g_well T.F_well.kp T.b_well (paf_cons (o := .b 0) (po_b (pv 0)) (paf_cons (o := .b 1) (po_b (pv 1)) paf_nil)))) (paf_cons (o := .t (opF ixD [.t (lstF [.t (litF (.int 8)), .t (litF (.int 12))]), .t (opF intD [.t (opF (eqD) [.b 1, .t (litF (.int 0))])])])) (po_t (pf_ix ix_seq vok_ix (po_t (pf_lst (paf_cons (o := .t (litF (.int 8))) (po_t (pf_int)) (paf_cons (o := .t (litF (.int 12))) (po_t (pf_int)) paf_nil)))) (po_t (pf_callTy call_int1 vok_int (by rfl) T.z_int boot_int (paf_cons (o := .t (opF (eqD) [.b 1, .t (litF (.int 0))])) (po_t (pf_cmp (op_eqD hr.units) vok_eq (po_b (pv 1)) (po_t (pf_int)) (nomark _))) paf_nil))) (fun _ _ => rfl))) paf_nil)))))) (psf_one (psf_ret (pf_bl))) (psf_nil))))
      (psf_one (psf_ret (pf_bl)))
end
theorem all_mk {l : PySem.W.OpenLaw} {w : World} {K : PySem.W.Frag} {h : Heap} {mg : Str → Option Value} {fa f_made f_ring f_all f_draw f_counts f_ends f_pairs f_same f_spoil f_p_check_counts f_p_patterns f_p_remade f_p_round_of f_p_all_mats f_p_is_mat f_p_checked_mat f_p_rank f_p_strings f_right f_well f_law : Addr} (X : K.In h) (G : h.Ns mainGlobals mg) (hfa : mg "law" = some (.ref fa))
    (hlaw : ∀ ns : List Int, ns.length ≤ 63 → ∃ os, fn_law.sem [.scr ns] = some (.bl true, os))
    {od_made an_made : Option Addr} {sl_made : Array (Option Value)} {oc_made kV_made dc_made pm_made cd_made ct_made : Value}
    {od_ring an_ring : Option Addr} {sl_ring : Array (Option Value)} {oc_ring kV_ring dc_ring pm_ring cd_ring ct_ring : Value}
    {od_all an_all : Option Addr} {sl_all : Array (Option Value)} {oc_all kV_all dc_all pm_all cd_all ct_all : Value}
    {od_draw an_draw : Option Addr} {sl_draw : Array (Option Value)} {oc_draw kV_draw dc_draw pm_draw cd_draw ct_draw : Value}
    {od_counts an_counts : Option Addr} {sl_counts : Array (Option Value)} {oc_counts kV_counts dc_counts pm_counts cd_counts ct_counts : Value}
    {od_ends an_ends : Option Addr} {sl_ends : Array (Option Value)} {oc_ends kV_ends dc_ends pm_ends cd_ends ct_ends : Value}
    {od_pairs an_pairs : Option Addr} {sl_pairs : Array (Option Value)} {oc_pairs kV_pairs dc_pairs pm_pairs cd_pairs ct_pairs : Value}
    {od_same an_same : Option Addr} {sl_same : Array (Option Value)} {oc_same kV_same dc_same pm_same cd_same ct_same : Value}
    {od_spoil an_spoil : Option Addr} {sl_spoil : Array (Option Value)} {oc_spoil kV_spoil dc_spoil pm_spoil cd_spoil ct_spoil : Value}
    {od_p_check_counts an_p_check_counts : Option Addr} {sl_p_check_counts : Array (Option Value)} {oc_p_check_counts kV_p_check_counts dc_p_check_counts pm_p_check_counts cd_p_check_counts ct_p_check_counts : Value}
    {od_p_patterns an_p_patterns : Option Addr} {sl_p_patterns : Array (Option Value)} {oc_p_patterns kV_p_patterns dc_p_patterns pm_p_patterns cd_p_patterns ct_p_patterns : Value}
    {od_p_remade an_p_remade : Option Addr} {sl_p_remade : Array (Option Value)} {oc_p_remade kV_p_remade dc_p_remade pm_p_remade cd_p_remade ct_p_remade : Value}
    {od_p_round_of an_p_round_of : Option Addr} {sl_p_round_of : Array (Option Value)} {oc_p_round_of kV_p_round_of dc_p_round_of pm_p_round_of cd_p_round_of ct_p_round_of : Value}
    {od_p_all_mats an_p_all_mats : Option Addr} {sl_p_all_mats : Array (Option Value)} {oc_p_all_mats kV_p_all_mats dc_p_all_mats pm_p_all_mats cd_p_all_mats ct_p_all_mats : Value}
    {od_p_is_mat an_p_is_mat : Option Addr} {sl_p_is_mat : Array (Option Value)} {oc_p_is_mat kV_p_is_mat dc_p_is_mat pm_p_is_mat cd_p_is_mat ct_p_is_mat : Value}
    {od_p_checked_mat an_p_checked_mat : Option Addr} {sl_p_checked_mat : Array (Option Value)} {oc_p_checked_mat kV_p_checked_mat dc_p_checked_mat pm_p_checked_mat cd_p_checked_mat ct_p_checked_mat : Value}
    {od_p_rank an_p_rank : Option Addr} {sl_p_rank : Array (Option Value)} {oc_p_rank kV_p_rank dc_p_rank pm_p_rank cd_p_rank ct_p_rank : Value}
    {od_p_strings an_p_strings : Option Addr} {sl_p_strings : Array (Option Value)} {oc_p_strings kV_p_strings dc_p_strings pm_p_strings cd_p_strings ct_p_strings : Value}
    {od_right an_right : Option Addr} {sl_right : Array (Option Value)} {oc_right kV_right dc_right pm_right cd_right ct_right : Value}
    {od_well an_well : Option Addr} {sl_well : Array (Option Value)} {oc_well kV_well dc_well pm_well cd_well ct_well : Value}
    {od_law an_law : Option Addr} {sl_law : Array (Option Value)} {oc_law kV_law dc_law pm_law cd_law ct_law : Value}
    (a_made : PySem.W.nsIn K mainGlobals "_law_made" = some (some (.ref f_made))) (l_made : K.lookup f_made = some ⟨oc_made, od_made, .func (PySem.W.fnOf "_law_made" "_law_made" (defArgs s_made) (defBody s_made) (defScope s_made) .none kV_made dc_made pm_made an_made cd_made ct_made), sl_made⟩) (c_made : PySem.W.codeIn K cd_made "_law_made" = true) (k_made : PySem.W.keepIn K (.ref f_made) = true)
    (a_ring : PySem.W.nsIn K mainGlobals "_law_ring" = some (some (.ref f_ring))) (l_ring : K.lookup f_ring = some ⟨oc_ring, od_ring, .func (PySem.W.fnOf "_law_ring" "_law_ring" (defArgs s_ring) (defBody s_ring) (defScope s_ring) .none kV_ring dc_ring pm_ring an_ring cd_ring ct_ring), sl_ring⟩) (c_ring : PySem.W.codeIn K cd_ring "_law_ring" = true) (k_ring : PySem.W.keepIn K (.ref f_ring) = true)
    (a_all : PySem.W.nsIn K mainGlobals "_law_all" = some (some (.ref f_all))) (l_all : K.lookup f_all = some ⟨oc_all, od_all, .func (PySem.W.fnOf "_law_all" "_law_all" (defArgs s_all) (defBody s_all) (defScope s_all) .none kV_all dc_all pm_all an_all cd_all ct_all), sl_all⟩) (c_all : PySem.W.codeIn K cd_all "_law_all" = true) (k_all : PySem.W.keepIn K (.ref f_all) = true)
    (a_draw : PySem.W.nsIn K mainGlobals "_law_draw" = some (some (.ref f_draw))) (l_draw : K.lookup f_draw = some ⟨oc_draw, od_draw, .func (PySem.W.fnOf "_law_draw" "_law_draw" (defArgs s_draw) (defBody s_draw) (defScope s_draw) .none kV_draw dc_draw pm_draw an_draw cd_draw ct_draw), sl_draw⟩) (c_draw : PySem.W.codeIn K cd_draw "_law_draw" = true) (k_draw : PySem.W.keepIn K (.ref f_draw) = true)
    (a_counts : PySem.W.nsIn K mainGlobals "_law_counts" = some (some (.ref f_counts))) (l_counts : K.lookup f_counts = some ⟨oc_counts, od_counts, .func (PySem.W.fnOf "_law_counts" "_law_counts" (defArgs s_counts) (defBody s_counts) (defScope s_counts) .none kV_counts dc_counts pm_counts an_counts cd_counts ct_counts), sl_counts⟩) (c_counts : PySem.W.codeIn K cd_counts "_law_counts" = true) (k_counts : PySem.W.keepIn K (.ref f_counts) = true)
    (a_ends : PySem.W.nsIn K mainGlobals "_law_ends" = some (some (.ref f_ends))) (l_ends : K.lookup f_ends = some ⟨oc_ends, od_ends, .func (PySem.W.fnOf "_law_ends" "_law_ends" (defArgs s_ends) (defBody s_ends) (defScope s_ends) .none kV_ends dc_ends pm_ends an_ends cd_ends ct_ends), sl_ends⟩) (c_ends : PySem.W.codeIn K cd_ends "_law_ends" = true) (k_ends : PySem.W.keepIn K (.ref f_ends) = true)
    (a_pairs : PySem.W.nsIn K mainGlobals "_law_pairs" = some (some (.ref f_pairs))) (l_pairs : K.lookup f_pairs = some ⟨oc_pairs, od_pairs, .func (PySem.W.fnOf "_law_pairs" "_law_pairs" (defArgs s_pairs) (defBody s_pairs) (defScope s_pairs) .none kV_pairs dc_pairs pm_pairs an_pairs cd_pairs ct_pairs), sl_pairs⟩) (c_pairs : PySem.W.codeIn K cd_pairs "_law_pairs" = true) (k_pairs : PySem.W.keepIn K (.ref f_pairs) = true)
    (a_same : PySem.W.nsIn K mainGlobals "_law_same" = some (some (.ref f_same))) (l_same : K.lookup f_same = some ⟨oc_same, od_same, .func (PySem.W.fnOf "_law_same" "_law_same" (defArgs s_same) (defBody s_same) (defScope s_same) .none kV_same dc_same pm_same an_same cd_same ct_same), sl_same⟩) (c_same : PySem.W.codeIn K cd_same "_law_same" = true) (k_same : PySem.W.keepIn K (.ref f_same) = true)
    (a_spoil : PySem.W.nsIn K mainGlobals "_law_spoil" = some (some (.ref f_spoil))) (l_spoil : K.lookup f_spoil = some ⟨oc_spoil, od_spoil, .func (PySem.W.fnOf "_law_spoil" "_law_spoil" (defArgs s_spoil) (defBody s_spoil) (defScope s_spoil) .none kV_spoil dc_spoil pm_spoil an_spoil cd_spoil ct_spoil), sl_spoil⟩) (c_spoil : PySem.W.codeIn K cd_spoil "_law_spoil" = true) (k_spoil : PySem.W.keepIn K (.ref f_spoil) = true)
    (a_p_check_counts : PySem.W.nsIn K mainGlobals "check_counts" = some (some (.ref f_p_check_counts))) (l_p_check_counts : K.lookup f_p_check_counts = some ⟨oc_p_check_counts, od_p_check_counts, .func (PySem.W.fnOf "check_counts" "check_counts" (defArgs s_p_check_counts) (defBody s_p_check_counts) (defScope s_p_check_counts) .none kV_p_check_counts dc_p_check_counts pm_p_check_counts an_p_check_counts cd_p_check_counts ct_p_check_counts), sl_p_check_counts⟩) (c_p_check_counts : PySem.W.codeIn K cd_p_check_counts "check_counts" = true) (k_p_check_counts : PySem.W.keepIn K (.ref f_p_check_counts) = true)
    (a_p_patterns : PySem.W.nsIn K mainGlobals "patterns" = some (some (.ref f_p_patterns))) (l_p_patterns : K.lookup f_p_patterns = some ⟨oc_p_patterns, od_p_patterns, .func (PySem.W.fnOf "patterns" "patterns" (defArgs s_p_patterns) (defBody s_p_patterns) (defScope s_p_patterns) .none kV_p_patterns dc_p_patterns pm_p_patterns an_p_patterns cd_p_patterns ct_p_patterns), sl_p_patterns⟩) (c_p_patterns : PySem.W.codeIn K cd_p_patterns "patterns" = true) (k_p_patterns : PySem.W.keepIn K (.ref f_p_patterns) = true)
    (a_p_remade : PySem.W.nsIn K mainGlobals "remade" = some (some (.ref f_p_remade))) (l_p_remade : K.lookup f_p_remade = some ⟨oc_p_remade, od_p_remade, .func (PySem.W.fnOf "remade" "remade" (defArgs s_p_remade) (defBody s_p_remade) (defScope s_p_remade) .none kV_p_remade dc_p_remade pm_p_remade an_p_remade cd_p_remade ct_p_remade), sl_p_remade⟩) (c_p_remade : PySem.W.codeIn K cd_p_remade "remade" = true) (k_p_remade : PySem.W.keepIn K (.ref f_p_remade) = true)
    (a_p_round_of : PySem.W.nsIn K mainGlobals "round_of" = some (some (.ref f_p_round_of))) (l_p_round_of : K.lookup f_p_round_of = some ⟨oc_p_round_of, od_p_round_of, .func (PySem.W.fnOf "round_of" "round_of" (defArgs s_p_round_of) (defBody s_p_round_of) (defScope s_p_round_of) .none kV_p_round_of dc_p_round_of pm_p_round_of an_p_round_of cd_p_round_of ct_p_round_of), sl_p_round_of⟩) (c_p_round_of : PySem.W.codeIn K cd_p_round_of "round_of" = true) (k_p_round_of : PySem.W.keepIn K (.ref f_p_round_of) = true)
    (a_p_all_mats : PySem.W.nsIn K mainGlobals "all_mats" = some (some (.ref f_p_all_mats))) (l_p_all_mats : K.lookup f_p_all_mats = some ⟨oc_p_all_mats, od_p_all_mats, .func (PySem.W.fnOf "all_mats" "all_mats" (defArgs s_p_all_mats) (defBody s_p_all_mats) (defScope s_p_all_mats) .none kV_p_all_mats dc_p_all_mats pm_p_all_mats an_p_all_mats cd_p_all_mats ct_p_all_mats), sl_p_all_mats⟩) (c_p_all_mats : PySem.W.codeIn K cd_p_all_mats "all_mats" = true) (k_p_all_mats : PySem.W.keepIn K (.ref f_p_all_mats) = true)
    (a_p_is_mat : PySem.W.nsIn K mainGlobals "is_mat" = some (some (.ref f_p_is_mat))) (l_p_is_mat : K.lookup f_p_is_mat = some ⟨oc_p_is_mat, od_p_is_mat, .func (PySem.W.fnOf "is_mat" "is_mat" (defArgs s_p_is_mat) (defBody s_p_is_mat) (defScope s_p_is_mat) .none kV_p_is_mat dc_p_is_mat pm_p_is_mat an_p_is_mat cd_p_is_mat ct_p_is_mat), sl_p_is_mat⟩) (c_p_is_mat : PySem.W.codeIn K cd_p_is_mat "is_mat" = true) (k_p_is_mat : PySem.W.keepIn K (.ref f_p_is_mat) = true)
    (a_p_checked_mat : PySem.W.nsIn K mainGlobals "checked_mat" = some (some (.ref f_p_checked_mat))) (l_p_checked_mat : K.lookup f_p_checked_mat = some ⟨oc_p_checked_mat, od_p_checked_mat, .func (PySem.W.fnOf "checked_mat" "checked_mat" (defArgs s_p_checked_mat) (defBody s_p_checked_mat) (defScope s_p_checked_mat) .none kV_p_checked_mat dc_p_checked_mat pm_p_checked_mat an_p_checked_mat cd_p_checked_mat ct_p_checked_mat), sl_p_checked_mat⟩) (c_p_checked_mat : PySem.W.codeIn K cd_p_checked_mat "checked_mat" = true) (k_p_checked_mat : PySem.W.keepIn K (.ref f_p_checked_mat) = true)
    (a_p_rank : PySem.W.nsIn K mainGlobals "rank" = some (some (.ref f_p_rank))) (l_p_rank : K.lookup f_p_rank = some ⟨oc_p_rank, od_p_rank, .func (PySem.W.fnOf "rank" "rank" (defArgs s_p_rank) (defBody s_p_rank) (defScope s_p_rank) .none kV_p_rank dc_p_rank pm_p_rank an_p_rank cd_p_rank ct_p_rank), sl_p_rank⟩) (c_p_rank : PySem.W.codeIn K cd_p_rank "rank" = true) (k_p_rank : PySem.W.keepIn K (.ref f_p_rank) = true)
    (a_p_strings : PySem.W.nsIn K mainGlobals "strings" = some (some (.ref f_p_strings))) (l_p_strings : K.lookup f_p_strings = some ⟨oc_p_strings, od_p_strings, .func (PySem.W.fnOf "strings" "strings" (defArgs s_p_strings) (defBody s_p_strings) (defScope s_p_strings) .none kV_p_strings dc_p_strings pm_p_strings an_p_strings cd_p_strings ct_p_strings), sl_p_strings⟩) (c_p_strings : PySem.W.codeIn K cd_p_strings "strings" = true) (k_p_strings : PySem.W.keepIn K (.ref f_p_strings) = true)
    (a_right : PySem.W.nsIn K mainGlobals "_law_right" = some (some (.ref f_right))) (l_right : K.lookup f_right = some ⟨oc_right, od_right, .func (PySem.W.fnOf "_law_right" "_law_right" (defArgs s_right) (defBody s_right) (defScope s_right) .none kV_right dc_right pm_right an_right cd_right ct_right), sl_right⟩) (c_right : PySem.W.codeIn K cd_right "_law_right" = true) (k_right : PySem.W.keepIn K (.ref f_right) = true)
    (a_well : PySem.W.nsIn K mainGlobals "_law_well" = some (some (.ref f_well))) (l_well : K.lookup f_well = some ⟨oc_well, od_well, .func (PySem.W.fnOf "_law_well" "_law_well" (defArgs s_well) (defBody s_well) (defScope s_well) .none kV_well dc_well pm_well an_well cd_well ct_well), sl_well⟩) (c_well : PySem.W.codeIn K cd_well "_law_well" = true) (k_well : PySem.W.keepIn K (.ref f_well) = true)
    (a_law : PySem.W.nsIn K mainGlobals "law" = some (some (.ref f_law))) (l_law : K.lookup f_law = some ⟨oc_law, od_law, .func (PySem.W.fnOf "law" "law" (defArgs s_law) (defBody s_law) (defScope s_law) .none kV_law dc_law pm_law an_law cd_law ct_law), sl_law⟩) (c_law : PySem.W.codeIn K cd_law "law" = true) (k_law : PySem.W.keepIn K (.ref f_law) = true)
    (z_bool : PySem.W.nsIn K mainGlobals "bool" = some none)
    (z_enumerate : PySem.W.nsIn K mainGlobals "enumerate" = some none)
    (z_int : PySem.W.nsIn K mainGlobals "int" = some none)
    (z_isinstance : PySem.W.nsIn K mainGlobals "isinstance" = some none)
    (z_len : PySem.W.nsIn K mainGlobals "len" = some none)
    (z_list : PySem.W.nsIn K mainGlobals "list" = some none)
    (z_max : PySem.W.nsIn K mainGlobals "max" = some none)
    (z_min : PySem.W.nsIn K mainGlobals "min" = some none)
    (z_range : PySem.W.nsIn K mainGlobals "range" = some none)
    (z_sorted : PySem.W.nsIn K mainGlobals "sorted" = some none)
    (z_str : PySem.W.nsIn K mainGlobals "str" = some none)
    (z_tuple : PySem.W.nsIn K mainGlobals "tuple" = some none)
    (z_zip : PySem.W.nsIn K mainGlobals "zip" = some none)
    : ∃ fd : FuncData, (∀ (s : Shared) (v : Value), BindsTo s fd ⟨[v], []⟩ [("_law_script", v)]) ∧ ∀ base : Heap, K.In base → base.Ns mainGlobals mg → FnOk l.prog w K mg base CX0 23 fa fd ["_law_script"] (spLaw K) := by
  have e := hfa.symm.trans (PySem.W.mg_of X G a_law)
  cases e
  have F_made := fun_mk (st := s_made) l_made c_made k_made
  have b_made := F_made.binds (ps := ["_law_up", "_law_down", "_law_pairs_here"]) fun _ _ _ _ _ _ us hl => match us, hl with | [_, _, _], _ => rfl
  have F_ring := fun_mk (st := s_ring) l_ring c_ring k_ring
  have b_ring := F_ring.binds (ps := ["_law_up", "_law_down"]) fun _ _ _ _ _ _ us hl => match us, hl with | [_, _], _ => rfl
  have F_all := fun_mk (st := s_all) l_all c_all k_all
  have b_all := F_all.binds (ps := ["_law_up", "_law_down"]) fun _ _ _ _ _ _ us hl => match us, hl with | [_, _], _ => rfl
  have F_draw := fun_mk (st := s_draw) l_draw c_draw k_draw
  have b_draw := F_draw.binds (ps := ["_law_well_here", "_law_limit"]) fun _ _ _ _ _ _ us hl => match us, hl with | [_, _], _ => rfl
  have F_counts := fun_mk (st := s_counts) l_counts c_counts k_counts
  have b_counts := F_counts.binds (ps := ["_law_well_here", "_law_most"]) fun _ _ _ _ _ _ us hl => match us, hl with | [_, _], _ => rfl
  have F_ends := fun_mk (st := s_ends) l_ends c_ends k_ends
  have b_ends := F_ends.binds (ps := ["_law_up", "_law_pairs_here"]) fun _ _ _ _ _ _ us hl => match us, hl with | [_, _], _ => rfl
  have F_pairs := fun_mk (st := s_pairs) l_pairs c_pairs k_pairs
  have b_pairs := F_pairs.binds (ps := ["_law_well_here", "_law_up", "_law_down"]) fun _ _ _ _ _ _ us hl => match us, hl with | [_, _, _], _ => rfl
  have F_same := fun_mk (st := s_same) l_same c_same k_same
  have b_same := F_same.binds (ps := ["_law_found", "_law_due"]) fun _ _ _ _ _ _ us hl => match us, hl with | [_, _], _ => rfl
  have F_spoil := fun_mk (st := s_spoil) l_spoil c_spoil k_spoil
  have b_spoil := F_spoil.binds (ps := ["_law_well_here", "_law_rows"]) fun _ _ _ _ _ _ us hl => match us, hl with | [_, _], _ => rfl
  have F_p_check_counts := fun_mk (st := s_p_check_counts) l_p_check_counts c_p_check_counts k_p_check_counts
  have b_p_check_counts := F_p_check_counts.binds (ps := ["n", "m"]) fun _ _ _ _ _ _ us hl => match us, hl with | [_, _], _ => rfl
  have F_p_patterns := fun_mk (st := s_p_patterns) l_p_patterns c_p_patterns k_p_patterns
  have b_p_patterns := F_p_patterns.binds (ps := ["half"]) fun _ _ _ _ _ _ us hl => match us, hl with | [_], _ => rfl
  have F_p_remade := fun_mk (st := s_p_remade) l_p_remade c_p_remade k_p_remade
  have b_p_remade := F_p_remade.binds (ps := ["n", "m", "mates", "place"]) fun _ _ _ _ _ _ us hl => match us, hl with | [_, _, _, _], _ => rfl
  have F_p_round_of := fun_mk (st := s_p_round_of) l_p_round_of c_p_round_of k_p_round_of
  have b_p_round_of := F_p_round_of.binds (ps := ["n", "m"]) fun _ _ _ _ _ _ us hl => match us, hl with | [_, _], _ => rfl
  have F_p_all_mats := fun_mk (st := s_p_all_mats) l_p_all_mats c_p_all_mats k_p_all_mats
  have b_p_all_mats := F_p_all_mats.binds (ps := ["n", "m"]) fun _ _ _ _ _ _ us hl => match us, hl with | [_, _], _ => rfl
  have F_p_is_mat := fun_mk (st := s_p_is_mat) l_p_is_mat c_p_is_mat k_p_is_mat
  have b_p_is_mat := F_p_is_mat.binds (ps := ["told"]) fun _ _ _ _ _ _ us hl => match us, hl with | [_], _ => rfl
  have F_p_checked_mat := fun_mk (st := s_p_checked_mat) l_p_checked_mat c_p_checked_mat k_p_checked_mat
  have b_p_checked_mat := F_p_checked_mat.binds (ps := ["mat"]) fun _ _ _ _ _ _ us hl => match us, hl with | [_], _ => rfl
  have F_p_rank := fun_mk (st := s_p_rank) l_p_rank c_p_rank k_p_rank
  have b_p_rank := F_p_rank.binds (ps := ["mat"]) fun _ _ _ _ _ _ us hl => match us, hl with | [_], _ => rfl
  have F_p_strings := fun_mk (st := s_p_strings) l_p_strings c_p_strings k_p_strings
  have b_p_strings := F_p_strings.binds (ps := ["mat"]) fun _ _ _ _ _ _ us hl => match us, hl with | [_], _ => rfl
  have F_right := fun_mk (st := s_right) l_right c_right k_right
  have b_right := F_right.binds (ps := ["_law_well_here", "_law_most"]) fun _ _ _ _ _ _ us hl => match us, hl with | [_, _], _ => rfl
  have F_well := fun_mk (st := s_well) l_well c_well k_well
  have b_well := F_well.binds (ps := ["_law_script", "_law_place"]) fun _ _ _ _ _ _ us hl => match us, hl with | [_, _], _ => rfl
  have F_law := fun_mk (st := s_law) l_law c_law k_law
  have b_law := F_law.binds (ps := ["_law_script"]) fun _ _ _ _ _ _ us hl => match us, hl with | [_], _ => rfl
  have T : Tx K mg := ⟨_, _, F_made, b_made, PySem.W.mg_of X G a_made, _, _, F_ring, b_ring, PySem.W.mg_of X G a_ring, _, _, F_all, b_all, PySem.W.mg_of X G a_all, _, _, F_draw, b_draw, PySem.W.mg_of X G a_draw, _, _, F_counts, b_counts, PySem.W.mg_of X G a_counts, _, _, F_ends, b_ends, PySem.W.mg_of X G a_ends, _, _, F_pairs, b_pairs, PySem.W.mg_of X G a_pairs, _, _, F_same, b_same, PySem.W.mg_of X G a_same, _, _, F_spoil, b_spoil, PySem.W.mg_of X G a_spoil, _, _, F_p_check_counts, b_p_check_counts, PySem.W.mg_of X G a_p_check_counts, _, _, F_p_patterns, b_p_patterns, PySem.W.mg_of X G a_p_patterns, _, _, F_p_remade, b_p_remade, PySem.W.mg_of X G a_p_remade, _, _, F_p_round_of, b_p_round_of, PySem.W.mg_of X G a_p_round_of, _, _, F_p_all_mats, b_p_all_mats, PySem.W.mg_of X G a_p_all_mats, _, _, F_p_is_mat, b_p_is_mat, PySem.W.mg_of X G a_p_is_mat, _, _, F_p_checked_mat, b_p_checked_mat, PySem.W.mg_of X G a_p_checked_mat, _, _, F_p_rank, b_p_rank, PySem.W.mg_of X G a_p_rank, _, _, F_p_strings, b_p_strings, PySem.W.mg_of X G a_p_strings, _, _, F_right, b_right, PySem.W.mg_of X G a_right, _, _, F_well, b_well, PySem.W.mg_of X G a_well, _, _, F_law, b_law, PySem.W.mg_of X G a_law, PySem.W.mg_none_of X G z_bool, PySem.W.mg_none_of X G z_enumerate, PySem.W.mg_none_of X G z_int, PySem.W.mg_none_of X G z_isinstance, PySem.W.mg_none_of X G z_len, PySem.W.mg_none_of X G z_list, PySem.W.mg_none_of X G z_max, PySem.W.mg_none_of X G z_min, PySem.W.mg_none_of X G z_range, PySem.W.mg_none_of X G z_sorted, PySem.W.mg_none_of X G z_str, PySem.W.mg_none_of X G z_tuple, PySem.W.mg_none_of X G z_zip⟩
  exact ⟨_, fun s v => .of_eq rfl, fun base _ _ => (ok_law (P := l.prog) (w := w) (base := base) ⟨_, _, F_made, b_made, PySem.W.mg_of X G a_made, _, _, F_ring, b_ring, PySem.W.mg_of X G a_ring, _, _, F_all, b_all, PySem.W.mg_of X G a_all, _, _, F_draw, b_draw, PySem.W.mg_of X G a_draw, _, _, F_counts, b_counts, PySem.W.mg_of X G a_counts, _, _, F_ends, b_ends, PySem.W.mg_of X G a_ends, _, _, F_pairs, b_pairs, PySem.W.mg_of X G a_pairs, _, _, F_same, b_same, PySem.W.mg_of X G a_same, _, _, F_spoil, b_spoil, PySem.W.mg_of X G a_spoil, _, _, F_p_check_counts, b_p_check_counts, PySem.W.mg_of X G a_p_check_counts, _, _, F_p_patterns, b_p_patterns, PySem.W.mg_of X G a_p_patterns, _, _, F_p_remade, b_p_remade, PySem.W.mg_of X G a_p_remade, _, _, F_p_round_of, b_p_round_of, PySem.W.mg_of X G a_p_round_of, _, _, F_p_all_mats, b_p_all_mats, PySem.W.mg_of X G a_p_all_mats, _, _, F_p_is_mat, b_p_is_mat, PySem.W.mg_of X G a_p_is_mat, _, _, F_p_checked_mat, b_p_checked_mat, PySem.W.mg_of X G a_p_checked_mat, _, _, F_p_rank, b_p_rank, PySem.W.mg_of X G a_p_rank, _, _, F_p_strings, b_p_strings, PySem.W.mg_of X G a_p_strings, _, _, F_right, b_right, PySem.W.mg_of X G a_right, _, _, F_well, b_well, PySem.W.mg_of X G a_well, _, _, F_law, b_law, PySem.W.mg_of X G a_law, PySem.W.mg_none_of X G z_bool, PySem.W.mg_none_of X G z_enumerate, PySem.W.mg_none_of X G z_int, PySem.W.mg_none_of X G z_isinstance, PySem.W.mg_none_of X G z_len, PySem.W.mg_none_of X G z_list, PySem.W.mg_none_of X G z_max, PySem.W.mg_none_of X G z_min, PySem.W.mg_none_of X G z_range, PySem.W.mg_none_of X G z_sorted, PySem.W.mg_none_of X G z_str, PySem.W.mg_none_of X G z_tuple, PySem.W.mg_none_of X G z_zip⟩).imp fun vs H Q E q => law_sp rfl hlaw q⟩
end VS
open PySem PySem.W PyProof.Rows
set_option maxHeartbeats 0 in
theorem PySem.Challenge.cw_hookmats_k11_lists_spoilt_holds : PySem.Challenge.rw_hookmats_k11_lists_spoilt.Holds := by
  w_on; o_law; k_head; (case hw => w_witness2)
  k_fill
  refine L2.walk_of (l := PySem.Challenge.rw_hookmats_k11_lists_spoilt) (n := 63) (k := 23) (x := "_law_script") (CX := fun _ => L2.CX0) (sp := fun w => VS.spLaw _) rfl (by decide) rfl ⟨rfl, by decide, by decide⟩ (fun w h Y => PySem.W.kIn_of Y) ?F (fun _ _ a ns hl _ hS => ⟨a, ns, rfl, hS, hl, fun _ => rfl⟩) (fun _ _ _ _ _ h => h)
  case F =>
    intro w mg fa h KX G hmg
    refine' VS.all_mk KX G hmg VS.law_holds ?a_made ?l_made ?c_made ?k_made ?a_ring ?l_ring ?c_ring ?k_ring ?a_all ?l_all ?c_all ?k_all ?a_draw ?l_draw ?c_draw ?k_draw ?a_counts ?l_counts ?c_counts ?k_counts ?a_ends ?l_ends ?c_ends ?k_ends ?a_pairs ?l_pairs ?c_pairs ?k_pairs ?a_same ?l_same ?c_same ?k_same ?a_spoil ?l_spoil ?c_spoil ?k_spoil ?a_p_check_counts ?l_p_check_counts ?c_p_check_counts ?k_p_check_counts ?a_p_patterns ?l_p_patterns ?c_p_patterns ?k_p_patterns ?a_p_remade ?l_p_remade ?c_p_remade ?k_p_remade ?a_p_round_of ?l_p_round_of ?c_p_round_of ?k_p_round_of ?a_p_all_mats ?l_p_all_mats ?c_p_all_mats ?k_p_all_mats ?a_p_is_mat ?l_p_is_mat ?c_p_is_mat ?k_p_is_mat ?a_p_checked_mat ?l_p_checked_mat ?c_p_checked_mat ?k_p_checked_mat ?a_p_rank ?l_p_rank ?c_p_rank ?k_p_rank ?a_p_strings ?l_p_strings ?c_p_strings ?k_p_strings ?a_right ?l_right ?c_right ?k_right ?a_well ?l_well ?c_well ?k_well ?a_law ?l_law ?c_law ?k_law ?z_bool ?z_enumerate ?z_int ?z_isinstance ?z_len ?z_list ?z_max ?z_min ?z_range ?z_sorted ?z_str ?z_tuple ?z_zip
    (case a_made => k_is); (case l_made => k_is); (case c_made => k_is); (case k_made => k_is); (case a_ring => k_is); (case l_ring => k_is); (case c_ring => k_is); (case k_ring => k_is); (case a_all => k_is); (case l_all => k_is); (case c_all => k_is); (case k_all => k_is); (case a_draw => k_is); (case l_draw => k_is); (case c_draw => k_is); (case k_draw => k_is); (case a_counts => k_is); (case l_counts => k_is); (case c_counts => k_is); (case k_counts => k_is); (case a_ends => k_is); (case l_ends => k_is); (case c_ends => k_is); (case k_ends => k_is); (case a_pairs => k_is); (case l_pairs => k_is); (case c_pairs => k_is); (case k_pairs => k_is); (case a_same => k_is); (case l_same => k_is); (case c_same => k_is); (case k_same => k_is); (case a_spoil => k_is); (case l_spoil => k_is); (case c_spoil => k_is); (case k_spoil => k_is); (case a_p_check_counts => k_is); (case l_p_check_counts => k_is); (case c_p_check_counts => k_is); (case k_p_check_counts => k_is); (case a_p_patterns => k_is); (case l_p_patterns => k_is); (case c_p_patterns => k_is); (case k_p_patterns => k_is); (case a_p_remade => k_is); (case l_p_remade => k_is); (case c_p_remade => k_is); (case k_p_remade => k_is); (case a_p_round_of => k_is); (case l_p_round_of => k_is); (case c_p_round_of => k_is); (case k_p_round_of => k_is); (case a_p_all_mats => k_is); (case l_p_all_mats => k_is); (case c_p_all_mats => k_is); (case k_p_all_mats => k_is); (case a_p_is_mat => k_is); (case l_p_is_mat => k_is); (case c_p_is_mat => k_is); (case k_p_is_mat => k_is); (case a_p_checked_mat => k_is); (case l_p_checked_mat => k_is); (case c_p_checked_mat => k_is); (case k_p_checked_mat => k_is); (case a_p_rank => k_is); (case l_p_rank => k_is); (case c_p_rank => k_is); (case k_p_rank => k_is); (case a_p_strings => k_is); (case l_p_strings => k_is); (case c_p_strings => k_is); (case k_p_strings => k_is); (case a_right => k_is); (case l_right => k_is); (case c_right => k_is); (case k_right => k_is); (case a_well => k_is); (case l_well => k_is); (case c_well => k_is); (case k_well => k_is); (case a_law => k_is); (case l_law => k_is); (case c_law => k_is); (case k_law => k_is); (case z_bool => k_is); (case z_enumerate => k_is); (case z_int => k_is); (case z_isinstance => k_is); (case z_len => k_is); (case z_list => k_is); (case z_max => k_is); (case z_min => k_is); (case z_range => k_is); (case z_sorted => k_is); (case z_str => k_is); (case z_tuple => k_is); (case z_zip => k_is)
